import PyProof.Rows.All
import Wide.All
import OpenK.AllK
import Wide.FinOn
import HandS.ForMost
import HandS.ForExc
import HandS.Flow
import HandS.Deep
import HandS.DeepEq
import HandS.Zip
import HandS.IsInst
import HandS.Defaults
import HandS.CallSlots
import HandS.Wide
import HandS.TupLe
import HandS.TupAny
import HandS.HeadHook1
import HandS.WideBits
import KE.DataCmp
import HandS.Codes
import KE.GoesZip
import KE.GoesMore
import KE.GoesEnum
import KE.SortData
import PyProof.TupleOfStr
import HandS.Words
import HandS.HeadHook2
import HandS.Style
import HandS.HeadEnd
import Lean
import HandS.Head0
import HandS.Head1
import HandS.Head2
import PySem.Challenge.RW_officepapers_k89_calendars_routes_and_co
set_option Elab.async false
set_option linter.all false
set_option maxRecDepth 100000
set_option maxHeartbeats 0
/-! Layer Z, part 1: pure values, located objects, readings by denotations. -/
namespace OfP
open PySem PySem.Spec L2
open PyProof.Rows hiding St

/-- a value as data; loc: a located (changing) object; fn: what the module's name stands for -/
inductive PV where
  | non | bl (b : Bool) | int (i : Int) | str (x : Str) | ty (n : String)
  | tup (xs : List PV) | lst (xs : List PV) | scr (xs : List PV) | dct (ks : List Key) (xs : List PV)
  | loc (n : Nat) | fn (x : Str)
  deriving Inhabited
/-- a located object -/
inductive PO where
  | lst (xs : List PV) | dct (ks : List Key) (xs : List PV) | ins (c : Str) (fs : List (Str × PV))
  deriving Inhabited
abbrev PH := List PO
/-- an exception: its class's name, its field -/
structure PX where
  cls : Str
  arg : Option (Str × PV)
inductive Res (α : Type) where
  | ok (a : α) (ph : PH) | err (x : PX) (ph : PH) | bad
abbrev ZEnv := List (Option PV)
abbrev DG (α : Type) := ZEnv → PH → Res α
abbrev DE := DG PV
abbrev DT := DG Bool
abbrev DA := DG (List PV)
abbrev DF := List PV → PH → Res PV
inductive SRes where
  | nx (e : ZEnv) (ph : PH) | rt (v : PV) (ph : PH) | bk (e : ZEnv) (ph : PH) | ct (e : ZEnv) (ph : PH) | err (x : PX) (e : ZEnv) (ph : PH) | bad
abbrev DS := ZEnv → PH → SRes

def Res.bind {α β : Type} (r : Res α) (f : α → PH → Res β) : Res β := match r with
  | .ok a ph => f a ph
  | .err x ph => .err x ph
  | .bad => .bad
def Res.ofO {α : Type} (o : Option α) (ph : PH) : Res α := match o with
  | some a => .ok a ph
  | none => .bad

/-! ### what a value stands for -/
/-- the located addresses, in order; the addresses that no plain value uses -/
structure Phi where
  loc : List Addr
  av : List Addr
  sub : ∀ a ∈ loc, a ∈ av
def KTup (K : PySem.W.Frag) (a : Addr) (xs : List V) : Prop :=
  ∃ (o : Obj) (its : Array Value) (n : Nat), K.lookup a = some o ∧ o.cls = .type "tuple" ∧ o.data = .seq its n ∧ its.size ≤ sizeLine ∧ Vals xs its.toList
def KLst (K : PySem.W.Frag) (a : Addr) (xs : List V) : Prop :=
  ∃ (o : Obj) (its : Array Value) (n : Nat), K.lookup a = some o ∧ o.cls = .type "list" ∧ o.dict = none ∧ o.data = .seq its n ∧ its.size ≤ sizeLine ∧ Vals xs its.toList
mutual
def Rep (K : PySem.W.Frag) (φ : Phi) (H : Hp) : PV → V → Prop
  | .non, v => v = .non
  | .bl b, v => v = .bl b
  | .int i, v => v = .int i
  | .str x, v => v = .str x
  | .ty n, v => v = .ty n
  | .tup xs, v => ∃ a vs, v = .ref a ∧ ((a ∉ φ.av ∧ Rd H a (.tup vs)) ∨ KTup K a vs) ∧ RepL K φ H xs vs
  | .lst xs, v => ∃ a vs, v = .ref a ∧ a ∉ φ.av ∧ H a = some (.lst vs) ∧ RepL K φ H xs vs
  | .scr xs, v => ∃ a vs, v = .ref a ∧ ((a ∉ φ.av ∧ Rd H a (.lst vs)) ∨ KLst K a vs) ∧ RepL K φ H xs vs
  | .dct ks xs, v => ∃ a kvs, v = .ref a ∧ a ∉ φ.av ∧ Rd H a (.dK kvs) ∧ kvs.map (·.1) = ks ∧ RepL K φ H xs (kvs.map (·.2))
  | .loc n, v => ∃ a, φ.loc[n]? = some a ∧ v = .ref a
  | .fn x, v => v = .ref (He.ga K x)
def RepL (K : PySem.W.Frag) (φ : Phi) (H : Hp) : List PV → List V → Prop
  | [], vs => vs = []
  | x :: xs, vs => ∃ v ws, vs = v :: ws ∧ Rep K φ H x v ∧ RepL K φ H xs ws
end
def RepO (K : PySem.W.Frag) (φ : Phi) (H : Hp) (a : Addr) : PO → Prop
  | .lst xs => ∃ vs, H a = some (.lst vs) ∧ RepL K φ H xs vs
  | .dct ks xs => ∃ kvs, H a = some (.dK kvs) ∧ kvs.map (·.1) = ks ∧ RepL K φ H xs (kvs.map (·.2))
  | .ins c fs => ∃ dx ws, H a = some (.ins (He.ga K c) dx ws) ∧ ws.map (·.1) = fs.map (·.1) ∧ RepL K φ H (fs.map (·.2)) (ws.map (·.2))
structure SR (K : PySem.W.Frag) (φ : Phi) (H : Hp) (ph : PH) : Prop where
  len : φ.loc.length = ph.length
  nd : φ.loc.Nodup
  tr : ∀ a ∈ φ.av, ∃ o, H a = some o
  ob : ∀ (n : Nat) (a : Addr) (o : PO), φ.loc[n]? = some a → ph[n]? = some o → RepO K φ H a o
structure Ext (φ : Phi) (H : Hp) (φ' : Phi) (H' : Hp) : Prop where
  ext : ∃ ψ, φ'.loc = φ.loc ++ ψ ∧ ∀ a ∈ ψ, H a = none
  av : ∀ a ∈ φ'.av, a ∈ φ.av ∨ H a = none
  mo : ∀ a ∈ φ.av, a ∈ φ'.av
  kp : ∀ a o, H a = some o → a ∉ φ.loc → H' a = some o
  dom : ∀ a o, H a = some o → ∃ o', H' a = some o'
def RepX (K : PySem.W.Frag) (φ : Phi) (H : Hp) (x : PX) (c : Value) (d : Option Addr) : Prop :=
  c = .ref (He.ga K x.cls) ∧ (match x.arg with
    | none => d = none
    | some (f, p) => ∃ a v, d = some a ∧ a ∉ φ.av ∧ H a = some (.xd [(f, v)]) ∧ Rep K φ H p v)
structure RepS (K : PySem.W.Frag) (φ : Phi) (H : Hp) (σ : St) (env : ZEnv) : Prop where
  len : σ.length = env.length
  at_ : ∀ (i : Nat) (p : PV), env[i]? = some (some p) → ∃ v, σ[i]? = some (some v) ∧ Rep K φ H p v

section
variable {K : PySem.W.Frag} {φ φ' φ'' : Phi} {H H' H'' : Hp} {ph : PH}
theorem Ext.refl : Ext φ H φ H := ⟨⟨[], (List.append_nil _).symm, fun _ h => absurd h List.not_mem_nil⟩, fun _ h => .inl h, fun _ h => h, fun _ _ h _ => h, fun _ o h => ⟨o, h⟩⟩
theorem Ext.free (e : Ext φ H φ' H') {a : Addr} (h : H' a = Option.none) : H a = Option.none := by
  cases q : H a with
  | none => rfl
  | some o =>
    obtain ⟨o', q'⟩ := e.dom a o q
    rw [h] at q'
    cases q'
theorem Ext.trans (a : Ext φ H φ' H') (b : Ext φ' H' φ'' H'') : Ext φ H φ'' H'' := by
  obtain ⟨ψ, e, n⟩ := a.ext
  obtain ⟨ψ2, e2, n2⟩ := b.ext
  refine ⟨⟨ψ ++ ψ2, by rw [e2, e, List.append_assoc], fun c hc => ?_⟩, fun c hc => ?_, fun c hc => b.mo c (a.mo c hc), fun c o h hn => ?_, fun c o h => ?_⟩
  · rcases List.mem_append.mp hc with h | h
    · exact n c h
    · exact a.free (n2 c h)
  · rcases b.av c hc with h | h
    · exact a.av c h
    · exact .inr (a.free h)
  · refine b.kp c o (a.kp c o h hn) ?_
    rw [e]
    intro hm
    rcases List.mem_append.mp hm with h1 | h1
    · exact hn h1
    · rw [n c h1] at h; cases h
  · obtain ⟨o1, q1⟩ := a.dom c o h
    exact b.dom c o1 q1
theorem Ext.notin (a : Ext φ H φ' H') {c : Addr} {o : HO} (h : H c = some o) (hn : c ∉ φ.av) : c ∉ φ'.av := by
  intro hm
  rcases a.av c hm with h1 | h1
  · exact hn h1
  · rw [h1] at h; cases h
theorem Ext.same (s : Same H H') : Ext φ H φ H' := ⟨⟨[], (List.append_nil _).symm, fun _ h => absurd h List.not_mem_nil⟩, fun _ h => .inl h, fun _ h => h, fun a o h _ => s a o h, fun a o h => ⟨o, s a o h⟩⟩
theorem Ext.rd (a : Ext φ H φ' H') {c : Addr} {o : HO} (h : Rd H c o) (hn : c ∉ φ.av) : Rd H' c o ∧ c ∉ φ'.av := by
  rcases h with h | ⟨u, h⟩
  · exact ⟨.inl (a.kp _ _ h fun z => hn (φ.sub _ z)), a.notin h hn⟩
  · exact ⟨.inr ⟨u, a.kp _ _ h fun z => hn (φ.sub _ z)⟩, a.notin h hn⟩
mutual
theorem Rep.mono (e : Ext φ H φ' H') : ∀ (p : PV) (v : V), Rep K φ H p v → Rep K φ' H' p v
  | .non, _, h => h
  | .bl _, _, h => h
  | .int _, _, h => h
  | .str _, _, h => h
  | .ty _, _, h => h
  | .fn _, _, h => h
  | .tup xs, v, h => by
    unfold Rep at h ⊢
    obtain ⟨a, vs, ev, hd, hl⟩ := h
    refine ⟨a, vs, ev, ?_, RepL.mono e xs vs hl⟩
    rcases hd with ⟨hn, hr⟩ | hk
    · exact .inl ⟨(e.rd hr hn).2, (e.rd hr hn).1⟩
    · exact .inr hk
  | .lst xs, v, h => by
    unfold Rep at h ⊢
    obtain ⟨a, vs, ev, hn, hr, hl⟩ := h
    exact ⟨a, vs, ev, e.notin hr hn, e.kp _ _ hr fun z => hn (φ.sub _ z), RepL.mono e xs vs hl⟩
  | .scr xs, v, h => by
    unfold Rep at h ⊢
    obtain ⟨a, vs, ev, hd, hl⟩ := h
    refine ⟨a, vs, ev, ?_, RepL.mono e xs vs hl⟩
    rcases hd with ⟨hn, hr⟩ | hk
    · exact .inl ⟨(e.rd hr hn).2, (e.rd hr hn).1⟩
    · exact .inr hk
  | .dct ks xs, v, h => by
    unfold Rep at h ⊢
    obtain ⟨a, kvs, ev, hn, hr, hk, hl⟩ := h
    exact ⟨a, kvs, ev, (e.rd hr hn).2, (e.rd hr hn).1, hk, RepL.mono e xs _ hl⟩
  | .loc n, v, h => by
    unfold Rep at h ⊢
    obtain ⟨a, hn, ev⟩ := h
    obtain ⟨ψ, e1, _⟩ := e.ext
    refine ⟨a, ?_, ev⟩
    rw [e1, List.getElem?_append_left (List.getElem?_eq_some_iff.mp hn).1]
    exact hn
theorem RepL.mono (e : Ext φ H φ' H') : ∀ (ps : List PV) (vs : List V), RepL K φ H ps vs → RepL K φ' H' ps vs
  | [], _, h => h
  | p :: ps, vs, h => by
    unfold RepL at h ⊢
    obtain ⟨v, ws, ev, h1, h2⟩ := h
    exact ⟨v, ws, ev, Rep.mono e p v h1, RepL.mono e ps ws h2⟩
end
theorem RepL.nil : RepL K φ H [] [] := by unfold RepL; rfl
theorem RepL.cons {p : PV} {ps : List PV} {v : V} {vs : List V} (h : Rep K φ H p v) (t : RepL K φ H ps vs) : RepL K φ H (p :: ps) (v :: vs) := by unfold RepL; exact ⟨v, vs, rfl, h, t⟩
theorem RepL.inv {p : PV} {ps : List PV} {vs : List V} (h : RepL K φ H (p :: ps) vs) : ∃ v ws, vs = v :: ws ∧ Rep K φ H p v ∧ RepL K φ H ps ws := by unfold RepL at h; exact h
theorem RepL.inv0 {vs : List V} (h : RepL K φ H [] vs) : vs = [] := by unfold RepL at h; exact h
theorem RepL.length : ∀ {ps : List PV} {vs : List V}, RepL K φ H ps vs → vs.length = ps.length
  | [], _, h => by rw [h.inv0]; rfl
  | p :: ps, vs, h => by
    obtain ⟨v, ws, rfl, _, t⟩ := h.inv
    rw [List.length_cons, List.length_cons, t.length]
theorem RepL.append : ∀ {ps qs : List PV} {vs ws : List V}, RepL K φ H ps vs → RepL K φ H qs ws → RepL K φ H (ps ++ qs) (vs ++ ws)
  | [], _, _, _, h, t => by rw [h.inv0]; exact t
  | p :: ps, _, vs, _, h, t => by
    obtain ⟨v, ws, rfl, h1, h2⟩ := h.inv
    exact .cons h1 (h2.append t)
theorem RepL.get : ∀ {ps : List PV} {vs : List V} {i : Nat} {p : PV}, RepL K φ H ps vs → ps[i]? = some p → ∃ v, vs[i]? = some v ∧ Rep K φ H p v
  | [], _, _, _, _, e => by simp at e
  | p :: ps, vs, 0, q, h, e => by
    obtain ⟨v, ws, rfl, h1, h2⟩ := h.inv
    simp at e; subst e
    exact ⟨v, rfl, h1⟩
  | p :: ps, vs, i + 1, q, h, e => by
    obtain ⟨v, ws, rfl, h1, h2⟩ := h.inv
    obtain ⟨u, e1, r⟩ := h2.get (i := i) (by simpa using e)
    exact ⟨u, by simpa using e1, r⟩
theorem RepL.get' : ∀ {ps : List PV} {vs : List V} {i : Nat} {v : V}, RepL K φ H ps vs → vs[i]? = some v → ∃ p, ps[i]? = some p ∧ Rep K φ H p v
  | [], _, _, _, h, e => by rw [h.inv0] at e; simp at e
  | p :: ps, vs, 0, q, h, e => by
    obtain ⟨v, ws, rfl, h1, h2⟩ := h.inv
    simp at e; subst e
    exact ⟨p, rfl, h1⟩
  | p :: ps, vs, i + 1, q, h, e => by
    obtain ⟨v, ws, rfl, h1, h2⟩ := h.inv
    obtain ⟨u, e1, r⟩ := h2.get' (i := i) (by simpa using e)
    exact ⟨u, by simpa using e1, r⟩
theorem RepL.take : ∀ {ps : List PV} {vs : List V} (n : Nat), RepL K φ H ps vs → RepL K φ H (ps.take n) (vs.take n)
  | _, _, 0, _ => by simp [RepL.nil]
  | [], _, n + 1, h => by rw [h.inv0]; exact .nil
  | p :: ps, vs, n + 1, h => by
    obtain ⟨v, ws, rfl, h1, h2⟩ := h.inv
    exact .cons h1 (h2.take n)
theorem RepL.drop : ∀ {ps : List PV} {vs : List V} (n : Nat), RepL K φ H ps vs → RepL K φ H (ps.drop n) (vs.drop n)
  | _, _, 0, h => h
  | [], _, n + 1, h => by rw [h.inv0]; exact .nil
  | p :: ps, vs, n + 1, h => by
    obtain ⟨v, ws, rfl, h1, h2⟩ := h.inv
    exact h2.drop n
theorem RepL.set : ∀ {ps : List PV} {vs : List V} (i : Nat) {p : PV} {v : V}, RepL K φ H ps vs → Rep K φ H p v → RepL K φ H (ps.set i p) (vs.set i v)
  | [], _, _, _, _, h, _ => by rw [h.inv0]; exact .nil
  | q :: ps, vs, 0, p, v, h, r => by
    obtain ⟨u, ws, rfl, h1, h2⟩ := h.inv
    exact .cons r h2
  | q :: ps, vs, i + 1, p, v, h, r => by
    obtain ⟨u, ws, rfl, h1, h2⟩ := h.inv
    exact .cons h1 (h2.set i r)
theorem RepL.reverse : ∀ {ps : List PV} {vs : List V}, RepL K φ H ps vs → RepL K φ H ps.reverse vs.reverse
  | [], _, h => by rw [h.inv0]; exact .nil
  | p :: ps, vs, h => by
    obtain ⟨v, ws, rfl, h1, h2⟩ := h.inv
    rw [List.reverse_cons, List.reverse_cons]
    exact h2.reverse.append (.cons h1 .nil)
theorem RepS.mono {σ : St} {env : ZEnv} (r : RepS K φ H σ env) (e : Ext φ H φ' H') : RepS K φ' H' σ env :=
  ⟨r.len, fun i p h => let ⟨v, h1, h2⟩ := r.at_ i p h; ⟨v, h1, h2.mono e⟩⟩
theorem RepS.set {σ : St} {env : ZEnv} (r : RepS K φ H σ env) {i : Nat} {p : PV} {v : V} (h : Rep K φ H p v) : RepS K φ H (σ.set i (some v)) (env.set i (some p)) := by
  refine ⟨by simp [r.len], fun j q e => ?_⟩
  by_cases hj : i = j
  · subst hj
    by_cases hl : i < env.length
    · rw [List.getElem?_set_self hl] at e
      cases e
      exact ⟨v, by rw [List.getElem?_set_self (by rw [r.len]; exact hl)], h⟩
    · rw [List.getElem?_eq_none (by simpa using hl)] at e
      cases e
  · rw [List.getElem?_set_ne hj] at e
    obtain ⟨u, h1, h2⟩ := r.at_ j q e
    exact ⟨u, by rw [List.getElem?_set_ne hj]; exact h1, h2⟩
theorem RepO.mono {a : Addr} {o : PO} (e : Ext φ H φ' H') (h : RepO K φ H a o) (ha : H' a = H a) : RepO K φ' H' a o := by
  cases o with
  | lst xs => obtain ⟨vs, q, l⟩ := h; exact ⟨vs, ha.trans q, l.mono e⟩
  | dct ks xs => obtain ⟨kvs, q, hk, l⟩ := h; exact ⟨kvs, ha.trans q, hk, l.mono e⟩
  | ins c fs => obtain ⟨dx, ws, q, hk, l⟩ := h; exact ⟨dx, ws, ha.trans q, hk, l.mono e⟩
theorem RepO.tracked {a : Addr} {o : PO} (h : RepO K φ H a o) : ∃ u, H a = some u := by
  cases o with
  | lst xs => obtain ⟨vs, q, l⟩ := h; exact ⟨_, q⟩
  | dct ks xs => obtain ⟨kvs, q, hk, l⟩ := h; exact ⟨_, q⟩
  | ins c fs => obtain ⟨dx, ws, q, hk, l⟩ := h; exact ⟨_, q⟩
theorem SR.tracked (s : SR K φ H ph) {a : Addr} (h : a ∈ φ.loc) : ∃ u, H a = some u := by
  obtain ⟨n, hn, e⟩ := List.getElem_of_mem h
  have h2 : n < ph.length := by rw [← s.len]; exact hn
  exact (s.ob n a ph[n] (by rw [List.getElem?_eq_getElem hn, e]) (List.getElem?_eq_getElem h2)).tracked
theorem SR.same (s : SR K φ H ph) (e : Same H H') : SR K φ H' ph := ⟨s.len, s.nd, fun a h => let ⟨o, q⟩ := s.tr a h; ⟨o, e a o q⟩, fun n a o h1 h2 => by
  have r := s.ob n a o h1 h2
  obtain ⟨u, q⟩ := r.tracked
  exact r.mono (Ext.same e) (by rw [q]; exact e a u q)⟩
theorem SR.new (s : SR K φ H ph) {a : Addr} {o : HO} (h : H a = none) : SR K φ (upd H a o) ph ∧ Same H (upd H a o) := by
  have e : Same H (upd H a o) := fun b x q => by rw [upd_ne (ne_of_none q h)]; exact q
  exact ⟨s.same e, e⟩
theorem SR.fresh (s : SR K φ H ph) {a : Addr} (h : H a = none) : a ∉ φ.loc := fun hm => by
  obtain ⟨u, q⟩ := s.tracked hm
  rw [h] at q; cases q
/-- tuples and lists as the layer reads them -/
theorem Rep.sqT {p : List PV} {v : V} (h : Rep K φ H (.tup p) v) : ∃ a vs, v = .ref a ∧ SqT K H a vs ∧ RepL K φ H p vs := by
  unfold Rep at h
  obtain ⟨a, vs, ev, hd, hl⟩ := h
  rcases hd with ⟨_, hr⟩ | hk
  · exact ⟨a, vs, ev, .inl hr, hl⟩
  · exact ⟨a, vs, ev, .inr hk, hl⟩
theorem Rep.lst' {p : List PV} {v : V} (h : Rep K φ H (.lst p) v) : ∃ a vs, v = .ref a ∧ a ∉ φ.av ∧ H a = some (.lst vs) ∧ RepL K φ H p vs := by
  unfold Rep at h; exact h
theorem Rep.sqL {p : List PV} {v : V} (h : Rep K φ H (.lst p) v) : ∃ a vs, v = .ref a ∧ SqL K H a vs ∧ RepL K φ H p vs := by
  obtain ⟨a, vs, ev, hn, hr, hl⟩ := h.lst'
  exact ⟨a, vs, ev, .inl (.inl hr), hl⟩
theorem Rep.sqS {p : List PV} {v : V} (h : Rep K φ H (.scr p) v) : ∃ a vs, v = .ref a ∧ SqL K H a vs ∧ RepL K φ H p vs := by
  unfold Rep at h
  obtain ⟨a, vs, ev, hd, hl⟩ := h
  rcases hd with ⟨_, hr⟩ | hk
  · exact ⟨a, vs, ev, .inl hr, hl⟩
  · exact ⟨a, vs, ev, .inr hk, hl⟩
theorem Rep.loc' {n : Nat} {v : V} (h : Rep K φ H (.loc n) v) : ∃ a, φ.loc[n]? = some a ∧ v = .ref a := by
  unfold Rep at h; exact h
/-- other addresses to avoid -/
def Phi.less (φ : Phi) (a : Addr) (h : a ∉ φ.loc) : Phi := ⟨φ.loc, φ.av.filter (fun b => decide (b ≠ a)), fun b hb => List.mem_filter.mpr ⟨φ.sub b hb, decide_eq_true (fun e => h (e ▸ hb))⟩⟩
def Phi.more (φ : Phi) (a : Addr) : Phi := ⟨φ.loc, a :: φ.av, fun b hb => List.mem_cons_of_mem _ (φ.sub b hb)⟩
theorem Phi.less_av {φ : Phi} {a b : Addr} {h : a ∉ φ.loc} : b ∈ (φ.less a h).av ↔ b ∈ φ.av ∧ b ≠ a := by
  unfold Phi.less
  simp [List.mem_filter]
mutual
/-- fewer addresses to avoid, the same located ones -/
theorem Rep.weak (e : φ'.loc = φ.loc) (w : ∀ a ∈ φ'.av, a ∈ φ.av) : ∀ (p : PV) (v : V), Rep K φ H p v → Rep K φ' H p v
  | .non, _, h => h
  | .bl _, _, h => h
  | .int _, _, h => h
  | .str _, _, h => h
  | .ty _, _, h => h
  | .fn _, _, h => h
  | .tup xs, v, h => by
    unfold Rep at h ⊢
    obtain ⟨a, vs, ev, hd, hl⟩ := h
    exact ⟨a, vs, ev, hd.imp (fun q => ⟨fun z => q.1 (w _ z), q.2⟩) id, RepL.weak e w xs vs hl⟩
  | .lst xs, v, h => by
    unfold Rep at h ⊢
    obtain ⟨a, vs, ev, hn, hr, hl⟩ := h
    exact ⟨a, vs, ev, fun z => hn (w _ z), hr, RepL.weak e w xs vs hl⟩
  | .scr xs, v, h => by
    unfold Rep at h ⊢
    obtain ⟨a, vs, ev, hd, hl⟩ := h
    exact ⟨a, vs, ev, hd.imp (fun q => ⟨fun z => q.1 (w _ z), q.2⟩) id, RepL.weak e w xs vs hl⟩
  | .dct ks xs, v, h => by
    unfold Rep at h ⊢
    obtain ⟨a, kvs, ev, hn, hr, hk, hl⟩ := h
    exact ⟨a, kvs, ev, fun z => hn (w _ z), hr, hk, RepL.weak e w xs _ hl⟩
  | .loc n, v, h => by
    unfold Rep at h ⊢
    rw [e]
    exact h
theorem RepL.weak (e : φ'.loc = φ.loc) (w : ∀ a ∈ φ'.av, a ∈ φ.av) : ∀ (ps : List PV) (vs : List V), RepL K φ H ps vs → RepL K φ' H ps vs
  | [], _, h => h
  | p :: ps, vs, h => by
    unfold RepL at h ⊢
    obtain ⟨v, ws, ev, h1, h2⟩ := h
    exact ⟨v, ws, ev, Rep.weak e w p v h1, RepL.weak e w ps ws h2⟩
end
theorem RepO.weak (e : φ'.loc = φ.loc) (w : ∀ a ∈ φ'.av, a ∈ φ.av) {a : Addr} {o : PO} (h : RepO K φ H a o) : RepO K φ' H a o := by
  cases o with
  | lst xs => obtain ⟨vs, q, l⟩ := h; exact ⟨vs, q, l.weak e w⟩
  | dct ks xs => obtain ⟨kvs, q, hk, l⟩ := h; exact ⟨kvs, q, hk, l.weak e w⟩
  | ins c fs => obtain ⟨dx, ws, q, hk, l⟩ := h; exact ⟨dx, ws, q, hk, l.weak e w⟩
theorem SR.weak (e : φ'.loc = φ.loc) (w : ∀ a ∈ φ'.av, a ∈ φ.av) (s : SR K φ H ph) : SR K φ' H ph :=
  ⟨by rw [e]; exact s.len, by rw [e]; exact s.nd, fun a h => s.tr a (w a h), fun n a o h1 h2 => (s.ob n a o (by rw [← e]; exact h1) h2).weak e w⟩
/-- a new object at p, avoided from now on -/
theorem SR.push (s : SR K φ H ph) {a : Addr} {o : HO} (h : H a = none) : SR K (φ.more a) (upd H a o) ph ∧ Ext φ H (φ.more a) (upd H a o) := by
  obtain ⟨s1, e1⟩ := s.new (o := o) h
  have e2 : Ext φ H (φ.more a) (upd H a o) := ⟨⟨[], (List.append_nil _).symm, fun _ h => absurd h List.not_mem_nil⟩, fun b hb => by
    rcases List.mem_cons.mp (show b ∈ a :: φ.av from hb) with rfl | hb
    · exact .inr h
    · exact .inl hb, fun b hb => List.mem_cons_of_mem _ hb, fun b x q _ => e1 b x q, fun b x q => ⟨x, e1 b x q⟩⟩
  refine ⟨⟨s.len, s.nd, fun b hb => ?_, fun n b x h1 h2 => ?_⟩, e2⟩
  · rcases List.mem_cons.mp (show b ∈ a :: φ.av from hb) with rfl | hb
    · exact ⟨_, upd_same⟩
    · obtain ⟨x, q⟩ := s.tr b hb
      exact ⟨x, e1 b x q⟩
  have r := s.ob n b x h1 h2
  obtain ⟨u, q⟩ := r.tracked
  exact r.mono e2 (by rw [q]; exact e1 b u q)
theorem less_more {φ φ' : Phi} {H H' : Hp} {a : Addr} (e : Ext φ H φ' H') (ha : a ∉ φ'.loc) (hn : a ∉ φ.av) : Ext φ H (φ'.less a ha) H' :=
  ⟨e.ext, fun b hb => e.av b (Phi.less_av.mp hb).1, fun b hb => Phi.less_av.mpr ⟨e.mo b hb, fun z => hn (z ▸ hb)⟩, e.kp, e.dom⟩
theorem SR.nav (s : SR K φ H ph) {a : Addr} (h : H a = none) : a ∉ φ.av := fun hm => by
  obtain ⟨o, q⟩ := s.tr a hm
  rw [h] at q; cases q
theorem SR.less (s : SR K φ H ph) {a : Addr} (ha : a ∉ φ.loc) : SR K (φ.less a ha) H ph := SR.weak (φ := φ) (φ' := φ.less a ha) rfl (fun b hb => (Phi.less_av.mp hb).1) s
mutual
/-- an avoided address is written -/
theorem Rep.store {D : Addr} (hD : D ∈ φ.av) (hb : ∀ b, b ≠ D → H' b = H b) : ∀ (p : PV) (v : V), Rep K φ H p v → Rep K φ H' p v
  | .non, _, h => h
  | .bl _, _, h => h
  | .int _, _, h => h
  | .str _, _, h => h
  | .ty _, _, h => h
  | .fn _, _, h => h
  | .loc _, _, h => h
  | .tup xs, v, h => by
    unfold Rep at h ⊢
    obtain ⟨a, vs, ev, hd, hl⟩ := h
    refine ⟨a, vs, ev, hd.imp (fun q => ⟨q.1, ?_⟩) id, RepL.store hD hb xs vs hl⟩
    have hne : a ≠ D := fun e => q.1 (e ▸ hD)
    have hr := q.2
    unfold Rd at hr ⊢
    rw [hb a hne]
    exact hr
  | .lst xs, v, h => by
    unfold Rep at h ⊢
    obtain ⟨a, vs, ev, hn, hr, hl⟩ := h
    have hne : a ≠ D := fun e => hn (e ▸ hD)
    refine ⟨a, vs, ev, hn, ?_, RepL.store hD hb xs vs hl⟩
    rw [hb a hne]
    exact hr
  | .scr xs, v, h => by
    unfold Rep at h ⊢
    obtain ⟨a, vs, ev, hd, hl⟩ := h
    refine ⟨a, vs, ev, hd.imp (fun q => ⟨q.1, ?_⟩) id, RepL.store hD hb xs vs hl⟩
    have hne : a ≠ D := fun e => q.1 (e ▸ hD)
    have hr := q.2
    unfold Rd at hr ⊢
    rw [hb a hne]
    exact hr
  | .dct ks xs, v, h => by
    unfold Rep at h ⊢
    obtain ⟨a, kvs, ev, hn, hr, hk, hl⟩ := h
    have hne : a ≠ D := fun e => hn (e ▸ hD)
    refine ⟨a, kvs, ev, hn, ?_, hk, RepL.store hD hb xs _ hl⟩
    unfold Rd at hr ⊢
    rw [hb a hne]
    exact hr
theorem RepL.store {D : Addr} (hD : D ∈ φ.av) (hb : ∀ b, b ≠ D → H' b = H b) : ∀ (ps : List PV) (vs : List V), RepL K φ H ps vs → RepL K φ H' ps vs
  | [], _, h => h
  | p :: ps, vs, h => by
    unfold RepL at h ⊢
    obtain ⟨v, ws, ev, h1, h2⟩ := h
    exact ⟨v, ws, ev, Rep.store hD hb p v h1, RepL.store hD hb ps ws h2⟩
end
theorem RepO.store {D a : Addr} {o : PO} (hD : D ∈ φ.av) (hb : ∀ b, b ≠ D → H' b = H b) (ha : a ≠ D) (h : RepO K φ H a o) : RepO K φ H' a o := by
  cases o with
  | lst xs => obtain ⟨vs, q, l⟩ := h; exact ⟨vs, (hb a ha).trans q, l.store hD hb⟩
  | dct ks xs => obtain ⟨kvs, q, hk, l⟩ := h; exact ⟨kvs, (hb a ha).trans q, hk, l.store hD hb⟩
  | ins c fs => obtain ⟨dx, ws, q, hk, l⟩ := h; exact ⟨dx, ws, (hb a ha).trans q, hk, l.store hD hb⟩
/-- an avoided address that is no located one is written -/
theorem SR.store (s : SR K φ H ph) {D : Addr} {o : HO} (hD : D ∈ φ.av) (hl : D ∉ φ.loc) : SR K φ (upd H D o) ph := by
  have hb : ∀ b, b ≠ D → upd H D o b = H b := fun b h => upd_ne h
  refine ⟨s.len, s.nd, fun a h => ?_, fun n a x h1 h2 => (s.ob n a x h1 h2).store hD hb fun e => hl (e ▸ List.mem_of_getElem? h1)⟩
  by_cases e : a = D
  · subst e; exact ⟨_, upd_same⟩
  · rw [hb a e]; exact s.tr a h
theorem Ext.store (e : Ext φ H φ' H') {D : Addr} {o : HO} (h : H D = none) : Ext φ H φ' (upd H' D o) := by
  refine ⟨e.ext, e.av, e.mo, fun a x q hn => ?_, fun a x q => ?_⟩
  · rw [upd_ne (fun z => by rw [z, h] at q; cases q)]
    exact e.kp a x q hn
  · rw [upd_ne (fun z => by rw [z, h] at q; cases q)]
    exact e.dom a x q
/-- a new tuple -/
theorem SR.tupNew (s : SR K φ H ph) {p : List PV} {vs : List V} {a : Addr} (l : RepL K φ H p vs) (h : H a = none) :
    ∃ φ', Ext φ H φ' (upd H a (.tup vs)) ∧ SR K φ' (upd H a (.tup vs)) ph ∧ Rep K φ' (upd H a (.tup vs)) (.tup p) (.ref a) := by
  obtain ⟨s1, e1⟩ := s.push (o := .tup vs) h
  have ha : a ∉ (φ.more a).loc := s.fresh h
  refine ⟨(φ.more a).less a ha, less_more e1 ha (s.nav h), s1.less ha, ?_⟩
  unfold Rep
  exact ⟨a, vs, rfl, .inl ⟨fun z => (Phi.less_av.mp z).2 rfl, .inl upd_same⟩, RepL.weak (φ := φ.more a) (φ' := (φ.more a).less a ha) rfl (fun b hb => (Phi.less_av.mp hb).1) _ _ (l.mono e1)⟩
end

/-! ### readings -/
def OutG {α β : Type} (K : PySem.W.Frag) (R : Phi → Hp → α → β → Prop) (Wx : WX) (φ : Phi) (H : Hp) (σ : St) (Q : β → Hp → Prop) : Res α → Prop
  | .ok v ph' => ∀ φ' H' u, Ext φ H φ' H' → SR K φ' H' ph' → R φ' H' v u → Q u H'
  | .err x ph' => ∀ φ' H' c d, Ext φ H φ' H' → SR K φ' H' ph' → RepX K φ' H' x c d → Wx c d σ H'
  | .bad => False
def rG {α β : Type} (K : PySem.W.Frag) (R : Phi → Hp → α → β → Prop) (Wx : WX) (m : DG α) : St → Hp → (β → Hp → Prop) → Prop := fun σ H Q =>
  ∃ φ ph env, SR K φ H ph ∧ RepS K φ H σ env ∧ OutG K R Wx φ H σ Q (m env ph)
abbrev rE (K : PySem.W.Frag) (Wx : WX) (m : DE) : TE := rG K (Rep K) Wx m
abbrev rT (K : PySem.W.Frag) (Wx : WX) (m : DT) : TT := rG K (fun _ _ (a b : Bool) => b = a) Wx m
abbrev rA (K : PySem.W.Frag) (Wx : WX) (m : DA) : TA := rG K (RepL K) Wx m
section
variable {α β γ δ : Type} {K : PySem.W.Frag} {R : Phi → Hp → α → β → Prop} {R1 : Phi → Hp → γ → δ → Prop} {Wx : WX} {φ φ' : Phi} {H H' : Hp} {σ : St} {Q : β → Hp → Prop}
theorem OutG.mono {r : Res α} (o : OutG K R Wx φ H σ Q r) (e : Ext φ H φ' H') : OutG K R Wx φ' H' σ Q r := by
  cases r with
  | ok v ph' => exact fun φ2 H2 u e2 s r => o φ2 H2 u (e.trans e2) s r
  | err x ph' => exact fun φ2 H2 c d e2 s r => o φ2 H2 c d (e.trans e2) s r
  | bad => exact o
theorem OutG.bind {m : Res γ} {f : γ → PH → Res α} {Q1 : δ → Hp → Prop} (o : OutG K R Wx φ H σ Q (m.bind f))
    (k : ∀ p ph1 φ1 H1 u, Ext φ H φ1 H1 → SR K φ1 H1 ph1 → R1 φ1 H1 p u → OutG K R Wx φ1 H1 σ Q (f p ph1) → Q1 u H1) : OutG K R1 Wx φ H σ Q1 m := by
  cases m with
  | ok p ph1 => exact fun φ1 H1 u e s r => k p ph1 φ1 H1 u e s r (OutG.mono (show OutG K R Wx φ H σ Q (f p ph1) from o) e)
  | err x ph1 => exact o
  | bad => exact o
theorem OutG.imp {m : Res α} {Q1 : β → Hp → Prop} (o : OutG K R Wx φ H σ Q m) (k : ∀ p ph1 φ1 H1 u, m = .ok p ph1 → Ext φ H φ1 H1 → SR K φ1 H1 ph1 → R φ1 H1 p u → Q u H1 → Q1 u H1) : OutG K R Wx φ H σ Q1 m := by
  cases m with
  | ok p ph1 => exact fun φ1 H1 u e s r => k p ph1 φ1 H1 u rfl e s r (o φ1 H1 u e s r)
  | err x ph1 => exact o
  | bad => exact o
end
theorem peW {X : Cx} {e : Expr} {t t' : TE} (h : PE X e t) (w : ∀ σ H Q, t' σ H Q → t σ H Q) : PE X e t' := ⟨fun pins s σ H Q I q => h.run pins s σ H Q I (w σ H Q q)⟩
theorem ptW {X : Cx} {e : Expr} {t t' : TT} (h : PT X e t) (w : ∀ σ H Q, t' σ H Q → t σ H Q) : PT X e t' := ⟨fun pins s σ H Q I q => h.run pins s σ H Q I (w σ H Q q)⟩
theorem pwW {X : Cx} {e : Expr} {t t' : TT} (h : PW X e t) (w : ∀ σ H Q, t' σ H Q → t σ H Q) : PW X e t' := ⟨fun wh pins s σ H Q I q => h.run wh pins s σ H Q I (w σ H Q q)⟩
theorem paW {X : Cx} {e : List Expr} {t t' : TA} (h : PA X e t) (w : ∀ σ H Q, t' σ H Q → t σ H Q) : PA X e t' := ⟨fun p pins s σ H Q I q => h.run p pins s σ H Q I (w σ H Q q)⟩
theorem psW {X : Cx} {e : Stmt} {t t' : TS} (h : PS X e t) (w : ∀ D σ H, t' D σ H → t D σ H) : PS X e t' := ⟨fun pins s σ H D I q => h.run pins s σ H D I (w D σ H q)⟩
theorem pssW {X : Cx} {e : List Stmt} {t t' : TS} (h : PSs X e t) (w : ∀ D σ H, t' D σ H → t D σ H) : PSs X e t' := ⟨fun pins s σ H D I q => h.run pins s σ H D I (w D σ H q)⟩

/-! ### names and constants -/
def eVar (i : Nat) : DE := fun env ph => match env[i]? with
  | some (some v) => .ok v ph
  | _ => .bad
def eC (v : PV) : DE := fun _ ph => .ok v ph
section
variable {X : Cx} {Wx : WX}
theorem z_var (i : Nat) {x : Str} {pos : Pos} (hN : X.N[i]? = some x := by rfl) (hv : Vis X.env.scope x := by first | exact Or.inl rfl | exact Or.inr (Or.inl rfl) | exact Or.inr (Or.inr rfl)) (hd : (x == ("__debug__" : Str)) = false := by decide)
    (hcd : (x == ("__classdict__" : Str)) = false := by decide) : PE X (.Name x pos) (rE X.K Wx (eVar i)) := by
  refine peW (pv i hN hv hd hcd) fun σ H Q h => ?_
  obtain ⟨φ, ph, env, sr, rs, o⟩ := h
  unfold eVar at o
  split at o
  · rename_i v e
    obtain ⟨u, e1, r⟩ := rs.at_ i v e
    exact ⟨u, e1, o φ H u Ext.refl sr r⟩
  · exact o.elim
theorem rE_C {v : PV} {u : V} (r : ∀ φ H, Rep X.K φ H v u) : ∀ σ H Q, rE X.K Wx (eC v) σ H Q → tC u σ H Q := fun σ H Q h => by
  obtain ⟨φ, ph, env, sr, rs, o⟩ := h
  exact o φ H u Ext.refl sr (r φ H)
theorem rep_int {K : PySem.W.Frag} {φ : Phi} {H : Hp} {i : Int} : Rep K φ H (.int i) (.int i) := by unfold Rep; rfl
theorem rep_bl {K : PySem.W.Frag} {φ : Phi} {H : Hp} {i : Bool} : Rep K φ H (.bl i) (.bl i) := by unfold Rep; rfl
theorem rep_str {K : PySem.W.Frag} {φ : Phi} {H : Hp} {i : Str} : Rep K φ H (.str i) (.str i) := by unfold Rep; rfl
theorem rep_non {K : PySem.W.Frag} {φ : Phi} {H : Hp} : Rep K φ H .non .non := by unfold Rep; rfl
theorem rep_ty {K : PySem.W.Frag} {φ : Phi} {H : Hp} {n : String} : Rep K φ H (.ty n) (.ty n) := by unfold Rep; rfl
theorem rep_fn {K : PySem.W.Frag} {φ : Phi} {H : Hp} {n : Str} : Rep K φ H (.fn n) (.ref (He.ga K n)) := by unfold Rep; rfl
theorem z_int {i : Int} {j pos} : PE X (.Constant (.int i) j pos) (rE X.K Wx (eC (.int i))) := peW pe_int (rE_C fun _ _ => rep_int)
theorem z_bl {b : Bool} {j pos} : PE X (.Constant (.bool b) j pos) (rE X.K Wx (eC (.bl b))) := peW pe_bl (rE_C fun _ _ => rep_bl)
theorem z_non {j pos} : PE X (.Constant .none j pos) (rE X.K Wx (eC .non)) := peW pe_non (rE_C fun _ _ => rep_non)
theorem z_str {x : Str} {j pos} : PE X (.Constant (.str x) j pos) (rE X.K Wx (eC (.str x))) := peW pe_str (rE_C fun _ _ => rep_str)
theorem z_gint {x : Str} {i : Int} {pos : Pos} (hg : Gl X x) (hm : ∃ t, X.mg x = some (.int i t)) (hd : (x == ("__debug__" : Str)) = false := by decide) : PE X (.Name x pos) (rE X.K Wx (eC (.int i))) := by
  obtain ⟨t, hm⟩ := hm
  exact peW (pe_glob (v := .int i) hg hm ⟨t, rfl⟩ hd) (rE_C fun _ _ => rep_int)
theorem z_gstr {x z : Str} {pos : Pos} (hg : Gl X x) (hm : ∃ t, X.mg x = some (.str z t)) (hd : (x == ("__debug__" : Str)) = false := by decide) : PE X (.Name x pos) (rE X.K Wx (eC (.str z))) := by
  obtain ⟨t, hm⟩ := hm
  exact peW (pe_glob (v := .str z) hg hm ⟨t, rfl⟩ hd) (rE_C fun _ _ => rep_str)
theorem z_gfn {x : Str} {pos : Pos} (hg : Gl X x) (hm : X.mg x = some (.ref (He.ga X.K x))) (hd : (x == ("__debug__" : Str)) = false := by decide) : PE X (.Name x pos) (rE X.K Wx (eC (.fn x))) :=
  peW (pe_glob (v := .ref (He.ga X.K x)) hg hm rfl hd) (rE_C fun _ _ => rep_fn)
theorem z_ty {x : Str} {n : String} {pos : Pos} (hg : Gl X x) (hm : X.mg x = none) (hv : bootBuiltins x = some (.type n)) (hn : x ≠ "__name__" := by decide) (hd : (x == ("__debug__" : Str)) = false := by decide) : PE X (.Name x pos) (rE X.K Wx (eC (.ty n))) :=
  peW (pe_bltn (v := .ty n) hg hm hv rfl hn hd) (rE_C fun _ _ => rep_ty)
end
end OfP
/-! Layer Z, part 2: operations on values. -/
namespace OfP
open PySem PySem.Spec L2
open PyProof.Rows hiding St

/-! ### a value as the library's data -/
mutual
def PV.toD : PV → Option PyData
  | .non => some .none
  | .bl b => some (.bool b)
  | .int i => some (.int i)
  | .str x => some (.str x)
  | .tup xs => (PV.toDL xs).map .tuple
  | .lst xs => (PV.toDL xs).map .list
  | _ => none
def PV.toDL : List PV → Option (List PyData)
  | [] => some []
  | x :: xs => match PV.toD x, PV.toDL xs with
    | some d, some ds => some (d :: ds)
    | _, _ => none
end
/-- a located list as it stands -/
def rz (ph : PH) : PV → PV
  | .loc n => (match ph[n]? with
    | some (.lst xs) => .lst xs
    | _ => .loc n)
  | p => p
def dOf (ph : PH) (p : PV) : Option PyData := (rz ph p).toD
def seqL (ph : PH) (p : PV) : Option (List PV) := match rz ph p with
  | .lst xs => some xs
  | .scr xs => some xs
  | _ => none
def seqA (ph : PH) (p : PV) : Option (List PV) := match rz ph p with
  | .lst xs => some xs
  | .tup xs => some xs
  | _ => none
section
variable {K : PySem.W.Frag} {φ : Phi} {H : Hp} {ph : PH}
mutual
theorem Rep.dp : ∀ (p : PV) (v : V) (d : PyData), Rep K φ H p v → p.toD = some d → Dp K H v d
  | .non, v, d, h, e => by unfold Rep at h; unfold PV.toD at e; cases e; subst h; exact .non
  | .bl b, v, d, h, e => by unfold Rep at h; unfold PV.toD at e; cases e; subst h; exact .bl b
  | .int b, v, d, h, e => by unfold Rep at h; unfold PV.toD at e; cases e; subst h; exact .int b
  | .str b, v, d, h, e => by unfold Rep at h; unfold PV.toD at e; cases e; subst h; exact .str b
  | .tup xs, v, d, h, e => by
    obtain ⟨a, vs, rfl, hq, hl⟩ := h.sqT
    unfold PV.toD at e
    cases q : PV.toDL xs with
    | none => rw [q] at e; cases e
    | some ds =>
      rw [q] at e
      cases e
      exact .tup hq (RepL.dp xs vs ds hl q)
  | .lst xs, v, d, h, e => by
    obtain ⟨a, vs, rfl, hq, hl⟩ := h.sqL
    unfold PV.toD at e
    cases q : PV.toDL xs with
    | none => rw [q] at e; cases e
    | some ds =>
      rw [q] at e
      cases e
      exact .lst hq (RepL.dp xs vs ds hl q)
  | .dct _ _, v, d, h, e => by unfold PV.toD at e; cases e
  | .scr _, v, d, h, e => by unfold PV.toD at e; cases e
  | .loc _, v, d, h, e => by unfold PV.toD at e; cases e
  | .fn _, v, d, h, e => by unfold PV.toD at e; cases e
  | .ty _, v, d, h, e => by unfold PV.toD at e; cases e
theorem RepL.dp : ∀ (ps : List PV) (vs : List V) (ds : List PyData), RepL K φ H ps vs → PV.toDL ps = some ds → DpAll K H vs ds
  | [], vs, ds, h, e => by rw [h.inv0]; unfold PV.toDL at e; cases e; exact .nil
  | p :: ps, vs, ds, h, e => by
    obtain ⟨v, ws, rfl, h1, h2⟩ := h.inv
    unfold PV.toDL at e
    cases q1 : PV.toD p with
    | none => rw [q1] at e; cases e
    | some d =>
      cases q2 : PV.toDL ps with
      | none => rw [q1, q2] at e; cases e
      | some es =>
        rw [q1, q2] at e
        cases e
        exact .cons (Rep.dp p v d h1 q1) (RepL.dp ps ws es h2 q2)
end
theorem rz_cases (ph : PH) (p : PV) : rz ph p = p ∨ ∃ n xs, p = .loc n ∧ ph[n]? = some (.lst xs) ∧ rz ph p = .lst xs := by
  cases p with
  | loc n =>
    cases q : ph[n]? with
    | none => exact .inl (by simp only [rz, q])
    | some o => cases o with
      | lst xs => exact .inr ⟨n, xs, rfl, q, by simp only [rz, q]⟩
      | _ => exact .inl (by simp only [rz, q])
  | _ => exact .inl rfl
theorem SR.lstAt (s : SR K φ H ph) {n : Nat} {xs : List PV} {v : V} (h : Rep K φ H (.loc n) v) (e : ph[n]? = some (.lst xs)) : ∃ a vs, v = .ref a ∧ φ.loc[n]? = some a ∧ H a = some (.lst vs) ∧ RepL K φ H xs vs := by
  obtain ⟨a, h1, rfl⟩ := h.loc'
  obtain ⟨vs, h2, h3⟩ := s.ob n a _ h1 e
  exact ⟨a, vs, rfl, h1, h2, h3⟩
theorem seqL_ok (s : SR K φ H ph) {p : PV} {v : V} {xs : List PV} (h : Rep K φ H p v) (e : seqL ph p = some xs) : ∃ a vs, v = .ref a ∧ SqL K H a vs ∧ RepL K φ H xs vs := by
  unfold seqL at e
  rcases rz_cases ph p with q | ⟨n, ys, rfl, q, q2⟩
  · rw [q] at e
    cases p <;> first | cases e | skip
    · exact h.sqL
    · exact h.sqS
  · rw [q2] at e
    cases e
    obtain ⟨a, vs, rfl, _, h2, h3⟩ := s.lstAt h q
    exact ⟨a, vs, rfl, .inl (.inl h2), h3⟩
theorem seqA_ok (s : SR K φ H ph) {p : PV} {v : V} {xs : List PV} (h : Rep K φ H p v) (e : seqA ph p = some xs) : ∃ a vs, v = .ref a ∧ (SqL K H a vs ∨ SqT K H a vs) ∧ RepL K φ H xs vs := by
  unfold seqA at e
  rcases rz_cases ph p with q | ⟨n, ys, rfl, q, q2⟩
  · rw [q] at e
    cases p <;> first | cases e | skip
    · obtain ⟨a, vs, rfl, h2, h3⟩ := h.sqT
      exact ⟨a, vs, rfl, .inr h2, h3⟩
    · obtain ⟨a, vs, rfl, h2, h3⟩ := h.sqL
      exact ⟨a, vs, rfl, .inl h2, h3⟩
  · rw [q2] at e
    cases e
    obtain ⟨a, vs, rfl, _, h2, h3⟩ := s.lstAt h q
    exact ⟨a, vs, rfl, .inl (.inl (.inl h2)), h3⟩
theorem dOf_ok (s : SR K φ H ph) {p : PV} {v : V} {d : PyData} (h : Rep K φ H p v) (e : dOf ph p = some d) : Dp K H v d := by
  unfold dOf at e
  rcases rz_cases ph p with q | ⟨n, ys, rfl, q, q2⟩
  · rw [q] at e
    exact Rep.dp p v d h e
  · rw [q2] at e
    unfold PV.toD at e
    cases q3 : PV.toDL ys with
    | none => rw [q3] at e; cases e
    | some ds =>
      rw [q3] at e
      cases e
      obtain ⟨a, vs, rfl, _, h2, h3⟩ := s.lstAt h q
      exact .lst (.inl (.inl h2)) (RepL.dp ys vs ds h3 q3)
end

/-! ### two-place operations -/
def OpZ (X : Cx) (f : Value → Value → Sem Value) (g : PH → PV → PV → Option PV) : Prop :=
  OpR X f (fun x y H Q => ∃ φ ph p q v, SR X.K φ H ph ∧ Rep X.K φ H p x ∧ Rep X.K φ H q y ∧ g ph p q = some v ∧ ∀ φ' H' u, Ext φ H φ' H' → SR X.K φ' H' ph → Rep X.K φ' H' v u → Q u H')
def UnZ (X : Cx) (f : Value → Sem Value) (g : PH → PV → Option PV) : Prop :=
  UnR X f (fun x H Q => ∃ φ ph p v, SR X.K φ H ph ∧ Rep X.K φ H p x ∧ g ph p = some v ∧ ∀ φ' H' u, Ext φ H φ' H' → SR X.K φ' H' ph → Rep X.K φ' H' v u → Q u H')
/-- a call of a built-in by values -/
def CallZ (X : Cx) (f : Value) (g : PH → List PV → Option PV) : Prop :=
  CallR X f (fun xs H Q => ∃ φ ph ps v, SR X.K φ H ph ∧ RepL X.K φ H ps xs ∧ g ph ps = some v ∧ ∀ φ' H' u, Ext φ H φ' H' → SR X.K φ' H' ph → Rep X.K φ' H' v u → Q u H')

def mBin (g : PH → PV → PV → Option PV) (a b : DE) : DE := fun env ph => (a env ph).bind fun x ph1 => (b env ph1).bind fun y ph2 => .ofO (g ph2 x y) ph2
def mUn (g : PH → PV → Option PV) (a : DE) : DE := fun env ph => (a env ph).bind fun x ph1 => .ofO (g ph1 x) ph1
def mCB (g : PH → List PV → Option PV) (a : DA) : DE := fun env ph => (a env ph).bind fun x ph1 => .ofO (g ph1 x) ph1
theorem OutG.opt {K : PySem.W.Frag} {Wx : WX} {φ : Phi} {H : Hp} {σ : St} {Q : VK} {o : Option PV} {ph : PH} (s : SR K φ H ph) (h : OutG K (Rep K) Wx φ H σ Q (.ofO o ph)) : ∃ v, o = some v ∧ ∀ φ' H' u, Ext φ H φ' H' → SR K φ' H' ph → Rep K φ' H' v u → Q u H' := by
  cases o with
  | none => exact h.elim
  | some v => exact ⟨v, rfl, fun φ' H' u e s r => h φ' H' u e s r⟩
section
variable {X : Cx} {Wx : WX} {a b e : Expr} {es : List Expr} {pos : Pos} {ma mb : DE} {g : PH → PV → PV → Option PV}
theorem z_bin {op : Operator} (ho : OpZ X (binaryOp op) g) (ha : PE X a (rE X.K Wx ma)) (hb : PE X b (rE X.K Wx mb)) : PE X (.BinOp a op b pos) (rE X.K Wx (mBin g ma mb)) := by
  refine peW (pe_op ho ha hb) fun σ H Q h => ?_
  obtain ⟨φ, ph, env, sr, rs, o⟩ := h
  refine ⟨φ, ph, env, sr, rs, OutG.bind o fun x ph1 φ1 H1 u e1 s1 r1 o1 => ⟨φ1, ph1, env, s1, rs.mono e1, OutG.bind o1 fun y ph2 φ2 H2 w e2 s2 r2 o2 => ?_⟩⟩
  obtain ⟨v, hv, k⟩ := OutG.opt s2 o2
  exact ⟨φ2, ph2, x, y, v, s2, r1.mono e2, r2, hv, k⟩
theorem z_cmp {op : CmpOp} (ho : OpZ X (compareOp op) g) (ha : PE X a (rE X.K Wx ma)) (hb : PE X b (rE X.K Wx mb)) (hm : behindInMarks op b = false) : PE X (.Compare a [op] [b] pos) (rE X.K Wx (mBin g ma mb)) := by
  refine peW (pe_cmpR ho ha hb hm) fun σ H Q h => ?_
  obtain ⟨φ, ph, env, sr, rs, o⟩ := h
  refine ⟨φ, ph, env, sr, rs, OutG.bind o fun x ph1 φ1 H1 u e1 s1 r1 o1 => ⟨φ1, ph1, env, s1, rs.mono e1, OutG.bind o1 fun y ph2 φ2 H2 w e2 s2 r2 o2 => ?_⟩⟩
  obtain ⟨v, hv, k⟩ := OutG.opt s2 o2
  exact ⟨φ2, ph2, x, y, v, s2, r1.mono e2, r2, hv, k⟩
/-- a comparison as a test -/
def mBinT (g : PH → PV → PV → Option PV) (a b : DE) : DT := fun env ph => (a env ph).bind fun x ph1 => (b env ph1).bind fun y ph2 => match g ph2 x y with
  | some (.bl k) => .ok k ph2
  | _ => .bad
theorem OutG.optT {K : PySem.W.Frag} {Wx : WX} {φ : Phi} {H : Hp} {σ : St} {Q : Bool → Hp → Prop} {o : Option PV} {ph : PH} (s : SR K φ H ph) (h : OutG K (fun _ _ (a b : Bool) => b = a) Wx φ H σ Q (match o with
  | some (.bl k) => .ok k ph
  | _ => .bad)) : ∃ k, o = some (.bl k) ∧ ∀ φ' H', Ext φ H φ' H' → SR K φ' H' ph → Q k H' := by
  cases o with
  | none => exact h.elim
  | some v =>
    cases v with
    | bl k => exact ⟨k, rfl, fun φ' H' e s => h φ' H' k e s rfl⟩
    | _ => exact h.elim
theorem z_cmpT {op : CmpOp} (ho : OpZ X (compareOp op) g) (ha : PE X a (rE X.K Wx ma)) (hb : PE X b (rE X.K Wx mb)) (hm : behindInMarks op b = false) : PT X (.Compare a [op] [b] pos) (rT X.K Wx (mBinT g ma mb)) := by
  refine ptW (pt_cmpR ho ha hb hm) fun σ H Q h => ?_
  obtain ⟨φ, ph, env, sr, rs, o⟩ := h
  refine ⟨φ, ph, env, sr, rs, OutG.bind o fun x ph1 φ1 H1 u e1 s1 r1 o1 => ⟨φ1, ph1, env, s1, rs.mono e1, OutG.bind o1 fun y ph2 φ2 H2 w e2 s2 r2 o2 => ?_⟩⟩
  obtain ⟨k, hv, q⟩ := OutG.optT s2 o2
  refine ⟨φ2, ph2, x, y, .bl k, s2, r1.mono e2, r2, hv, fun φ' H' u e s r => ⟨k, ?_, q φ' H' e s⟩⟩
  unfold Rep at r
  exact r
theorem z_un {op : UnaryOp} {g : PH → PV → Option PV} (ho : UnZ X (unaryOp op) g) (ha : PE X a (rE X.K Wx ma)) : PE X (.UnaryOp op a pos) (rE X.K Wx (mUn g ma)) := by
  refine peW (pe_un ho ha) fun σ H Q h => ?_
  obtain ⟨φ, ph, env, sr, rs, o⟩ := h
  refine ⟨φ, ph, env, sr, rs, OutG.bind o fun x ph1 φ1 H1 u e1 s1 r1 o1 => ?_⟩
  obtain ⟨v, hv, k⟩ := OutG.opt s1 o1
  exact ⟨φ1, ph1, x, v, s1, r1, hv, k⟩
end

/-! ### arithmetic -/
def addZ (_ : PH) : PV → PV → Option PV
  | .int i, .int j => some (.int (i + j))
  | .str x, .str y => if x.length + y.length ≤ sizeLine then some (.str (x ++ y)) else none
  | .tup xs, .tup ys => if xs.length + ys.length ≤ sizeLine then some (.tup (xs ++ ys)) else none
  | _, _ => none
def subZ (_ : PH) : PV → PV → Option PV
  | .int i, .int j => some (.int (i - j))
  | _, _ => none
def mulOk (i j : Int) : Bool := decide ((Builtin.Int.intBits i : Int) + (Builtin.Int.intBits j : Int) ≤ 134217728)
def mulZ (_ : PH) : PV → PV → Option PV
  | .int i, .int j => if mulOk i j then some (.int (i * j)) else none
  | _, _ => none
def powOk (i j : Int) : Bool := decide (0 ≤ j) && decide ((Builtin.Int.intBits i : Int) * j ≤ 2 ^ 27)
def powZ (_ : PH) : PV → PV → Option PV
  | .int i, .int j => if powOk i j then some (.int (i ^ j.toNat)) else none
  | _, _ => none
def divOk (j : Int) : Bool := decide (0 < j) && decide (j.natAbs.log2 < 9000)
def fdivZ (_ : PH) : PV → PV → Option PV
  | .int i, .int j => if divOk j then some (.int (i / j)) else none
  | _, _ => none
def modZ (_ : PH) : PV → PV → Option PV
  | .int i, .int j => if 0 < j then some (.int (i % j)) else none
  | _, _ => none
def negZ (_ : PH) : PV → Option PV
  | .int i => some (.int (-i))
  | _ => none
section
variable {X : Cx}
theorem Rep.int' {K : PySem.W.Frag} {φ : Phi} {H : Hp} {i : Int} {v : V} (h : Rep K φ H (.int i) v) : v = .int i := by unfold Rep at h; exact h
theorem Rep.bl' {K : PySem.W.Frag} {φ : Phi} {H : Hp} {i : Bool} {v : V} (h : Rep K φ H (.bl i) v) : v = .bl i := by unfold Rep at h; exact h
theorem Rep.str' {K : PySem.W.Frag} {φ : Phi} {H : Hp} {i : Str} {v : V} (h : Rep K φ H (.str i) v) : v = .str i := by unfold Rep at h; exact h
theorem Rep.non' {K : PySem.W.Frag} {φ : Phi} {H : Hp} {v : V} (h : Rep K φ H .non v) : v = .non := by unfold Rep at h; exact h
theorem Rep.ty' {K : PySem.W.Frag} {φ : Phi} {H : Hp} {n : String} {v : V} (h : Rep K φ H (.ty n) v) : v = .ty n := by unfold Rep at h; exact h
theorem Rep.fn' {K : PySem.W.Frag} {φ : Phi} {H : Hp} {n : Str} {v : V} (h : Rep K φ H (.fn n) v) : v = .ref (He.ga K n) := by unfold Rep at h; exact h
theorem opInt {f : Value → Value → Sem Value} {g : PH → PV → PV → Option PV} {C : Int → Int → Prop} {k : Int → Int → V} (h : OpR X f (rI C k))
    (hg : ∀ ph p q v, g ph p q = some v → ∃ i j, p = .int i ∧ q = .int j ∧ C i j ∧ ∀ φ H, Rep X.K φ H v (k i j)) : OpZ X f g := by
  intro pins s σ H x y v u Q I rx ry ⟨φ, ph, p, q, z, sr, rp, rq, e, kk⟩
  obtain ⟨i, j, rfl, rfl, c, r⟩ := hg ph p q z e
  exact h pins s σ H x y v u Q I rx ry ⟨i, j, rp.int', rq.int', c, kk φ H _ Ext.refl sr (r φ H)⟩
theorem opz_sub : OpZ X (binaryOp .Sub) subZ := by
  refine opInt (C := fun _ _ => True) (k := fun i j => .int (i - j)) (fun pins s σ H x y v u Q I rx ry ⟨i, j, e1, e2, _, q⟩ => op_sub pins s σ H x y v u Q I rx ry ⟨i, j, e1, e2, q⟩) fun ph p q v e => ?_
  unfold subZ at e
  split at e <;> cases e
  exact ⟨_, _, rfl, rfl, trivial, fun _ _ => rep_int⟩
theorem opz_mul : OpZ X (binaryOp .Mult) mulZ := by
  refine opInt op_mulX fun ph p q v e => ?_
  unfold mulZ at e
  split at e
  · split at e
    · rename_i c
      cases e
      exact ⟨_, _, rfl, rfl, by unfold CMulX; unfold mulOk at c; exact of_decide_eq_true c, fun _ _ => rep_int⟩
    · cases e
  · cases e
theorem op_powZ : OpR X (binaryOp .Pow) (rI (fun i j => 0 ≤ j ∧ (Builtin.Int.intBits i : Int) * j ≤ 2 ^ 27) fun i j => .int (i ^ j.toNat)) := opI fun _ _ _ _ _ _ _ hc q => pow_int hc.1 hc.2 q
theorem opz_pow : OpZ X (binaryOp .Pow) powZ := by
  refine opInt op_powZ fun ph p q v e => ?_
  unfold powZ at e
  split at e
  · split at e
    · rename_i c
      cases e
      unfold powOk at c
      rw [Bool.and_eq_true] at c
      exact ⟨_, _, rfl, rfl, ⟨of_decide_eq_true c.1, of_decide_eq_true c.2⟩, fun _ _ => rep_int⟩
    · cases e
  · cases e
theorem opz_fdiv : OpZ X (binaryOp .FloorDiv) fdivZ := by
  refine opInt op_fdivW fun ph p q v e => ?_
  unfold fdivZ at e
  split at e
  · split at e
    · rename_i c
      cases e
      unfold divOk at c
      rw [Bool.and_eq_true] at c
      exact ⟨_, _, rfl, rfl, ⟨of_decide_eq_true c.1, of_decide_eq_true c.2⟩, fun _ _ => rep_int⟩
    · cases e
  · cases e
theorem opz_mod : OpZ X (binaryOp .Mod) modZ := by
  refine opInt op_mod fun ph p q v e => ?_
  unfold modZ at e
  split at e
  · split at e
    · rename_i c
      cases e
      exact ⟨_, _, rfl, rfl, c, fun _ _ => rep_int⟩
    · cases e
  · cases e
theorem unz_neg : UnZ X (unaryOp .USub) negZ := by
  intro pins s σ H x v Q I rx ⟨φ, ph, p, z, sr, rp, e, kk⟩
  unfold negZ at e
  split at e
  · cases e
    exact un_neg pins s σ H x v Q I rx ⟨_, rp.int', kk φ H _ Ext.refl sr rep_int⟩
  · cases e
/-- a tuple that is new or one of the two -/
theorem opz_add : OpZ X (binaryOp .Add) addZ := by
  intro pins s σ H x y v u Q I rx ry ⟨φ, ph, p, q, z, sr, rp, rq, e, kk⟩
  unfold addZ at e
  split at e
  · cases e
    exact op_add pins s σ H x y v u Q I rx ry ⟨_, _, rp.int', rq.int', kk φ H _ Ext.refl sr rep_int⟩
  · split at e
    · rename_i c
      cases e
      exact op_add_str pins s σ H x y v u Q I rx ry ⟨_, _, rp.str', rq.str', c, kk φ H _ Ext.refl sr rep_str⟩
    · cases e
  · split at e
    · rename_i xs ys c
      cases e
      obtain ⟨a, vs, rfl, h1, l1⟩ := rp.sqT
      obtain ⟨b, ws, rfl, h2, l2⟩ := rq.sqT
      refine op_catA pins s σ H _ _ v u Q I rx ry ⟨a, b, vs, ws, rfl, rfl, h1, h2, by rw [l1.length, l2.length]; exact c, fun e0 => ?_, fun _ e0 => ?_, fun _ _ t ht => ?_⟩
      · subst e0
        have : xs = [] := by
          have := l1.length
          cases xs with
          | nil => rfl
          | cons _ _ => simp at this
        subst this
        exact kk φ H _ Ext.refl sr rq
      · subst e0
        have : ys = [] := by
          have := l2.length
          cases ys with
          | nil => rfl
          | cons _ _ => simp at this
        subst this
        rw [List.append_nil] at kk
        exact kk φ H _ Ext.refl sr rp
      · obtain ⟨φ', e', s', r'⟩ := sr.tupNew (l1.append l2) ht
        exact kk φ' _ _ e' s' r'
    · cases e
  · cases e

/-! ### comparisons -/
def eqZ (neg : Bool) (ph : PH) (p q : PV) : Option PV := match dOf ph p, dOf ph q with
  | some d, some e => if SeqAt.shaped d && SeqAt.shaped e then some (.bl (if neg then !PyData.eqv d e else PyData.eqv d e)) else none
  | _, _ => none
theorem opz_eq (hu : X.A.units + 64 < cLine) : OpZ X (compareOp .Eq) (eqZ false) := by
  intro pins s σ H x y v u Q I rx ry ⟨φ, ph, p, q, z, sr, rp, rq, e, kk⟩
  unfold eqZ at e
  split at e
  · rename_i d1 d2 h1 h2
    split at e
    · rename_i c
      rw [Bool.and_eq_true] at c
      cases e
      exact op_eqD hu pins s σ H x y v u Q I rx ry ⟨d1, d2, dOf_ok sr rp h1, dOf_ok sr rq h2, c.1, c.2, kk φ H _ Ext.refl sr rep_bl⟩
    · cases e
  · cases e
theorem opz_ne (hu : X.A.units + 64 < cLine) : OpZ X (compareOp .NotEq) (eqZ true) := by
  intro pins s σ H x y v u Q I rx ry ⟨φ, ph, p, q, z, sr, rp, rq, e, kk⟩
  unfold eqZ at e
  split at e
  · rename_i d1 d2 h1 h2
    split at e
    · rename_i c
      rw [Bool.and_eq_true] at c
      cases e
      exact op_neD hu pins s σ H x y v u Q I rx ry ⟨d1, d2, dOf_ok sr rp h1, dOf_ok sr rq h2, c.1, c.2, kk φ H _ Ext.refl sr rep_bl⟩
    · cases e
  · cases e
/-- <, >, <=, >= of ints; of alike data -/
def dcOk (d e : PyData) : Bool := PySem.W.alike d e && (match d with
  | .none => false
  | _ => true) && decide (d.depth ≤ 64)
def ltZ (ph : PH) : PV → PV → Option PV
  | .int i, .int j => some (.bl (decide (i < j)))
  | p, q => match dOf ph p, dOf ph q with
    | some d, some e => if dcOk d e then some (.bl (PySem.W.dataLt d e)) else none
    | _, _ => none
def gtZ (ph : PH) : PV → PV → Option PV
  | .int i, .int j => some (.bl (decide (j < i)))
  | p, q => match dOf ph p, dOf ph q with
    | some d, some e => if dcOk d e then some (.bl (PySem.W.dataLt e d)) else none
    | _, _ => none
def leZ (ph : PH) : PV → PV → Option PV
  | .int i, .int j => some (.bl (decide (i ≤ j)))
  | p, q => match dOf ph p, dOf ph q with
    | some d, some e => if dcOk d e then some (.bl (!PySem.W.dataLt e d)) else none
    | _, _ => none
def geZ (ph : PH) : PV → PV → Option PV
  | .int i, .int j => some (.bl (decide (j ≤ i)))
  | p, q => match dOf ph p, dOf ph q with
    | some d, some e => if dcOk d e then some (.bl (!PySem.W.dataLt d e)) else none
    | _, _ => none
theorem dcOk_cases {d e : PyData} (h : dcOk d e = true) : PySem.W.alike d e = true ∧ d ≠ .none ∧ d.depth ≤ 64 := by
  unfold dcOk at h
  rw [Bool.and_eq_true, Bool.and_eq_true] at h
  obtain ⟨⟨h1, h2⟩, h3⟩ := h
  refine ⟨h1, ?_, of_decide_eq_true h3⟩
  rintro rfl
  cases h2
theorem ord_ok {op : CmpOp} {g : PH → PV → PV → Option PV} {ri : Int → Int → Bool} {rd : PyData → PyData → Bool} (hu : X.A.units + 64 < cLine) (hi : OpR X (compareOp op) (rI0 fun i j => .bl (ri i j)))
    (hd : ∀ {prog : Program} {w : World} {A : Around} {E : Value → Shared → Prop} {s : Shared} {a b : Value} {da db : PyData} {as bs : List Addr} {Q : Value → Shared → Prop}, Reads s.heap a da as → Reads s.heap b db bs → PySem.W.alike da db = true → da ≠ .none → A.units + min da.depth db.depth < cLine → Q (.bool (rd da db)) s → wpAny (model prog w) A (compareOp op a b) Q E s)
    (hg : ∀ ph p q v, g ph p q = some v → (∃ i j, p = .int i ∧ q = .int j ∧ v = .bl (ri i j)) ∨ ∃ d e, dOf ph p = some d ∧ dOf ph q = some e ∧ dcOk d e = true ∧ v = .bl (rd d e)) : OpZ X (compareOp op) g := by
  intro pins s σ H x y v u Q I rx ry ⟨φ, ph, p, q, z, sr, rp, rq, e, kk⟩
  rcases hg ph p q z e with ⟨i, j, rfl, rfl, rfl⟩ | ⟨d, e', h1, h2, h3, rfl⟩
  · exact hi pins s σ H x y v u Q I rx ry ⟨_, _, rp.int', rq.int', kk φ H _ Ext.refl sr rep_bl⟩
  · obtain ⟨as, r1⟩ := Dp.reads I d x v (dOf_ok sr rp h1) rx
    obtain ⟨bs, r2⟩ := Dp.reads I e' y u (dOf_ok sr rq h2) ry
    obtain ⟨c1, c2, c3⟩ := dcOk_cases h3
    refine hd r1 r2 c1 c2 ?_ ⟨.bl _, H, I, rfl, kk φ H _ Ext.refl sr rep_bl⟩
    have : min d.depth e'.depth ≤ d.depth := Nat.min_le_left _ _
    omega
theorem ord_g {ri : Int → Int → Bool} {rd : PyData → PyData → Bool} {g : PH → PV → PV → Option PV} (h : g = fun ph p q => match p, q with
  | .int i, .int j => some (.bl (ri i j))
  | p, q => match dOf ph p, dOf ph q with
    | some d, some e => if dcOk d e then some (.bl (rd d e)) else none
    | _, _ => none) : ∀ ph p q v, g ph p q = some v → (∃ i j, p = .int i ∧ q = .int j ∧ v = .bl (ri i j)) ∨ ∃ d e, dOf ph p = some d ∧ dOf ph q = some e ∧ dcOk d e = true ∧ v = .bl (rd d e) := by
  intro ph p q v e
  subst h
  simp only at e
  split at e
  · cases e
    exact .inl ⟨_, _, rfl, rfl, rfl⟩
  · split at e
    · rename_i d1 d2 h1 h2
      split at e
      · rename_i c
        cases e
        exact .inr ⟨_, _, h1, h2, c, rfl⟩
      · cases e
    · cases e
theorem opz_lt (hu : X.A.units + 64 < cLine) : OpZ X (compareOp .Lt) ltZ := ord_ok hu op_lt PySem.W.lt_data (ord_g (by funext ph p q; cases p <;> cases q <;> rfl))
theorem opz_gt (hu : X.A.units + 64 < cLine) : OpZ X (compareOp .Gt) gtZ := ord_ok hu op_gt PySem.W.gt_data (rd := fun d e => PySem.W.dataLt e d) (ord_g (by funext ph p q; cases p <;> cases q <;> rfl))
theorem opz_le (hu : X.A.units + 64 < cLine) : OpZ X (compareOp .LtE) leZ := ord_ok hu op_le PySem.W.le_data (rd := fun d e => !PySem.W.dataLt e d) (ord_g (by funext ph p q; cases p <;> cases q <;> rfl))
theorem opz_ge (hu : X.A.units + 64 < cLine) : OpZ X (compareOp .GtE) geZ := ord_ok hu op_ge PySem.W.ge_data (rd := fun d e => !PySem.W.dataLt d e) (ord_g (by funext ph p q; cases p <;> cases q <;> rfl))
end
end OfP
/-! Layer Z, part 3: tests, displays, statements, loops, comprehensions. -/
namespace OfP
open PySem PySem.Spec L2
open PyProof.Rows hiding St

/-! ### truth -/
def truZ (ph : PH) (p : PV) : Option Bool := match rz ph p with
  | .non => some false
  | .bl b => some b
  | .int i => some (i != 0)
  | .str x => if x.length ≤ sizeLine then some ((x.length : Int) != 0) else none
  | .tup xs => some (!xs.isEmpty)
  | .lst xs => some (!xs.isEmpty)
  | _ => none
theorem RepL.isEmpty {K : PySem.W.Frag} {φ : Phi} {H : Hp} {ps : List PV} {vs : List V} (h : RepL K φ H ps vs) : vs.isEmpty = ps.isEmpty := by
  have := h.length
  cases vs <;> cases ps <;> simp_all
theorem truZ_ok {K : PySem.W.Frag} {φ : Phi} {H : Hp} {ph : PH} (s : SR K φ H ph) {p : PV} {v : V} {k : Bool} (h : Rep K φ H p v) (e : truZ ph p = some k) : TruV K v H k := by
  unfold truZ at e
  rcases rz_cases ph p with q | ⟨n, ys, rfl, q, q2⟩
  · rw [q] at e
    cases p with
    | non => cases e; rw [h.non']; rfl
    | bl b => cases e; rw [h.bl']; rfl
    | int i => cases e; rw [h.int']; rfl
    | str x =>
      simp only at e
      split at e
      · cases e; rename_i c; rw [h.str']; exact ⟨c, rfl⟩
      · cases e
    | tup xs =>
      cases e
      obtain ⟨a, vs, rfl, h1, l⟩ := h.sqT
      exact .inr (.inl ⟨vs, h1, by rw [l.isEmpty]⟩)
    | lst xs =>
      cases e
      obtain ⟨a, vs, rfl, h1, l⟩ := h.sqL
      exact .inl ⟨vs, h1, by rw [l.isEmpty]⟩
    | _ => cases e
  · rw [q2] at e
    cases e
    obtain ⟨a, vs, rfl, _, h1, l⟩ := s.lstAt h q
    exact .inl ⟨vs, .inl (.inl h1), by rw [l.isEmpty]⟩
def mTru (m : DE) : DT := fun env ph => (m env ph).bind fun v ph1 => .ofO (truZ ph1 v) ph1
def mAndT (a b : DT) : DT := fun env ph => (a env ph).bind fun k ph1 => if k then b env ph1 else .ok false ph1
def mOrT (a b : DT) : DT := fun env ph => (a env ph).bind fun k ph1 => if k then .ok true ph1 else b env ph1
def mNotT (a : DT) : DT := fun env ph => (a env ph).bind fun k ph1 => .ok (!k) ph1
def mIf (c : DT) (a b : DE) : DE := fun env ph => (c env ph).bind fun k ph1 => if k then a env ph1 else b env ph1
def mAndV (a b : DE) : DE := fun env ph => (a env ph).bind fun v ph1 => match truZ ph1 v with
  | some true => b env ph1
  | some false => .ok v ph1
  | none => .bad
def mOrV (a b : DE) : DE := fun env ph => (a env ph).bind fun v ph1 => match truZ ph1 v with
  | some true => .ok v ph1
  | some false => b env ph1
  | none => .bad
def mNotV (a : DE) : DE := fun env ph => (a env ph).bind fun v ph1 => match truZ ph1 v with
  | some k => .ok (.bl !k) ph1
  | none => .bad
def mNil : DA := fun _ ph => .ok [] ph
def mCons (a : DE) (as : DA) : DA := fun env ph => (a env ph).bind fun v ph1 => (as env ph1).bind fun vs ph2 => .ok (v :: vs) ph2
def mTup (as : DA) : DE := fun env ph => (as env ph).bind fun vs ph1 => if vs.length ≤ sizeLine then .ok (.tup vs) ph1 else .bad
def mLst (as : DA) : DE := fun env ph => (as env ph).bind fun vs ph1 => if vs.length ≤ sizeLine then .ok (.lst vs) ph1 else .bad
/-- a fresh list: its address is new, nothing else names it -/
structure IsFr (K : PySem.W.Frag) (H0 : Hp) (φ : Phi) (H : Hp) (xs : List PV) (a : Addr) : Prop where
  new : H0 a = none
  av : a ∈ φ.av
  lo : a ∉ φ.loc
  at_ : ∃ vs, H a = some (.lst vs) ∧ RepL K φ H xs vs
def OutF (K : PySem.W.Frag) (Wx : WX) (φ : Phi) (H : Hp) (σ : St) (Q : VK) : Res PV → Prop
  | .ok (.lst xs) ph' => ∀ φ' H' a, Ext φ H φ' H' → SR K φ' H' ph' → IsFr K H φ' H' xs a → Q (.ref a) H'
  | .ok _ _ => False
  | .err x ph' => ∀ φ' H' c d, Ext φ H φ' H' → SR K φ' H' ph' → RepX K φ' H' x c d → Wx c d σ H'
  | .bad => False
def rF (K : PySem.W.Frag) (Wx : WX) (m : DE) : TE := fun σ H Q => ∃ φ ph env, SR K φ H ph ∧ RepS K φ H σ env ∧ OutF K Wx φ H σ Q (m env ph)
/-- the result is a list or nothing -/
def OnlyL (m : DE) : Prop := ∀ env ph v ph', m env ph = .ok v ph' → ∃ xs, v = .lst xs
theorem IsFr.rep {K : PySem.W.Frag} {H0 : Hp} {φ0 φ : Phi} {H : Hp} {ph ph0 : PH} {xs : List PV} {a : Addr} (f : IsFr K H0 φ H xs a) (s0 : SR K φ0 H0 ph0) (e : Ext φ0 H0 φ H) (s : SR K φ H ph) : ∃ φ', Ext φ0 H0 φ' H ∧ SR K φ' H ph ∧ Rep K φ' H (.lst xs) (.ref a) := by
  obtain ⟨vs, h1, h2⟩ := f.at_
  refine ⟨φ.less a f.lo, less_more e f.lo (s0.nav f.new), s.less f.lo, ?_⟩
  unfold Rep
  exact ⟨a, vs, rfl, fun z => (Phi.less_av.mp z).2 rfl, h1, RepL.weak (φ := φ) (φ' := φ.less a f.lo) rfl (fun b hb => (Phi.less_av.mp hb).1) _ _ h2⟩
theorem rF_of {K : PySem.W.Frag} {Wx : WX} {m : DE} {σ : St} {H : Hp} {Q : VK} (ol : OnlyL m) (h : rE K Wx m σ H Q) : rF K Wx m σ H Q := by
  obtain ⟨φ, ph, env, sr, rs, o⟩ := h
  refine ⟨φ, ph, env, sr, rs, ?_⟩
  cases q : m env ph with
  | ok v ph' =>
    rw [q] at o
    obtain ⟨xs, rfl⟩ := ol env ph v ph' q
    intro φ' H' a e s f
    obtain ⟨φ2, e2, s2, r2⟩ := f.rep sr e s
    exact o φ2 H' _ e2 s2 r2
  | err x ph' => rw [q] at o; exact o
  | bad => rw [q] at o; exact o
theorem z_fr {X : Cx} {Wx : WX} {e : Expr} {m : DE} (ol : OnlyL m) (h : PE X e (rF X.K Wx m)) : PE X e (rE X.K Wx m) := peW h fun _ _ _ q => rF_of ol q
theorem SR.lstNew {K : PySem.W.Frag} {φ : Phi} {H H0 : Hp} {ph : PH} (s : SR K φ H ph) {p : List PV} {vs : List V} {a : Addr} (l : RepL K φ H p vs) (h : H a = none) (h0 : H0 a = none) :
    Ext φ H (φ.more a) (upd H a (.lst vs)) ∧ SR K (φ.more a) (upd H a (.lst vs)) ph ∧ IsFr K H0 (φ.more a) (upd H a (.lst vs)) p a := by
  obtain ⟨s1, e1⟩ := s.push (o := .lst vs) h
  exact ⟨e1, s1, h0, List.mem_cons_self, s.fresh h, vs, upd_same, l.mono e1⟩
theorem OutF.mono {K : PySem.W.Frag} {Wx : WX} {φ φ' : Phi} {H H' : Hp} {σ : St} {Q : VK} {r : Res PV} (o : OutF K Wx φ H σ Q r) (e : Ext φ H φ' H') : OutF K Wx φ' H' σ Q r := by
  cases r with
  | ok v ph' =>
    cases v with
    | lst xs => exact fun φ2 H2 a e2 s f => o φ2 H2 a (e.trans e2) s ⟨e.free f.new, f.av, f.lo, f.at_⟩
    | _ => exact o
  | err x ph' => exact fun φ2 H2 c d e2 s r => o φ2 H2 c d (e.trans e2) s r
  | bad => exact o
theorem OutF.bind {γ δ : Type} {K : PySem.W.Frag} {R1 : Phi → Hp → γ → δ → Prop} {Wx : WX} {φ : Phi} {H : Hp} {σ : St} {Q : VK} {m : Res γ} {f : γ → PH → Res PV} {Q1 : δ → Hp → Prop} (o : OutF K Wx φ H σ Q (m.bind f))
    (k : ∀ p ph1 φ1 H1 u, Ext φ H φ1 H1 → SR K φ1 H1 ph1 → R1 φ1 H1 p u → OutF K Wx φ1 H1 σ Q (f p ph1) → Q1 u H1) : OutG K R1 Wx φ H σ Q1 m := by
  cases m with
  | ok p ph1 => exact fun φ1 H1 u e s r => k p ph1 φ1 H1 u e s r (OutF.mono (show OutF K Wx φ H σ Q (f p ph1) from o) e)
  | err x ph1 => exact o
  | bad => exact o.elim
section
variable {X : Cx} {Wx : WX} {a b c e : Expr} {es rest : List Expr} {pos : Pos} {ma mb : DE} {ta tb tc : DT} {as : DA}
theorem z_tru (ha : PE X a (rE X.K Wx ma)) (he : ∀ whole, isTrue a X.env whole = (do let v ← whole; standAt a.pos; holding [v] (truthy v)) := by intro _; rfl) : PT X a (rT X.K Wx (mTru ma)) := by
  refine ptW (pt_truth ha he) fun σ H Q h => ?_
  obtain ⟨φ, ph, env, sr, rs, o⟩ := h
  refine ⟨φ, ph, env, sr, rs, OutG.bind o fun x ph1 φ1 H1 u e1 s1 r1 o1 => ?_⟩
  cases q : truZ ph1 x with
  | none => rw [q] at o1; exact o1.elim
  | some k => rw [q] at o1; exact ⟨k, truZ_ok s1 r1 q, o1 φ1 H1 k Ext.refl s1 rfl⟩
theorem z_and1 (ha : PT X a (rT X.K Wx ta)) : PW X (.BoolOp .And [a] pos) (rT X.K Wx ta) := pw_and1 ha
theorem z_or1 (ha : PT X a (rT X.K Wx ta)) : PW X (.BoolOp .Or [a] pos) (rT X.K Wx ta) := pw_or1 ha
theorem z_and (ha : PT X a (rT X.K Wx ta)) (hb : PW X (.BoolOp .And (b :: rest) pos) (rT X.K Wx tb)) : PW X (.BoolOp .And (a :: b :: rest) pos) (rT X.K Wx (mAndT ta tb)) := by
  refine pwW (pw_and ha hb) fun σ H Q h => ?_
  obtain ⟨φ, ph, env, sr, rs, o⟩ := h
  refine ⟨φ, ph, env, sr, rs, OutG.bind o fun x ph1 φ1 H1 u e1 s1 r1 o1 => ?_⟩
  subst r1
  cases u with
  | true => exact ⟨φ1, ph1, env, s1, rs.mono e1, o1⟩
  | false => exact o1 φ1 H1 false Ext.refl s1 rfl
theorem z_or (ha : PT X a (rT X.K Wx ta)) (hb : PW X (.BoolOp .Or (b :: rest) pos) (rT X.K Wx tb)) : PW X (.BoolOp .Or (a :: b :: rest) pos) (rT X.K Wx (mOrT ta tb)) := by
  refine pwW (pw_or ha hb) fun σ H Q h => ?_
  obtain ⟨φ, ph, env, sr, rs, o⟩ := h
  refine ⟨φ, ph, env, sr, rs, OutG.bind o fun x ph1 φ1 H1 u e1 s1 r1 o1 => ?_⟩
  subst r1
  cases u with
  | false => exact ⟨φ1, ph1, env, s1, rs.mono e1, o1⟩
  | true => exact o1 φ1 H1 true Ext.refl s1 rfl
theorem z_not (ha : PT X a (rT X.K Wx ta)) : PT X (.UnaryOp .Not a pos) (rT X.K Wx (mNotT ta)) := by
  refine ptW (pt_not ha) fun σ H Q h => ?_
  obtain ⟨φ, ph, env, sr, rs, o⟩ := h
  refine ⟨φ, ph, env, sr, rs, OutG.bind o fun x ph1 φ1 H1 u e1 s1 r1 o1 => ?_⟩
  subst r1
  exact o1 φ1 H1 (!u) Ext.refl s1 rfl
theorem z_ifE (hc : PT X c (rT X.K Wx tc)) (ha : PE X a (rE X.K Wx ma)) (hb : PE X b (rE X.K Wx mb)) : PE X (.IfExp c a b pos) (rE X.K Wx (mIf tc ma mb)) := by
  refine peW (pe_ifExp hc ha hb) fun σ H Q h => ?_
  obtain ⟨φ, ph, env, sr, rs, o⟩ := h
  refine ⟨φ, ph, env, sr, rs, OutG.bind o fun x ph1 φ1 H1 u e1 s1 r1 o1 => ?_⟩
  subst r1
  cases u with
  | true => exact ⟨φ1, ph1, env, s1, rs.mono e1, o1⟩
  | false => exact ⟨φ1, ph1, env, s1, rs.mono e1, o1⟩
theorem z_one {op} (ha : PE X a (rE X.K Wx ma)) : PE X (.BoolOp op [a] pos) (rE X.K Wx ma) := pe_one ha
theorem z_andV (ha : PE X a (rE X.K Wx ma)) (hb : PE X (.BoolOp .And (b :: rest) pos) (rE X.K Wx mb)) : PE X (.BoolOp .And (a :: b :: rest) pos) (rE X.K Wx (mAndV ma mb)) := by
  refine peW (pe_andT ha hb) fun σ H Q h => ?_
  obtain ⟨φ, ph, env, sr, rs, o⟩ := h
  refine ⟨φ, ph, env, sr, rs, OutG.bind o fun x ph1 φ1 H1 u e1 s1 r1 o1 => ?_⟩
  cases q : truZ ph1 x with
  | none => rw [q] at o1; exact o1.elim
  | some k =>
    rw [q] at o1
    refine ⟨k, truZ_ok s1 r1 q, ?_⟩
    cases k with
    | true => exact ⟨φ1, ph1, env, s1, rs.mono e1, o1⟩
    | false => exact o1 φ1 H1 u Ext.refl s1 r1
theorem z_orV (ha : PE X a (rE X.K Wx ma)) (hb : PE X (.BoolOp .Or (b :: rest) pos) (rE X.K Wx mb)) : PE X (.BoolOp .Or (a :: b :: rest) pos) (rE X.K Wx (mOrV ma mb)) := by
  refine peW (pe_orT ha hb) fun σ H Q h => ?_
  obtain ⟨φ, ph, env, sr, rs, o⟩ := h
  refine ⟨φ, ph, env, sr, rs, OutG.bind o fun x ph1 φ1 H1 u e1 s1 r1 o1 => ?_⟩
  cases q : truZ ph1 x with
  | none => rw [q] at o1; exact o1.elim
  | some k =>
    rw [q] at o1
    refine ⟨k, truZ_ok s1 r1 q, ?_⟩
    cases k with
    | false => exact ⟨φ1, ph1, env, s1, rs.mono e1, o1⟩
    | true => exact o1 φ1 H1 u Ext.refl s1 r1
theorem z_notV (ha : PE X a (rE X.K Wx ma)) : PE X (.UnaryOp .Not a pos) (rE X.K Wx (mNotV ma)) := by
  refine peW (pe_notT ha) fun σ H Q h => ?_
  obtain ⟨φ, ph, env, sr, rs, o⟩ := h
  refine ⟨φ, ph, env, sr, rs, OutG.bind o fun x ph1 φ1 H1 u e1 s1 r1 o1 => ?_⟩
  cases q : truZ ph1 x with
  | none => rw [q] at o1; exact o1.elim
  | some k =>
    rw [q] at o1
    exact ⟨k, truZ_ok s1 r1 q, o1 φ1 H1 _ Ext.refl s1 rep_bl⟩
/-! displays -/
theorem z_nil : PA X [] (rA X.K Wx mNil) := by
  refine paW pa_nil fun σ H Q h => ?_
  obtain ⟨φ, ph, env, sr, rs, o⟩ := h
  exact o φ H [] Ext.refl sr .nil
theorem z_cons (ha : PE X e (rE X.K Wx ma)) (hr : PA X es (rA X.K Wx as)) (hs : starEach (e :: es) X.env = (false, eval e X.env) :: starEach es X.env := by rfl) : PA X (e :: es) (rA X.K Wx (mCons ma as)) := by
  refine paW (pa_cons ha hr hs) fun σ H Q h => ?_
  obtain ⟨φ, ph, env, sr, rs, o⟩ := h
  refine ⟨φ, ph, env, sr, rs, OutG.bind o fun x ph1 φ1 H1 u e1 s1 r1 o1 => ⟨φ1, ph1, env, s1, rs.mono e1, OutG.bind o1 fun xs ph2 φ2 H2 us e2 s2 r2 o2 => ?_⟩⟩
  exact o2 φ2 H2 _ Ext.refl s2 (.cons (r1.mono e2) r2)
theorem z_tup {x1} (h : PA X es (rA X.K Wx as)) : PE X (.Tuple es x1 pos) (rE X.K Wx (mTup as)) := by
  refine peW (pe_tup h) fun σ H Q h => ?_
  obtain ⟨φ, ph, env, sr, rs, o⟩ := h
  refine ⟨φ, ph, env, sr, rs, OutG.bind o fun xs ph1 φ1 H1 us e1 s1 r1 o1 => ?_⟩
  split at o1
  · rename_i c
    refine ⟨by rw [r1.length]; exact c, fun p hp => ?_⟩
    obtain ⟨φ', e', s', r'⟩ := s1.tupNew r1 hp
    exact o1 φ' _ _ e' s' r'
  · exact o1.elim
theorem fr_lst (h : PA X es (rA X.K Wx as)) : PE X (.List es pos) (rF X.K Wx (mLst as)) := by
  refine peW (pe_lst h) fun σ H Q h => ?_
  obtain ⟨φ, ph, env, sr, rs, o⟩ := h
  refine ⟨φ, ph, env, sr, rs, OutF.bind o fun xs ph1 φ1 H1 us e1 s1 r1 o1 => ?_⟩
  split at o1
  · rename_i c
    refine ⟨by rw [r1.length]; exact c, fun p hp => ?_⟩
    obtain ⟨e2, s2, f2⟩ := s1.lstNew r1 hp hp
    exact o1 _ _ p e2 s2 f2
  · exact o1.elim
theorem onlyL_lst : OnlyL (mLst as) := by
  intro env ph v ph' h
  unfold mLst Res.bind at h
  split at h
  · dsimp only at h
    split at h
    · cases h; exact ⟨_, rfl⟩
    · cases h
  · cases h
  · cases h
end

/-! ### statements -/
def OutS (K : PySem.W.Frag) (Wx : WX) (φ : Phi) (H : Hp) (D : Ends) : SRes → Prop
  | .nx env' ph' => ∀ φ' H' σ', Ext φ H φ' H' → SR K φ' H' ph' → RepS K φ' H' σ' env' → D.nx σ' H'
  | .rt v ph' => ∀ φ' H' u, Ext φ H φ' H' → SR K φ' H' ph' → Rep K φ' H' v u → D.rt u H'
  | .bk env' ph' => ∀ φ' H' σ', Ext φ H φ' H' → SR K φ' H' ph' → RepS K φ' H' σ' env' → D.bk σ' H'
  | .ct env' ph' => ∀ φ' H' σ', Ext φ H φ' H' → SR K φ' H' ph' → RepS K φ' H' σ' env' → D.ct σ' H'
  | .err x env' ph' => ∀ φ' H' σ' c d, Ext φ H φ' H' → SR K φ' H' ph' → RepS K φ' H' σ' env' → RepX K φ' H' x c d → Wx c d σ' H'
  | .bad => False
def rS (K : PySem.W.Frag) (Wx : WX) (m : DS) : TS := fun D σ H => ∃ φ ph env, SR K φ H ph ∧ RepS K φ H σ env ∧ OutS K Wx φ H D (m env ph)
theorem OutS.mono {K : PySem.W.Frag} {Wx : WX} {φ φ1 : Phi} {H H1 : Hp} {D : Ends} {r : SRes} (o : OutS K Wx φ H D r) (e : Ext φ H φ1 H1) : OutS K Wx φ1 H1 D r := by
  cases r with
  | nx _ _ => exact fun φ' H' σ' e2 s r => o φ' H' σ' (e.trans e2) s r
  | rt _ _ => exact fun φ' H' σ' e2 s r => o φ' H' σ' (e.trans e2) s r
  | bk _ _ => exact fun φ' H' σ' e2 s r => o φ' H' σ' (e.trans e2) s r
  | ct _ _ => exact fun φ' H' σ' e2 s r => o φ' H' σ' (e.trans e2) s r
  | err _ _ _ => exact fun φ' H' σ' c d e2 s r x => o φ' H' σ' c d (e.trans e2) s r x
  | bad => exact o
/-- an expression's result within a statement -/
def Res.st {α : Type} (r : Res α) (env : ZEnv) (k : α → PH → SRes) : SRes := match r with
  | .ok v ph => k v ph
  | .err x ph => .err x env ph
  | .bad => .bad
theorem OutS.ofE {α β : Type} {K : PySem.W.Frag} {R : Phi → Hp → α → β → Prop} {Wx : WX} {φ : Phi} {H : Hp} {σ : St} {env : ZEnv} {D : Ends} {r : Res α} {k : α → PH → SRes} {Q : β → Hp → Prop} (rs : RepS K φ H σ env)
    (o : OutS K Wx φ H D (r.st env k)) (h : ∀ p ph1 φ1 H1 u, Ext φ H φ1 H1 → SR K φ1 H1 ph1 → R φ1 H1 p u → RepS K φ1 H1 σ env → OutS K Wx φ1 H1 D (k p ph1) → Q u H1) : OutG K R Wx φ H σ Q r := by
  cases r with
  | ok p ph1 => exact fun φ1 H1 u e s r => h p ph1 φ1 H1 u e s r (rs.mono e) (OutS.mono (show OutS K Wx φ H D (k p ph1) from o) e)
  | err x ph1 => exact fun φ1 H1 c d e s r => o φ1 H1 σ c d e s (rs.mono e) r
  | bad => exact o
def SRes.seq (r : SRes) (k : ZEnv → PH → SRes) : SRes := match r with
  | .nx env ph => k env ph
  | r => r
def sNil : DS := fun env ph => .nx env ph
def sSeq (a b : DS) : DS := fun env ph => (a env ph).seq b
def sBad : DS := fun _ _ => .bad
def sExpr (m : DE) : DS := fun env ph => (m env ph).st env fun _ ph1 => .nx env ph1
def sRet (m : DE) : DS := fun env ph => (m env ph).st env fun v ph1 => .rt v ph1
def sRetN : DS := fun _ ph => .rt .non ph
def sIf (c : DT) (a b : DS) : DS := fun env ph => (c env ph).st env fun k ph1 => if k then a env ph1 else b env ph1
def sBreak : DS := fun env ph => .bk env ph
def sCont : DS := fun env ph => .ct env ph
def sSet (i : Nat) (m : DE) : DS := fun env ph => (m env ph).st env fun v ph1 => .nx (env.set i (some v)) ph1
/-- a fresh list is located -/
def sSetL (i : Nat) (m : DE) : DS := fun env ph => (m env ph).st env fun v ph1 => match v with
  | .lst xs => .nx (env.set i (some (.loc ph1.length))) (ph1 ++ [.lst xs])
  | _ => .bad
def sRetL (m : DE) : DS := fun env ph => (m env ph).st env fun v ph1 => match v with
  | .lst xs => .rt (.loc ph1.length) (ph1 ++ [.lst xs])
  | _ => .bad
/-- locating -/
def Phi.locate (φ : Phi) (a : Addr) (h : a ∈ φ.av) : Phi := ⟨φ.loc ++ [a], φ.av, fun b hb => by
  rcases List.mem_append.mp hb with h1 | h1
  · exact φ.sub b h1
  · rw [List.mem_singleton.mp h1]; exact h⟩
mutual
theorem Rep.grow {K : PySem.W.Frag} {φ φ' : Phi} {H : Hp} {a : Addr} (e : φ'.loc = φ.loc ++ [a]) (w : φ'.av = φ.av) : ∀ (p : PV) (v : V), Rep K φ H p v → Rep K φ' H p v
  | .non, _, h => h
  | .bl _, _, h => h
  | .int _, _, h => h
  | .str _, _, h => h
  | .ty _, _, h => h
  | .fn _, _, h => h
  | .tup xs, v, h => by
    unfold Rep at h ⊢
    obtain ⟨a, vs, ev, hd, hl⟩ := h
    exact ⟨a, vs, ev, by rw [w]; exact hd, RepL.grow e w xs vs hl⟩
  | .lst xs, v, h => by
    unfold Rep at h ⊢
    obtain ⟨a, vs, ev, hn, hr, hl⟩ := h
    exact ⟨a, vs, ev, by rw [w]; exact hn, hr, RepL.grow e w xs vs hl⟩
  | .scr xs, v, h => by
    unfold Rep at h ⊢
    obtain ⟨a, vs, ev, hd, hl⟩ := h
    exact ⟨a, vs, ev, by rw [w]; exact hd, RepL.grow e w xs vs hl⟩
  | .dct ks xs, v, h => by
    unfold Rep at h ⊢
    obtain ⟨a, kvs, ev, hn, hr, hk, hl⟩ := h
    exact ⟨a, kvs, ev, by rw [w]; exact hn, hr, hk, RepL.grow e w xs _ hl⟩
  | .loc n, v, h => by
    unfold Rep at h ⊢
    obtain ⟨b, hb, ev⟩ := h
    exact ⟨b, by rw [e, List.getElem?_append_left (List.getElem?_eq_some_iff.mp hb).1]; exact hb, ev⟩
theorem RepL.grow {K : PySem.W.Frag} {φ φ' : Phi} {H : Hp} {a : Addr} (e : φ'.loc = φ.loc ++ [a]) (w : φ'.av = φ.av) : ∀ (ps : List PV) (vs : List V), RepL K φ H ps vs → RepL K φ' H ps vs
  | [], _, h => h
  | p :: ps, vs, h => by
    unfold RepL at h ⊢
    obtain ⟨v, ws, ev, h1, h2⟩ := h
    exact ⟨v, ws, ev, Rep.grow e w p v h1, RepL.grow e w ps ws h2⟩
end
theorem RepO.grow {K : PySem.W.Frag} {φ φ' : Phi} {H : Hp} {a b : Addr} {o : PO} (e : φ'.loc = φ.loc ++ [a]) (w : φ'.av = φ.av) (h : RepO K φ H b o) : RepO K φ' H b o := by
  cases o with
  | lst xs => obtain ⟨vs, q, l⟩ := h; exact ⟨vs, q, l.grow e w⟩
  | dct ks xs => obtain ⟨kvs, q, hk, l⟩ := h; exact ⟨kvs, q, hk, l.grow e w⟩
  | ins c fs => obtain ⟨dx, ws, q, hk, l⟩ := h; exact ⟨dx, ws, q, hk, l.grow e w⟩
theorem SR.locate {K : PySem.W.Frag} {φ : Phi} {H : Hp} {ph : PH} {a : Addr} {o : PO} (s : SR K φ H ph) (hav : a ∈ φ.av) (hlo : a ∉ φ.loc) (h : RepO K φ H a o) : SR K (φ.locate a hav) H (ph ++ [o]) := by
  refine ⟨by show (φ.loc ++ [a]).length = _; rw [List.length_append, List.length_append, s.len]; rfl, List.nodup_append.mpr ⟨s.nd, by simp, by intro x hx y hy; simp at hy; subst hy; rintro rfl; exact hlo hx⟩, s.tr, fun n b x e1 e2 => ?_⟩
  have e1' : (φ.loc ++ [a])[n]? = some b := e1
  by_cases hn : n < φ.loc.length
  · rw [List.getElem?_append_left hn] at e1'
    rw [List.getElem?_append_left (by rw [← s.len]; exact hn)] at e2
    exact RepO.grow (φ := φ) (φ' := φ.locate a hav) rfl rfl (s.ob n b x e1' e2)
  · rw [List.getElem?_append_right (by omega)] at e1'
    rw [List.getElem?_append_right (by rw [← s.len]; omega), ← s.len] at e2
    cases q : n - φ.loc.length with
    | zero =>
      rw [q] at e1' e2
      cases e1'
      cases e2
      exact RepO.grow (φ := φ) (φ' := φ.locate _ hav) rfl rfl h
    | succ k => rw [q] at e1'; cases e1'
theorem Ext.locate {φ0 φ : Phi} {H0 H : Hp} {a : Addr} (e : Ext φ0 H0 φ H) (hav : a ∈ φ.av) (h0 : H0 a = none) : Ext φ0 H0 (φ.locate a hav) H := by
  obtain ⟨ψ, e1, n⟩ := e.ext
  refine ⟨⟨ψ ++ [a], by show φ.loc ++ [a] = _; rw [e1, List.append_assoc], fun b hb => ?_⟩, e.av, e.mo, e.kp, e.dom⟩
  rcases List.mem_append.mp hb with h | h
  · exact n b h
  · rw [List.mem_singleton.mp h]; exact h0
theorem IsFr.locate {K : PySem.W.Frag} {H0 : Hp} {φ0 φ : Phi} {H : Hp} {ph : PH} {xs : List PV} {a : Addr} (f : IsFr K H0 φ H xs a) (e : Ext φ0 H0 φ H) (s : SR K φ H ph) :
    ∃ φ', Ext φ0 H0 φ' H ∧ SR K φ' H (ph ++ [.lst xs]) ∧ Rep K φ' H (.loc ph.length) (.ref a) := by
  obtain ⟨vs, h1, h2⟩ := f.at_
  refine ⟨φ.locate a f.av, e.locate f.av f.new, s.locate f.av f.lo ⟨vs, h1, h2⟩, ?_⟩
  unfold Rep
  refine ⟨a, ?_, rfl⟩
  show (φ.loc ++ [a])[ph.length]? = some a
  rw [← s.len, List.getElem?_append_right (Nat.le_refl _), Nat.sub_self]
  rfl
theorem OutS.ofF {K : PySem.W.Frag} {Wx : WX} {φ : Phi} {H : Hp} {σ : St} {env : ZEnv} {D : Ends} {r : Res PV} {k : PV → PH → SRes} {Q : VK} (rs : RepS K φ H σ env) (ol : ∀ v ph', r = .ok v ph' → ∃ xs, v = .lst xs)
    (o : OutS K Wx φ H D (r.st env k)) (h : ∀ xs ph1 φ1 H1 a, Ext φ H φ1 H1 → SR K φ1 H1 ph1 → IsFr K H φ1 H1 xs a → OutS K Wx φ H D (k (.lst xs) ph1) → Q (.ref a) H1) : OutF K Wx φ H σ Q r := by
  cases r with
  | ok p ph1 =>
    obtain ⟨xs, rfl⟩ := ol _ _ rfl
    exact fun φ1 H1 a e s f => h xs ph1 φ1 H1 a e s f o
  | err x ph1 => exact fun φ1 H1 c d e s r => o φ1 H1 σ c d e s (rs.mono e) r
  | bad => exact o
section
variable {X : Cx} {Wx : WX} {e c : Expr} {st : Stmt} {rest sa sb : List Stmt} {pos : Pos} {m : DE} {t : DT} {a b : DS}
theorem zs_nil : PSs X [] (rS X.K Wx sNil) := by
  refine pssW pss_nil fun D σ H h => ?_
  obtain ⟨φ, ph, env, sr, rs, o⟩ := h
  exact o φ H σ Ext.refl sr rs
theorem zs_cons (h1 : PS X st (rS X.K Wx a)) (h2 : PSs X rest (rS X.K Wx b)) : PSs X (st :: rest) (rS X.K Wx (sSeq a b)) := by
  refine pssW (pss_cons h1 h2) fun D σ H h => ?_
  obtain ⟨φ, ph, env, sr, rs, o⟩ := h
  refine ⟨φ, ph, env, sr, rs, ?_⟩
  unfold sSeq at o
  cases q : a env ph with
  | nx env1 ph1 => rw [q] at o; exact fun φ1 H1 σ1 e1 s1 r1 => ⟨φ1, ph1, env1, s1, r1, OutS.mono (show OutS X.K Wx φ H D (b env1 ph1) from o) e1⟩
  | rt _ _ => rw [q] at o; exact o
  | bk _ _ => rw [q] at o; exact o
  | ct _ _ => rw [q] at o; exact o
  | err _ _ _ => rw [q] at o; exact o
  | bad => rw [q] at o; exact o
theorem zs_one (h1 : PS X st (rS X.K Wx a)) : PSs X [st] (rS X.K Wx a) := pss_one h1
theorem zs_bad {sts : List Stmt} : PSs X sts (rS X.K Wx sBad) := pssW pss_never fun D σ H h => by
  obtain ⟨φ, ph, env, sr, rs, o⟩ := h
  exact o
theorem z_bad : PS X st (rS X.K Wx sBad) := psW ps_never fun D σ H h => by
  obtain ⟨φ, ph, env, sr, rs, o⟩ := h
  exact o
theorem z_pass : PS X (.Pass pos) (rS X.K Wx sNil) := psW ps_pass fun D σ H h => by
  obtain ⟨φ, ph, env, sr, rs, o⟩ := h
  exact o φ H σ Ext.refl sr rs
theorem z_break : PS X (.Break pos) (rS X.K Wx sBreak) := psW ps_break fun D σ H h => by
  obtain ⟨φ, ph, env, sr, rs, o⟩ := h
  exact o φ H σ Ext.refl sr rs
theorem z_continue : PS X (.Continue pos) (rS X.K Wx sCont) := psW ps_continue fun D σ H h => by
  obtain ⟨φ, ph, env, sr, rs, o⟩ := h
  exact o φ H σ Ext.refl sr rs
theorem z_expr (he : PE X e (rE X.K Wx m)) (hs : swapsWith e none pos.line X.env = pure false := by rfl) : PS X (.Expr e pos) (rS X.K Wx (sExpr m)) := by
  refine psW (ps_expr he hs) fun D σ H h => ?_
  obtain ⟨φ, ph, env, sr, rs, o⟩ := h
  exact ⟨φ, ph, env, sr, rs, OutS.ofE rs o fun p ph1 φ1 H1 u e1 s1 r1 rs1 o1 => o1 φ1 H1 σ Ext.refl s1 rs1⟩
theorem z_ret (he : PE X e (rE X.K Wx m)) : PS X (.Return (some e) pos) (rS X.K Wx (sRet m)) := by
  refine psW (ps_ret he) fun D σ H h => ?_
  obtain ⟨φ, ph, env, sr, rs, o⟩ := h
  exact ⟨φ, ph, env, sr, rs, OutS.ofE rs o fun p ph1 φ1 H1 u e1 s1 r1 rs1 o1 => o1 φ1 H1 u Ext.refl s1 r1⟩
theorem z_retN : PS X (.Return none pos) (rS X.K Wx sRetN) := psW ps_retN fun D σ H h => by
  obtain ⟨φ, ph, env, sr, rs, o⟩ := h
  exact o φ H .non Ext.refl sr rep_non
theorem z_if (hc : PT X c (rT X.K Wx t)) (ha : PSs X sa (rS X.K Wx a)) (hb : PSs X sb (rS X.K Wx b)) : PS X (.If c sa sb pos) (rS X.K Wx (sIf t a b)) := by
  refine psW (ps_if hc ha hb) fun D σ H h => ?_
  obtain ⟨φ, ph, env, sr, rs, o⟩ := h
  refine ⟨φ, ph, env, sr, rs, OutS.ofE rs o fun p ph1 φ1 H1 u e1 s1 r1 rs1 o1 => ?_⟩
  subst r1
  cases u with
  | true => exact ⟨φ1, ph1, env, s1, rs1, o1⟩
  | false => exact ⟨φ1, ph1, env, s1, rs1, o1⟩
theorem z_set {i : Nat} {x : Str} {pos' : Pos} (hN : X.N.Nodup) (hi : X.N[i]? = some x) (hx : Loc X.env.scope x) (he : PE X e (rE X.K Wx m)) (hs : swapsWith e (some (.Name x pos')) pos.line X.env = pure false := by rfl) (hf : X.fn x = true ∨ X.env.scope.names.lookup x = some .local := by first | exact .inl rfl | exact .inr rfl | assumption) :
    PS X (.Assign [.Name x pos'] e pos) (rS X.K Wx (sSet i m)) := by
  refine psW (ps_set hN hi hx he hs hf) fun D σ H h => ?_
  obtain ⟨φ, ph, env, sr, rs, o⟩ := h
  exact ⟨φ, ph, env, sr, rs, OutS.ofE rs o fun p ph1 φ1 H1 u e1 s1 r1 rs1 o1 => o1 φ1 H1 _ Ext.refl s1 (rs1.set r1)⟩
/-- name = a fresh list, located -/
theorem z_setL {i : Nat} {x : Str} {pos' : Pos} (ol : OnlyL m) (hN : X.N.Nodup) (hi : X.N[i]? = some x) (hx : Loc X.env.scope x) (he : PE X e (rF X.K Wx m)) (hs : swapsWith e (some (.Name x pos')) pos.line X.env = pure false := by rfl) (hf : X.fn x = true ∨ X.env.scope.names.lookup x = some .local := by first | exact .inl rfl | exact .inr rfl | assumption) :
    PS X (.Assign [.Name x pos'] e pos) (rS X.K Wx (sSetL i m)) := by
  refine psW (ps_set hN hi hx he hs hf) fun D σ H h => ?_
  obtain ⟨φ, ph, env, sr, rs, o⟩ := h
  refine ⟨φ, ph, env, sr, rs, OutS.ofF rs (ol env ph) o fun xs ph1 φ1 H1 a e1 s1 f1 o1 => ?_⟩
  obtain ⟨φ2, e2, s2, r2⟩ := f1.locate e1 s1
  exact o1 φ2 H1 _ e2 s2 ((rs.mono e2).set r2)
theorem z_retL (ol : OnlyL m) (he : PE X e (rF X.K Wx m)) : PS X (.Return (some e) pos) (rS X.K Wx (sRetL m)) := by
  refine psW (ps_ret he) fun D σ H h => ?_
  obtain ⟨φ, ph, env, sr, rs, o⟩ := h
  refine ⟨φ, ph, env, sr, rs, OutS.ofF rs (ol env ph) o fun xs ph1 φ1 H1 a e1 s1 f1 o1 => ?_⟩
  obtain ⟨φ2, e2, s2, r2⟩ := f1.locate e1 s1
  exact o1 φ2 H1 _ e2 s2 r2
end
end OfP
/-! Layer Z, part 4: targets, what is walked, for, while, comprehensions. -/
namespace OfP
open PySem PySem.Spec L2
open PyProof.Rows hiding St

/-! ### targets -/
abbrev DGt := PV → Option (List (Nat × PV))
abbrev DGts := List PV → Option (List (Nat × PV))
def setsE (env : ZEnv) (l : List (Nat × PV)) : ZEnv := l.foldl (fun e q => e.set q.1 (some q.2)) env
def setsS (σ : St) (l : List (Nat × V)) : St := l.foldl (fun e q => e.set q.1 (some q.2)) σ
def rGt (K : PySem.W.Frag) (g : DGt) : TG := fun v σ H Q => ∃ φ ph p l, SR K φ H ph ∧ Rep K φ H p v ∧ g p = some l ∧
  ∀ lv : List (Nat × V), lv.map (·.1) = l.map (·.1) → RepL K φ H (l.map (·.2)) (lv.map (·.2)) → Q (setsS σ lv) H
def rGts (K : PySem.W.Frag) (g : DGts) : TGs := fun vs σ H Q => ∃ φ ph ps l, SR K φ H ph ∧ RepL K φ H ps vs ∧ g ps = some l ∧
  ∀ lv : List (Nat × V), lv.map (·.1) = l.map (·.1) → RepL K φ H (l.map (·.2)) (lv.map (·.2)) → Q (setsS σ lv) H
def tgName (i : Nat) : DGt := fun p => some [(i, p)]
def tgNil : DGts := fun ps => match ps with
  | [] => some []
  | _ => none
def tgCons (g : DGt) (gs : DGts) : DGts := fun ps => match ps with
  | p :: r => (match g p, gs r with
    | some l, some l2 => some (l ++ l2)
    | _, _ => none)
  | [] => none
def tgTup (n : Nat) (gs : DGts) : DGt := fun p => match p with
  | .tup ps => if ps.length = n then gs ps else none
  | _ => none
/-- a target stores in these slots alone -/
def InSl (vs : List Nat) (g : DGt) : Prop := ∀ p l, g p = some l → ∀ i ∈ l.map (·.1), i ∈ vs
def InSls (vs : List Nat) (g : DGts) : Prop := ∀ p l, g p = some l → ∀ i ∈ l.map (·.1), i ∈ vs
theorem inSl_name {vs : List Nat} {i : Nat} (h : i ∈ vs) : InSl vs (tgName i) := by
  intro p l e j hj
  cases e
  simp at hj
  rw [hj]; exact h
theorem inSl_nil {vs : List Nat} : InSls vs tgNil := by
  intro p l e j hj
  unfold tgNil at e
  split at e <;> cases e
  simp at hj
theorem inSl_cons {vs : List Nat} {g : DGt} {gs : DGts} (h : InSl vs g) (h2 : InSls vs gs) : InSls vs (tgCons g gs) := by
  intro p l e j hj
  unfold tgCons at e
  split at e
  · split at e
    · rename_i l1 l2 e1 e2
      cases e
      rw [List.map_append] at hj
      rcases List.mem_append.mp hj with q | q
      · exact h _ _ e1 j q
      · exact h2 _ _ e2 j q
    · cases e
  · cases e
theorem inSl_tup {vs : List Nat} {n : Nat} {gs : DGts} (h : InSls vs gs) : InSl vs (tgTup n gs) := by
  intro p l e j hj
  unfold tgTup at e
  split at e
  · split at e
    · exact h _ _ e j hj
    · cases e
  · cases e
theorem setsE_append (env : ZEnv) (a b : List (Nat × PV)) : setsE env (a ++ b) = setsE (setsE env a) b := List.foldl_append
theorem setsS_append (σ : St) (a b : List (Nat × V)) : setsS σ (a ++ b) = setsS (setsS σ a) b := List.foldl_append
theorem split_lv {α : Type} : ∀ (l l2 : List (Nat × PV)) (lv : List (Nat × α)), lv.map (·.1) = (l ++ l2).map (·.1) → ∃ a b, lv = a ++ b ∧ a.map (·.1) = l.map (·.1) ∧ b.map (·.1) = l2.map (·.1)
  | [], l2, lv, h => ⟨[], lv, rfl, rfl, h⟩
  | x :: l, l2, lv, h => by
    cases lv with
    | nil => simp at h
    | cons y lv =>
      simp only [List.cons_append, List.map_cons, List.cons.injEq] at h
      obtain ⟨a, b, e1, e2, e3⟩ := split_lv l l2 lv h.2
      exact ⟨y :: a, b, by rw [e1]; rfl, by simp [h.1, e2], e3⟩
theorem RepS.sets {K : PySem.W.Frag} {φ : Phi} {H : Hp} : ∀ {l : List (Nat × PV)} {lv : List (Nat × V)} {σ : St} {env : ZEnv}, RepS K φ H σ env → lv.map (·.1) = l.map (·.1) → RepL K φ H (l.map (·.2)) (lv.map (·.2)) → RepS K φ H (setsS σ lv) (setsE env l)
  | [], [], _, _, r, _, _ => r
  | [], _ :: _, _, _, _, h, _ => by simp at h
  | _ :: _, [], _, _, _, h, _ => by simp at h
  | x :: l, y :: lv, σ, env, r, h, t => by
    simp only [List.map_cons, List.cons.injEq] at h t
    obtain ⟨v, ws, e, h1, h2⟩ := t.inv
    cases e
    show RepS K φ H (setsS (σ.set y.1 (some y.2)) lv) (setsE (env.set x.1 (some x.2)) l)
    rw [h.1]
    exact (r.set h1).sets h.2 h2
theorem wipe_in {j : Nat} (τ : St) : ∀ {vs : List Nat}, j ∈ vs → (wipe τ vs)[j]? = if j < τ.length then some none else none
  | [], h => by cases h
  | v :: vs, h => by
    unfold wipe
    by_cases e : v = j
    · subst e
      by_cases hl : v < τ.length
      · rw [List.getElem?_set_self (by rw [wipe_length]; exact hl), if_pos hl]
      · rw [List.getElem?_eq_none (by rw [List.length_set, wipe_length]; omega), if_neg hl]
    · rw [List.getElem?_set_ne e]
      refine wipe_in τ ?_
      rcases List.mem_cons.mp h with q | q
      · exact absurd q.symm e
      · exact q
theorem wipe_set {σ : St} {i : Nat} {x : Option V} {vs : List Nat} (h : i ∈ vs) : wipe (σ.set i x) vs = wipe σ vs := by
  apply List.ext_getElem?
  intro j
  by_cases hj : j ∈ vs
  · rw [wipe_in _ hj, wipe_in _ hj, List.length_set]
  · rw [wipe_out hj, wipe_out hj, List.getElem?_set_ne (fun e => hj (by rw [← e]; exact h))]
theorem wipe_wipe {σ : St} {vs : List Nat} : wipe (wipe σ vs) vs = wipe σ vs := by
  apply List.ext_getElem?
  intro j
  by_cases hj : j ∈ vs
  · rw [wipe_in _ hj, wipe_in _ hj, wipe_length]
  · rw [wipe_out hj, wipe_out hj]
theorem wipe_sets : ∀ {lv : List (Nat × V)} {σ : St} {vs : List Nat}, (∀ i ∈ lv.map (·.1), i ∈ vs) → wipe (setsS σ lv) vs = wipe σ vs
  | [], _, _, _ => rfl
  | q :: lv, σ, vs, h => by
    show wipe (setsS (σ.set q.1 (some q.2)) lv) vs = _
    rw [wipe_sets (fun i hi => h i (by simp at hi ⊢; exact .inr hi)), wipe_set (h q.1 (by simp))]
section
variable {X : Cx} {pos : Pos}
theorem z_gname {i : Nat} {x : Str} (hN : X.N.Nodup) (hi : X.N[i]? = some x) (hx : Loc X.env.scope x) (hf : X.fn x = true ∨ X.env.scope.names.lookup x = some .local := by first | exact .inl rfl | exact .inr rfl | assumption) : PG X (.Name x pos) (rGt X.K (tgName i)) := by
  refine ⟨fun pins s σ H v u Q I r h => (pg_name hN hi hx hf).run pins s σ H v u Q I r ?_⟩
  obtain ⟨φ, ph, p, l, sr, rp, e, q⟩ := h
  cases e
  exact q [(i, v)] rfl (.cons rp .nil)
theorem z_gnil : PGs X [] (rGts X.K tgNil) := by
  refine ⟨fun pins s σ H vs us Q I r h => pgs_nil.run pins s σ H vs us Q I r ?_⟩
  obtain ⟨φ, ph, ps, l, sr, rp, e, q⟩ := h
  unfold tgNil at e
  split at e
  · cases e
    exact ⟨rp.inv0, q [] rfl .nil⟩
  · cases e
theorem z_gcons {e : Expr} {es : List Expr} {g : DGt} {gs : DGts} (h1 : PG X e (rGt X.K g)) (h2 : PGs X es (rGts X.K gs))
    (hs : (assignEach (e :: es) X.env).map (·.2) = assign e X.env :: (assignEach es X.env).map (·.2) := by rfl) : PGs X (e :: es) (rGts X.K (tgCons g gs)) := by
  refine ⟨fun pins s σ H vs us Q I r h => (pgs_cons h1 h2 hs).run pins s σ H vs us Q I r ?_⟩
  obtain ⟨φ, ph, ps, l, sr, rp, e, q⟩ := h
  unfold tgCons at e
  split at e
  · split at e
    · rename_i l1 l2 e1 e2
      cases e
      obtain ⟨v, ws, rfl, r1, r2⟩ := rp.inv
      refine ⟨v, ws, rfl, φ, ph, _, l1, sr, r1, e1, fun lv hk hr => ⟨φ, ph, _, l2, sr, r2, e2, fun lv2 hk2 hr2 => ?_⟩⟩
      rw [← setsS_append]
      exact q (lv ++ lv2) (by rw [List.map_append, List.map_append, hk, hk2]) (by rw [List.map_append, List.map_append]; exact hr.append hr2)
    · cases e
  · cases e
theorem z_gtup {es : List Expr} {k : Nat} {gs : DGts} {n : Nat} (hc : X.calm = true) (h : PGs X es (rGts X.K gs))
    (hn : (assignEach es X.env).length = n := by rfl) (hst : (assignEach es X.env).findIdx? (·.1) = none := by rfl) : PG X (.Tuple es k pos) (rGt X.K (tgTup n gs)) := by
  refine ⟨fun pins s σ H v u Q I r h1 => (pg_tup hc h hn hst).run pins s σ H v u Q I r ?_⟩
  obtain ⟨φ, ph, p, l, sr, rp, e, q⟩ := h1
  unfold tgTup at e
  split at e
  · split at e
    · rename_i ps hl
      obtain ⟨a, vs, rfl, h1, h2⟩ := rp.sqT
      exact ⟨a, vs, rfl, h1, by rw [h2.length]; exact hl, φ, ph, ps, l, sr, h2, e, q⟩
    · cases e
  · cases e
/-- a, b = a tuple -/
def sUnp (g : DGt) (m : DE) : DS := fun env ph => (m env ph).st env fun v ph1 => match g v with
  | some l => .nx (setsE env l) ph1
  | none => .bad
theorem z_unp {Wx : WX} {tg e : Expr} {g : DGt} {m : DE} (he : PE X e (rE X.K Wx m)) (hg : PG X tg (rGt X.K g)) (hs : swapsWithSole [tg] e pos.line X.env = pure false := by rfl) (hw : swappedStores [tg] e X.env = pure none := by rfl)
    (h1 : (assignEach [tg] X.env).map (·.2) = [assign tg X.env] := by rfl) : PS X (.Assign [tg] e pos) (rS X.K Wx (sUnp g m)) := by
  refine psW (ps_asg he hg hs hw h1) fun D σ H h => ?_
  obtain ⟨φ, ph, env, sr, rs, o⟩ := h
  refine ⟨φ, ph, env, sr, rs, OutS.ofE rs o fun p ph1 φ1 H1 u e1 s1 r1 rs1 o1 => ?_⟩
  cases q : g p with
  | none => rw [q] at o1; exact o1.elim
  | some l => rw [q] at o1; exact ⟨φ1, ph1, p, l, s1, r1, q, fun lv hk hr => o1 φ1 H1 _ Ext.refl s1 (rs1.sets hk hr)⟩
end

/-! ### what is walked -/
structure ItV where
  items : List PV
  gd : List (Nat × List PV) := []
def ItV.chk (it : ItV) (ph : PH) : Prop := ∀ g ∈ it.gd, ph[g.1]? = some (.lst g.2)
abbrev DI := DG ItV
structure ItZ (K : PySem.W.Frag) (φ : Phi) (H : Hp) (it : ItV) (J : It) : Prop where
  go : ∀ i φ' H' ph', Ext φ H φ' H' → SR K φ' H' ph' → it.chk ph' → i < it.items.length → J.go i H'
  yld : ∀ i p φ' H' ph' x H'', Ext φ H φ' H' → SR K φ' H' ph' → it.chk ph' → it.items[i]? = some p → J.yld i H' x H'' → ∃ φ'', Ext φ' H' φ'' H'' ∧ SR K φ'' H'' ph' ∧ Rep K φ'' H'' p x
  stop : ∀ φ' H' ph', Ext φ H φ' H' → SR K φ' H' ph' → it.chk ph' → J.stop it.items.length H'
abbrev rI (K : PySem.W.Frag) (Wx : WX) (m : DI) : TI := rG K (ItZ K) Wx m
theorem piW {X : Cx} {tg e : Expr} {t t' : TI} (h : PI X tg e t) (w : ∀ σ H Q, t' σ H Q → t σ H Q) : PI X tg e t' := ⟨fun pins s σ H R I q => h.run pins s σ H R I (w σ H R q)⟩
/-- the list or tuple that a value is -/
def walkV (ph : PH) (p : PV) : Option ItV := match p with
  | .lst xs => some ⟨xs, []⟩
  | .tup xs => some ⟨xs, []⟩
  | .loc n => (match ph[n]? with
    | some (.lst xs) => some ⟨xs, [(n, xs)]⟩
    | _ => none)
  | _ => none
def iSeq (m : DE) : DI := fun env ph => (m env ph).bind fun p ph1 => .ofO (walkV ph1 p) ph1
def rngI (lo hi : Int) : List PV := (List.range (hi - lo).toNat).map fun (k : Nat) => .int (lo + (k : Int))
def rngOk (i : Int) : Bool := decide (-(2 ^ 62) ≤ i) && decide (i < 2 ^ 62)
def iRange1 (as : DA) : DI := fun env ph => (as env ph).bind fun vs ph1 => match vs with
  | [.int j] => if rngOk j then .ok ⟨rngI 0 j, []⟩ ph1 else .bad
  | _ => .bad
def iRange2 (as : DA) : DI := fun env ph => (as env ph).bind fun vs ph1 => match vs with
  | [.int i, .int j] => if rngOk i && rngOk j then .ok ⟨rngI i j, []⟩ ph1 else .bad
  | _ => .bad
def iText (m : DE) : DI := fun env ph => (m env ph).bind fun p ph1 => match p with
  | .str z => .ok ⟨z.cps.toList.map fun c => .str ⟨#[c]⟩, []⟩ ph1
  | _ => .bad
section
variable {K : PySem.W.Frag} {φ : Phi} {H : Hp} {ph : PH}
theorem itz_L {xs : List PV} {vs : List V} {a : Addr} {gd : List (Nat × List PV)} (l : RepL K φ H xs vs) (hk : ∀ φ' H' ph', Ext φ H φ' H' → SR K φ' H' ph' → (ItV.mk xs gd).chk ph' → ∃ ws, SqL K H' a ws ∧ RepL K φ' H' xs ws) : ItZ K φ H ⟨xs, gd⟩ (Itl K a) where
  go := fun i φ' H' ph' e s c hi => by
    obtain ⟨ws, h1, h2⟩ := hk φ' H' ph' e s c
    have hi' : i < ws.length := by rw [h2.length]; exact hi
    exact ⟨ws, ws[i], h1, List.getElem?_eq_getElem hi'⟩
  yld := fun i p φ' H' ph' x H'' e s c hi y => by
    obtain ⟨ws, h1, h2⟩ := hk φ' H' ph' e s c
    obtain ⟨eh, y⟩ := (show H'' = H' ∧ ∀ xs, SqL K H' a xs → xs[i]? = some x from y)
    subst eh
    obtain ⟨v, e1, r⟩ := h2.get hi
    rw [y ws h1] at e1
    cases e1
    exact ⟨φ', Ext.refl, s, r⟩
  stop := fun φ' H' ph' e s c => by
    obtain ⟨ws, h1, h2⟩ := hk φ' H' ph' e s c
    exact ⟨ws, h1, by rw [h2.length]; exact Nat.le_refl _⟩
theorem itz_T {xs : List PV} {vs : List V} {a : Addr} (l : RepL K φ H xs vs) (hk : ∀ φ' H', Ext φ H φ' H' → SqT K H' a vs) : ItZ K φ H ⟨xs, []⟩ (Itt K a) where
  go := fun i φ' H' ph' e s c hi => by
    have hi' : i < vs.length := by rw [l.length]; exact hi
    exact ⟨vs, vs[i], hk φ' H' e, List.getElem?_eq_getElem hi'⟩
  yld := fun i p φ' H' ph' x H'' e s c hi y => by
    obtain ⟨eh, y⟩ := (show H'' = H' ∧ ∀ xs, SqT K H' a xs → xs[i]? = some x from y)
    subst eh
    obtain ⟨v, e1, r⟩ := (l.mono e).get hi
    rw [y vs (hk φ' _ e)] at e1
    cases e1
    exact ⟨φ', Ext.refl, s, r⟩
  stop := fun φ' H' ph' e s c => ⟨vs, hk φ' H' e, by rw [l.length]; exact Nat.le_refl _⟩
theorem sqT_keep {φ' : Phi} {H' : Hp} {a : Addr} {vs : List V} (h : (a ∉ φ.av ∧ Rd H a (.tup vs)) ∨ KTup K a vs) (e : Ext φ H φ' H') : SqT K H' a vs := by
  rcases h with ⟨hn, hr⟩ | h
  · exact .inl (e.rd hr hn).1
  · exact .inr h
theorem walk_T (s : SR K φ H ph) {xs : List PV} {v : V} {it : ItV} (r : Rep K φ H (.tup xs) v) (e : walkV ph (.tup xs) = some it) : ∃ a, v = .ref a ∧ (∃ xs, SqT K H a xs) ∧ ItZ K φ H it (Itt K a) := by
  cases e
  unfold Rep at r
  obtain ⟨a, vs, rfl, hd, l⟩ := r
  exact ⟨a, rfl, ⟨vs, sqT_keep hd Ext.refl⟩, itz_T l fun φ' H' e' => sqT_keep hd e'⟩
theorem walk_L (s : SR K φ H ph) {p : PV} {v : V} {it : ItV} (r : Rep K φ H p v) (e : walkV ph p = some it) (hn : ∀ xs, p ≠ .tup xs) : ∃ a, v = .ref a ∧ (∃ xs, SqL K H a xs) ∧ ItZ K φ H it (Itl K a) := by
  unfold walkV at e
  split at e
  · cases e
    obtain ⟨a, vs, rfl, hn, hr, l⟩ := r.lst'
    exact ⟨a, rfl, ⟨vs, .inl (.inl hr)⟩, itz_L l fun φ' H' ph' e' _ _ => ⟨vs, .inl (e'.rd (.inl hr) hn).1, l.mono e'⟩⟩
  · exact absurd rfl (hn _)
  · rename_i n
    split at e
    · rename_i xs hx
      cases e
      obtain ⟨a, vs, rfl, ha, h1, l⟩ := s.lstAt r hx
      refine ⟨a, rfl, ⟨vs, .inl (.inl h1)⟩, itz_L l fun φ' H' ph' e' s' c => ?_⟩
      have hc : ph'[n]? = some (.lst xs) := c (n, xs) (by simp)
      obtain ⟨ψ, e2, _⟩ := e'.ext
      have ha' : φ'.loc[n]? = some a := by rw [e2, List.getElem?_append_left (List.getElem?_eq_some_iff.mp ha).1]; exact ha
      obtain ⟨ws, q1, q2⟩ := s'.ob n a _ ha' hc
      exact ⟨ws, .inl (.inl q1), q2⟩
    · cases e
  · cases e
theorem itz_R {lo : Int} {n : Nat} : ItZ K φ H ⟨(List.range n).map fun (k : Nat) => .int (lo + (k : Int)), []⟩ (Itr lo n) where
  go := fun i φ' H' ph' e s c hi => by
    show i < n
    simpa using hi
  yld := fun i p φ' H' ph' x H'' e s c hi y => by
    obtain ⟨eh, ex⟩ := (show H'' = H' ∧ x = .int (lo + i) from y)
    clear y
    subst eh
    subst ex
    rw [List.getElem?_map] at hi
    cases q : (List.range n)[i]? with
    | none => rw [q] at hi; cases hi
    | some j =>
      rw [q] at hi
      cases hi
      obtain ⟨h1, h2⟩ := List.getElem?_eq_some_iff.mp q
      rw [List.getElem_range] at h2
      subst h2
      exact ⟨φ', Ext.refl, s, rep_int⟩
  stop := fun φ' H' ph' e s c => by
    show n ≤ _
    simp
theorem itz_S {z : Str} : ItZ K φ H ⟨z.cps.toList.map fun c => .str ⟨#[c]⟩, []⟩ (Its z) where
  go := fun i φ' H' ph' e s c hi => by
    show i < z.cps.size
    simpa using hi
  yld := fun i p φ' H' ph' x H'' e s c hi y => by
    obtain ⟨eh, c1, hc, ex⟩ := (show H'' = H' ∧ ∃ c, z.cps[i]? = some c ∧ x = .str ⟨#[c]⟩ from y)
    clear y
    subst eh
    subst ex
    rw [List.getElem?_map] at hi
    have : z.cps.toList[i]? = some c1 := by rw [Array.getElem?_toList]; exact hc
    rw [this] at hi
    cases hi
    exact ⟨φ', Ext.refl, s, rep_str⟩
  stop := fun φ' H' ph' e s c => by
    show z.cps.size ≤ _
    simp
end
section
variable {X : Cx} {Wx : WX} {tg e a b : Expr} {m : DE} {as : DA} {p pos : Pos}
theorem piOr {t t' : TI} (h : PI X tg e t) (h' : PI X tg e t') : PI X tg e (fun σ H R => t σ H R ∨ t' σ H R) := ⟨fun pins s σ H R I q => q.elim (h.run pins s σ H R I) (h'.run pins s σ H R I)⟩
/-- the result's form decides between two rules -/
theorem z_iseq (he : PE X e (rE X.K Wx m)) : PI X tg e (rI X.K Wx (iSeq m)) := by
  refine piW (piOr (pi_list he) (pi_tup he)) fun σ H Q h => ?_
  obtain ⟨φ, ph, env, sr, rs, o⟩ := h
  cases q : m env ph with
  | bad => unfold iSeq at o; rw [q] at o; exact o.elim
  | err x ph1 =>
    unfold iSeq at o
    refine .inl ⟨φ, ph, env, sr, rs, ?_⟩
    rw [q] at o ⊢
    exact o
  | ok v ph1 =>
    unfold iSeq at o
    rw [q] at o
    cases q2 : walkV ph1 v with
    | none => simp only [Res.bind, q2] at o; exact o.elim
    | some it =>
      simp only [Res.bind, q2] at o
      by_cases hT : ∃ xs, v = .tup xs
      · refine .inr ⟨φ, ph, env, sr, rs, ?_⟩
        rw [q]
        intro φ1 H1 u e1 s1 r1
        obtain ⟨xs, rfl⟩ := hT
        obtain ⟨a, rfl, h1, h2⟩ := walk_T s1 r1 q2
        exact ⟨a, rfl, h1, o φ1 H1 _ e1 s1 h2⟩
      · refine .inl ⟨φ, ph, env, sr, rs, ?_⟩
        rw [q]
        intro φ1 H1 u e1 s1 r1
        obtain ⟨a, rfl, h1, h2⟩ := walk_L s1 r1 q2 fun xs e => hT ⟨xs, e⟩
        exact ⟨a, rfl, h1, o φ1 H1 _ e1 s1 h2⟩
theorem z_irange1 (hg : Gl X "range") (hm : X.mg "range" = none) (ha : PA X [a] (rA X.K Wx as)) (hs : starEach [a] X.env = [(false, eval a X.env)] := by rfl) : PI X tg (.Call (.Name "range" p) [a] [] pos) (rI X.K Wx (iRange1 as)) := by
  refine piW (pi_range1 hg hm ha hs) fun σ H Q h => ?_
  obtain ⟨φ, ph, env, sr, rs, o⟩ := h
  refine ⟨φ, ph, env, sr, rs, OutG.bind o fun vs ph1 φ1 H1 us e1 s1 r1 o1 => ?_⟩
  split at o1
  · split at o1
    · rename_i j c
      unfold rngOk at c
      rw [Bool.and_eq_true] at c
      obtain ⟨v, ws, rfl, h1, h2⟩ := r1.inv
      rw [h1.int', h2.inv0]
      refine ⟨j, rfl, of_decide_eq_true c.1, of_decide_eq_true c.2, o1 φ1 H1 _ Ext.refl s1 ?_⟩
      unfold rngI
      rw [Int.sub_zero]
      exact itz_R
    · exact o1.elim
  · exact o1.elim
theorem z_irange2 (hg : Gl X "range") (hm : X.mg "range" = none) (ha : PA X [a, b] (rA X.K Wx as)) (hs : starEach [a, b] X.env = [(false, eval a X.env), (false, eval b X.env)] := by rfl) (hs2 : starEach [b] X.env = [(false, eval b X.env)] := by rfl) : PI X tg (.Call (.Name "range" p) [a, b] [] pos) (rI X.K Wx (iRange2 as)) := by
  refine piW (pi_range2 hg hm ha hs hs2) fun σ H Q h => ?_
  obtain ⟨φ, ph, env, sr, rs, o⟩ := h
  refine ⟨φ, ph, env, sr, rs, OutG.bind o fun vs ph1 φ1 H1 us e1 s1 r1 o1 => ?_⟩
  split at o1
  · split at o1
    · rename_i i j c
      unfold rngOk at c
      simp only [Bool.and_eq_true, decide_eq_true_eq] at c
      obtain ⟨v, ws, rfl, h1, h2⟩ := r1.inv
      obtain ⟨v2, ws2, rfl, h3, h4⟩ := h2.inv
      rw [h1.int', h3.int', h4.inv0]
      exact ⟨i, j, rfl, ⟨c.1.1, c.1.2, c.2.1, c.2.2⟩, o1 φ1 H1 _ Ext.refl s1 itz_R⟩
    · exact o1.elim
  · exact o1.elim
theorem z_itext (he : PE X e (rE X.K Wx m)) : PI X tg e (rI X.K Wx (iText m)) := by
  refine piW (pi_str he) fun σ H Q h => ?_
  obtain ⟨φ, ph, env, sr, rs, o⟩ := h
  refine ⟨φ, ph, env, sr, rs, OutG.bind o fun v ph1 φ1 H1 u e1 s1 r1 o1 => ?_⟩
  split at o1
  · rw [r1.str']
    exact ⟨_, rfl, o1 φ1 H1 _ Ext.refl s1 itz_S⟩
  · exact o1.elim
end

/-! ### for, while -/
open Classical in
noncomputable def forZ (it : ItV) (g : DGt) (b : DS) : List PV → ZEnv → PH → SRes
  | [], env, ph => if it.chk ph then .nx env ph else .bad
  | p :: ps, env, ph => if it.chk ph then (match g p with
    | some l => (match b (setsE env l) ph with
      | .nx e ph1 => forZ it g b ps e ph1
      | .ct e ph1 => forZ it g b ps e ph1
      | .bk e ph1 => .nx e ph1
      | r => r)
    | none => .bad) else .bad
noncomputable def sFor (mi : DI) (g : DGt) (b : DS) : DS := fun env ph => (mi env ph).st env fun it ph1 => forZ it g b it.items env ph1
def whZ (c : DT) (b : DS) : Nat → ZEnv → PH → SRes
  | 0, _, _ => .bad
  | n + 1, env, ph => (c env ph).st env fun k ph1 => if k then (match b env ph1 with
    | .nx e ph2 => whZ c b n e ph2
    | .ct e ph2 => whZ c b n e ph2
    | .bk e ph2 => .nx e ph2
    | r => r) else .nx env ph1
def sWhile (n : Nat) (c : DT) (b : DS) : DS := whZ c b n
section
variable {X : Cx} {Wx : WX} {tg iter c : Expr} {body : List Stmt} {mi : DI} {g : DGt} {b : DS} {t : DT} {pos : Pos}
theorem z_for (hp : PassesOwn (model X.prog X.w) X.A X.env X.xe) (hc : X.calm = true) (hi : PI X tg iter (rI X.K Wx mi)) (hg : PG X tg (rGt X.K g)) (hb : PSs X body (rS X.K Wx b))
    (hs : ∀ x, foldedSetIterable iter X.env x = pure x := by intro _; rfl) : PS X (.For tg iter body [] pos) (rS X.K Wx (sFor mi g b)) := by
  refine psW (ps_for hp hc hi hg hb hs) fun D σ H h => ?_
  obtain ⟨φ, ph, env, sr, rs, o⟩ := h
  refine ⟨φ, ph, env, sr, rs, OutS.ofE rs o fun it ph1 φ1 H1 J e1 s1 z rs1 o1 => ?_⟩
  refine ⟨fun i m σ H => ∃ φ2 ph2 env2, m = it.items.length - i ∧ i ≤ it.items.length ∧ Ext φ1 H1 φ2 H ∧ SR X.K φ2 H ph2 ∧ RepS X.K φ2 H σ env2 ∧ OutS X.K Wx φ2 H D (forZ it g b (it.items.drop i) env2 ph2),
    ⟨_, φ1, ph1, env, rfl, Nat.zero_le _, Ext.refl, s1, rs1, o1⟩, ?_⟩
  rintro i m σ2 H2 ⟨φ2, ph2, env2, rfl, hi, e2, s2, rs2, o2⟩
  by_cases hlt : i < it.items.length
  · rw [List.drop_eq_getElem_cons hlt] at o2
    unfold forZ at o2
    split at o2
    · rename_i ck
      refine .inr ⟨z.go i φ2 H2 ph2 e2 s2 ck hlt, fun σ' H' => ∃ φ3 ph3 env3, Ext φ1 H1 φ3 H' ∧ SR X.K φ3 H' ph3 ∧ RepS X.K φ3 H' σ' env3 ∧ OutS X.K Wx φ3 H' D (forZ it g b (it.items.drop (i + 1)) env3 ph3), fun σ' H' hN => ?_, fun x H' hy => ?_⟩
      · obtain ⟨φ3, ph3, env3, e3, s3, rs3, o3⟩ := hN
        exact ⟨it.items.length - (i + 1), by omega, φ3, ph3, env3, rfl, hlt, e3, s3, rs3, o3⟩
      · obtain ⟨φ3, e3, s3, r3⟩ := z.yld i it.items[i] φ2 H2 ph2 x H' e2 s2 ck (List.getElem?_eq_getElem hlt) hy
        cases hgp : g it.items[i] with
        | none => rw [hgp] at o2; exact o2.elim
        | some l =>
          rw [hgp] at o2
          refine ⟨φ3, ph2, _, l, s3, r3, hgp, fun lv hk hr => ⟨φ3, ph2, setsE env2 l, s3, (rs2.mono e3).sets hk hr, ?_⟩⟩
          cases hb2 : b (setsE env2 l) ph2 with
          | nx e ph4 =>
            simp only [hb2] at o2
            exact fun φ4 H4 σ4 e4 s4 rs4 => ⟨φ4, ph4, e, (e2.trans e3).trans e4, s4, rs4, OutS.mono o2 (e3.trans e4)⟩
          | ct e ph4 =>
            simp only [hb2] at o2
            exact fun φ4 H4 σ4 e4 s4 rs4 => ⟨φ4, ph4, e, (e2.trans e3).trans e4, s4, rs4, OutS.mono o2 (e3.trans e4)⟩
          | bk e ph4 =>
            simp only [hb2] at o2
            exact OutS.mono (r := .nx e ph4) o2 e3
          | rt v ph4 =>
            simp only [hb2] at o2
            exact OutS.mono (r := .rt v ph4) o2 e3
          | err x1 e ph4 =>
            simp only [hb2] at o2
            exact OutS.mono (r := .err x1 e ph4) o2 e3
          | bad =>
            simp only [hb2] at o2
            exact o2
    · exact o2.elim
  · have hie : i = it.items.length := by omega
    subst hie
    rw [List.drop_length] at o2
    unfold forZ at o2
    split at o2
    · rename_i ck
      exact .inl ⟨z.stop φ2 H2 ph2 e2 s2 ck, o2 φ2 H2 σ2 Ext.refl s2 rs2⟩
    · exact o2.elim
theorem z_while (n : Nat) (hp : PassesOwn (model X.prog X.w) X.A X.env X.xe) (hc : PT X c (rT X.K Wx t)) (hb : PSs X body (rS X.K Wx b)) : PS X (.While c body [] pos) (rS X.K Wx (sWhile n t b)) := by
  refine psW (ps_while hp hc hb) fun D σ H h => ?_
  obtain ⟨φ, ph, env, sr, rs, o⟩ := h
  refine ⟨fun m σ H => ∃ φ ph env, SR X.K φ H ph ∧ RepS X.K φ H σ env ∧ OutS X.K Wx φ H D (whZ t b m env ph), ⟨n, φ, ph, env, sr, rs, o⟩, ?_⟩
  rintro m σ2 H2 ⟨φ2, ph2, env2, s2, rs2, o2⟩
  cases m with
  | zero => exact o2.elim
  | succ m =>
    refine ⟨φ2, ph2, env2, s2, rs2, OutS.ofE rs2 o2 fun k ph1 φ1 H1 u e1 s1 r1 rs1 o1 => ?_⟩
    subst r1
    cases u with
    | false => exact o1 φ1 H1 σ2 Ext.refl s1 rs1
    | true =>
      rw [if_pos rfl]
      refine ⟨fun σ' H' => ∃ φ ph env, SR X.K φ H' ph ∧ RepS X.K φ H' σ' env ∧ OutS X.K Wx φ H' D (whZ t b m env ph), fun σ' H' q => ⟨m, Nat.lt_succ_self m, q⟩, φ1, ph1, env2, s1, rs1, ?_⟩
      cases hb2 : b env2 ph1 with
      | nx e ph4 => simp only [hb2] at o1; exact fun φ4 H4 σ4 e4 s4 rs4 => ⟨φ4, ph4, e, s4, rs4, OutS.mono o1 e4⟩
      | ct e ph4 => simp only [hb2] at o1; exact fun φ4 H4 σ4 e4 s4 rs4 => ⟨φ4, ph4, e, s4, rs4, OutS.mono o1 e4⟩
      | bk e ph4 => simp only [hb2] at o1; exact o1
      | rt v ph4 => simp only [hb2] at o1; exact o1
      | err x1 e ph4 => simp only [hb2] at o1; exact o1
      | bad => simp only [hb2] at o1; exact o1
end

/-! ### list comprehensions -/
def wipeE (env : ZEnv) : List Nat → ZEnv
  | [] => env
  | v :: vs => (wipeE env vs).set v none
theorem RepS.wipe {K : PySem.W.Frag} {φ : Phi} {H : Hp} {σ : St} {env : ZEnv} (r : RepS K φ H σ env) : ∀ vs, RepS K φ H (wipe σ vs) (wipeE env vs)
  | [] => r
  | v :: vs => by
    have ih := r.wipe vs
    refine ⟨by show ((L2.wipe σ vs).set v none).length = ((wipeE env vs).set v none).length; rw [List.length_set, List.length_set, ih.len], fun i p e => ?_⟩
    have e' : ((wipeE env vs).set v none)[i]? = some (some p) := e
    show ∃ u, ((L2.wipe σ vs).set v none)[i]? = some (some u) ∧ _
    by_cases hv : v = i
    · subst hv
      by_cases hl : v < (wipeE env vs).length
      · rw [List.getElem?_set_self hl] at e'; cases e'
      · rw [List.getElem?_eq_none (by simpa using hl)] at e'; cases e'
    · rw [List.getElem?_set_ne hv] at e' ⊢
      exact ih.at_ i p e'
open Classical in
noncomputable def lcZ (it : ItV) (g : DGt) (t : DT) (e : DE) (w : ZEnv) : List PV → List PV → PH → Res PV
  | [], acc, ph => if it.chk ph then .ok (.lst acc) ph else .bad
  | p :: ps, acc, ph => if it.chk ph then (match g p with
    | some l => (match t (setsE w l) ph with
      | .ok true ph1 => (match e (setsE w l) ph1 with
        | .ok v ph2 => lcZ it g t e w ps (acc ++ [v]) ph2
        | _ => .bad)
      | .ok false ph1 => lcZ it g t e w ps acc ph1
      | _ => .bad)
    | none => .bad) else .bad
noncomputable def mLC (vs : List Nat) (mi : DI) (g : DGt) (t : DT) (e : DE) : DE := fun env ph => (mi env ph).bind fun it ph1 => if it.items.length < sizeLine then lcZ it g t e (wipeE env vs) it.items [] ph1 else .bad
def tYesZ : DT := fun _ ph => .ok true ph
abbrev WX0 : WX := fun _ _ _ _ => False
theorem lcZ_only {it : ItV} {g : DGt} {t : DT} {e : DE} {w : ZEnv} : ∀ {ps acc : List PV} {ph ph' : PH} {v : PV}, lcZ it g t e w ps acc ph = .ok v ph' → ∃ xs, v = .lst xs
  | [], acc, ph, ph', v, h => by
    unfold lcZ at h
    split at h
    · cases h; exact ⟨_, rfl⟩
    · cases h
  | p :: ps, acc, ph, ph', v, h => by
    unfold lcZ at h
    split at h
    · split at h
      · split at h
        · split at h
          · exact lcZ_only h
          · cases h
        · exact lcZ_only h
        · cases h
      · cases h
    · cases h
theorem onlyL_lc {vs : List Nat} {mi : DI} {g : DGt} {t : DT} {e : DE} : OnlyL (mLC vs mi g t e) := by
  intro env ph v ph' h
  unfold mLC Res.bind at h
  split at h
  · dsimp only at h
    split at h
    · exact lcZ_only h
    · cases h
  · cases h
  · cases h
/-- a block's context -/
abbrev Cx.blkZ (X : Cx) (scope : Scope) (s : Shared) (H : Hp) (C : Addr) (cl : List (Str × Addr)) (fp : List Addr) : Cx := X.blk s H scope (compEnvC scope cl C X.env) fp
structure PTZ (X : Cx) (ifs : List Expr) (t : DT) : Prop where
  h : PTs X ifs (rT X.K WX0 t)
theorem z_ifs0 {X : Cx} : PTs X [] (rT X.K WX0 tYesZ) := by
  refine ⟨fun pins s σ H Q I h => pts_nil.run pins s σ H Q I ?_⟩
  obtain ⟨φ, ph, env, sr, rs, o⟩ := h
  exact o φ H true Ext.refl sr rfl
theorem z_ifs1 {X : Cx} {c : Expr} {t : DT} (h : PT X c (rT X.K WX0 t)) : PTs X [c] (rT X.K WX0 t) := pts_one h
/-- the loop of a comprehension, from a state on -/
theorem lc_loop {K : PySem.W.Frag} {Wx : WX} {vs : List Nat} {g : DGt} {t : DT} {e : DE} {σ : St} {H0 H1 : Hp} {φ0 φ1 : Phi} {ph1 : PH} {env : ZEnv} {it : ItV} {J : It} {Q : VK} (hsl : InSl vs g) (e0 : Ext φ0 H0 φ1 H1) (s1 : SR K φ1 H1 ph1) (rs1 : RepS K φ1 H1 σ env)
    (z : ItZ K φ1 H1 it J) (hz : it.items.length < sizeLine) (o : OutF K Wx φ0 H0 σ Q (lcZ it g t e (wipeE env vs) it.items [] ph1)) (D : Addr) (hD : H1 D = none) :
    ∃ W : Nat → Nat → Hp → Prop, (∃ m, W 0 m (upd H1 D (.lst []))) ∧ ∀ i m H, W i m H →
      (J.stop i H ∧ Q (.ref D) H) ∨ (J.go i H ∧ ∃ Nx : Hp → Prop, (∀ H', Nx H' → ∃ m', m' < m ∧ W (i + 1) m' H') ∧ ∀ x H', J.yld i H x H' → rGt K g x (wipe σ vs) H' fun σ2 H2 => wipe σ2 vs = wipe σ vs ∧ rT K WX0 t σ2 H2 fun b H3 =>
        if b = true then rE K WX0 e σ2 H3 fun y H4 => ∃ acc, H4 D = some (.lst acc) ∧ acc.length < sizeLine ∧ Nx (upd H4 D (.lst (acc ++ [y]))) else Nx H3) := by
  obtain ⟨sD, eD⟩ := s1.push (o := .lst []) hD
  -- what holds between two turns
  refine ⟨fun i m H => ∃ φ2 ph2 acc vacc, m = it.items.length - i ∧ i ≤ it.items.length ∧ Ext φ1 H1 φ2 H ∧ SR K φ2 H ph2 ∧ D ∈ φ2.av ∧ D ∉ φ2.loc ∧ H D = some (.lst vacc) ∧ RepL K φ2 H acc vacc ∧ acc.length ≤ i ∧ OutF K Wx φ0 H0 σ Q (lcZ it g t e (wipeE env vs) (it.items.drop i) acc ph2),
    ⟨_, φ1.more D, ph1, [], [], rfl, Nat.zero_le _, eD, sD, List.mem_cons_self, s1.fresh hD, upd_same, .nil, Nat.le_refl _, o⟩, ?_⟩
  rintro i m H ⟨φ2, ph2, acc, vacc, rfl, hi, e2, s2, da, dl, hv, ra, la, o2⟩
  by_cases hlt : i < it.items.length
  · rw [List.drop_eq_getElem_cons hlt] at o2
    unfold lcZ at o2
    split at o2
    · rename_i ck
      refine .inr ⟨z.go i φ2 H ph2 e2 s2 ck hlt, fun H' => ∃ φ3 ph3 acc vacc, Ext φ1 H1 φ3 H' ∧ SR K φ3 H' ph3 ∧ D ∈ φ3.av ∧ D ∉ φ3.loc ∧ H' D = some (.lst vacc) ∧ RepL K φ3 H' acc vacc ∧ acc.length ≤ i + 1 ∧ OutF K Wx φ0 H0 σ Q (lcZ it g t e (wipeE env vs) (it.items.drop (i + 1)) acc ph3), fun H' hN => ?_, fun x H' hy => ?_⟩
      · obtain ⟨φ3, ph3, acc, vacc, h1, h2, h3, h4, h5, h6, h7, h8⟩ := hN
        exact ⟨it.items.length - (i + 1), by omega, φ3, ph3, acc, vacc, rfl, hlt, h1, h2, h3, h4, h5, h6, h7, h8⟩
      · obtain ⟨φ3, e3, s3, r3⟩ := z.yld i it.items[i] φ2 H ph2 x H' e2 s2 ck (List.getElem?_eq_getElem hlt) hy
        cases hgp : g it.items[i] with
        | none => rw [hgp] at o2; exact o2.elim
        | some l =>
          rw [hgp] at o2
          refine ⟨φ3, ph2, _, l, s3, r3, hgp, fun lv hk hr => ⟨(wipe_sets fun j hj => hsl _ _ hgp j (by rw [← hk]; exact hj)).trans wipe_wipe, ?_⟩⟩
          have rs3 : RepS K φ3 H' (setsS (wipe σ vs) lv) (setsE (wipeE env vs) l) := ((rs1.mono (e2.trans e3)).wipe vs).sets hk hr
          -- D keeps
          have keep : ∀ {φ4 : Phi} {H4 : Hp}, Ext φ2 H φ4 H4 → D ∈ φ4.av ∧ D ∉ φ4.loc ∧ H4 D = some (.lst vacc) ∧ RepL K φ4 H4 acc vacc := fun {φ4 H4} e4 => by
            refine ⟨e4.mo D da, ?_, e4.kp D _ hv dl, ra.mono e4⟩
            obtain ⟨ψ, q1, q2⟩ := e4.ext
            rw [q1]
            intro hm
            rcases List.mem_append.mp hm with h1 | h1
            · exact dl h1
            · rw [q2 D h1] at hv; cases hv
          refine ⟨φ3, ph2, _, s3, rs3, ?_⟩
          cases ht : t (setsE (wipeE env vs) l) ph2 with
          | bad => simp only [ht] at o2; exact o2.elim
          | err x1 ph4 => simp only [ht] at o2; exact o2.elim
          | ok k ph4 =>
            intro φ4 H4 u e4 s4 r4
            subst r4
            cases u with
            | false =>
              simp only [ht] at o2
              obtain ⟨k1, k2, k3, k4⟩ := keep (e3.trans e4)
              exact ⟨φ4, ph4, acc, vacc, (e2.trans e3).trans e4, s4, k1, k2, k3, k4, by omega, o2⟩
            | true =>
              simp only [ht] at o2
              rw [if_pos rfl]
              refine ⟨φ4, ph4, _, s4, rs3.mono e4, ?_⟩
              cases he : e (setsE (wipeE env vs) l) ph4 with
              | bad => simp only [he] at o2; exact o2.elim
              | err x1 ph5 => simp only [he] at o2; exact o2.elim
              | ok v ph5 =>
                simp only [he] at o2
                intro φ5 H5 y e5 s5 r5
                obtain ⟨k1, k2, k3, k4⟩ := keep ((e3.trans e4).trans e5)
                refine ⟨vacc, k3, by rw [k4.length]; omega, ?_⟩
                -- the list grows
                have hb : ∀ b, b ≠ D → upd H5 D (.lst (vacc ++ [y])) b = H5 b := fun b hb => upd_ne hb
                exact ⟨φ5, ph5, acc ++ [v], vacc ++ [y], (((e2.trans e3).trans e4).trans e5).store hD, s5.store k1 k2, k1, k2, upd_same, (k4.append (.cons r5 .nil)).store k1 hb, by rw [List.length_append]; show acc.length + 1 ≤ _; omega, o2⟩
    · exact o2.elim
  · have hie : i = it.items.length := by omega
    subst hie
    rw [List.drop_length] at o2
    unfold lcZ at o2
    split at o2
    · rename_i ck
      refine .inl ⟨z.stop φ2 H ph2 e2 s2 ck, o2 φ2 H D (e0.trans e2) s2 ⟨e0.free hD, da, dl, vacc, hv, ra⟩⟩
    · exact o2.elim
section
variable {X : Cx} {Wx : WX} {elt tg iter : Expr} {ifs : List Expr} {scope : Scope} {own : List (Str × Nat)} {pos : Pos} {mi : DI} {g : DGt} {t : DT} {e : DE}
/-- [elt for tg in iter if ..], fresh -/
theorem fr_lc (hc : X.calm = true) (hN : X.N.Nodup) (hi : PI X tg iter (rI X.K Wx mi)) (ok : BlkOk X.N X.env.scope scope own) (hsl : InSl (own.map (·.2)) g)
    (hg : ∀ (s : Shared) (H : Hp) (C : Addr) (cl : List (Str × Addr)) (fp : List Addr), PG (X.blk s H scope (compEnvC scope cl C X.env) fp) tg (rGt X.K g)) (ht : ∀ (s : Shared) (H : Hp) (C : Addr) (cl : List (Str × Addr)) (fp : List Addr), PTs (X.blk s H scope (compEnvC scope cl C X.env) fp) ifs (rT X.K WX0 t))
    (he : ∀ (s : Shared) (H : Hp) (C : Addr) (cl : List (Str × Addr)) (fp : List Addr), PE (X.blk s H scope (compEnvC scope cl C X.env) fp) elt (rE X.K WX0 e)) (hs : ∀ x, foldedSetIterable iter X.env x = pure x := by intro _; rfl) :
    PE X (.ListComp elt [⟨tg, iter, ifs, 0⟩] scope pos) (rF X.K Wx (mLC (own.map (·.2)) mi g t e)) := by
  refine peW (pe_lc hc hN hi ok hg ht he hs) fun σ H Q h => ?_
  obtain ⟨φ, ph, env, sr, rs, o⟩ := h
  refine ⟨φ, ph, env, sr, rs, ?_⟩
  unfold mLC at o
  cases q : mi env ph with
  | bad => rw [q] at o; exact o.elim
  | err x ph1 => rw [q] at o; exact o
  | ok it ph1 =>
    rw [q] at o
    simp only [Res.bind] at o
    intro φ1 H1 J e1 s1 z D hD
    split at o
    · rename_i hz
      exact lc_loop hsl e1 s1 (rs.mono e1) z hz o D hD
    · exact o.elim
/-- name = [..] on one line; L: the list is located -/
theorem lc_set {i : Nat} {y : Str} {py : Pos} {spos : Pos} (hc : X.calm = true) (hN : X.N.Nodup) (hy : X.N[i]? = some y) (hyl : X.env.scope.names.lookup y = some .local)
    (hsw : swapsWith (.ListComp elt [⟨tg, iter, ifs, 0⟩] scope pos) (some (.Name y py)) spos.line X.env = pure true) (hi : PI X tg iter (rI X.K Wx mi)) (ok : BlkOk X.N X.env.scope scope own) (hsl : InSl (own.map (·.2)) g)
    (hg : ∀ (s : Shared) (H : Hp) (C : Addr) (cl : List (Str × Addr)) (fp : List Addr), PG (X.blk s H scope (compEnvC scope cl C X.env) fp) tg (rGt X.K g)) (ht : ∀ (s : Shared) (H : Hp) (C : Addr) (cl : List (Str × Addr)) (fp : List Addr), PTs (X.blk s H scope (compEnvC scope cl C X.env) fp) ifs (rT X.K WX0 t))
    (he : ∀ (s : Shared) (H : Hp) (C : Addr) (cl : List (Str × Addr)) (fp : List Addr), PE (X.blk s H scope (compEnvC scope cl C X.env) fp) elt (rE X.K WX0 e)) (hs : ∀ x, foldedSetIterable iter X.env x = pure x := by intro _; rfl) :
    PS X (.Assign [.Name y py] (.ListComp elt [⟨tg, iter, ifs, 0⟩] scope pos) spos) (tAsg (rF X.K Wx (mLC (own.map (·.2)) mi g t e)) (gName i)) := by
  refine psW (ps_setLc hc hN hy hyl hsw hi ok hg ht he hs) fun D σ H h => ?_
  obtain ⟨φ, ph, env, sr, rs, o⟩ := h
  refine ⟨φ, ph, env, sr, rs, ?_⟩
  unfold mLC at o
  cases q : mi env ph with
  | bad => rw [q] at o; exact o.elim
  | err x ph1 => rw [q] at o; exact o
  | ok it ph1 =>
    rw [q] at o
    simp only [Res.bind] at o
    intro φ1 H1 J e1 s1 z L hL
    split at o
    · rename_i hz
      exact lc_loop hsl e1 s1 (rs.mono e1) z hz o L hL
    · exact o.elim
theorem z_setF {i : Nat} {st : Stmt} {m : DE} (ol : OnlyL m) (h : PS X st (tAsg (rF X.K Wx m) (gName i))) : PS X st (rS X.K Wx (sSet i m)) := by
  refine psW h fun D σ H h => ?_
  obtain ⟨φ, ph, env, sr, rs, o⟩ := h
  refine ⟨φ, ph, env, sr, rs, OutS.ofF rs (ol env ph) o fun xs ph1 φ1 H1 a e1 s1 f1 o1 => ?_⟩
  obtain ⟨φ2, e2, s2, r2⟩ := f1.rep sr e1 s1
  exact o1 φ2 H1 _ e2 s2 ((rs.mono e2).set r2)
theorem z_setFL {i : Nat} {st : Stmt} {m : DE} (ol : OnlyL m) (h : PS X st (tAsg (rF X.K Wx m) (gName i))) : PS X st (rS X.K Wx (sSetL i m)) := by
  refine psW h fun D σ H h => ?_
  obtain ⟨φ, ph, env, sr, rs, o⟩ := h
  refine ⟨φ, ph, env, sr, rs, OutS.ofF rs (ol env ph) o fun xs ph1 φ1 H1 a e1 s1 f1 o1 => ?_⟩
  obtain ⟨φ2, e2, s2, r2⟩ := f1.locate e1 s1
  exact o1 φ2 H1 _ e2 s2 ((rs.mono e2).set r2)
end
end OfP
/-! Layer Z, part 5: defs and their calls. -/
namespace OfP
open PySem PySem.Spec L2
open PyProof.Rows hiding St

/-! ### what is left behind a call -/
mutual
/-- names no located object from n on -/
def PV.cl (n : Nat) : PV → Bool
  | .tup xs => PV.clL n xs
  | .lst xs => PV.clL n xs
  | .scr xs => PV.clL n xs
  | .dct _ xs => PV.clL n xs
  | .loc k => decide (k < n)
  | _ => true
def PV.clL (n : Nat) : List PV → Bool
  | [] => true
  | x :: xs => PV.cl n x && PV.clL n xs
end
def PO.cl (n : Nat) : PO → Bool
  | .lst xs => PV.clL n xs
  | .dct _ xs => PV.clL n xs
  | .ins _ fs => PV.clL n (fs.map (·.2))
def PX.cl (n : Nat) (x : PX) : Bool := match x.arg with
  | none => true
  | some q => q.2.cl n
/-- a located list of the call's own is a plain one for the caller -/
def unl (n : Nat) (ph : PH) (v : PV) : PV := match v with
  | .loc k => if n ≤ k then (match ph[k]? with
    | some (.lst xs) => .lst xs
    | some (.dct ks xs) => .dct ks xs
    | _ => v) else v
  | v => v
open Classical in
/-- the call's own located objects are let go -/
noncomputable def gc (ph : PH) (v : PV) (ph' : PH) : Res PV :=
  if ph'.length ≤ ph.length then .ok v ph' else
  if (unl ph.length ph' v).cl ph.length = true ∧ ∀ i o, i < ph.length → ph'[i]? = some o → ph[i]? = some o ∨ o.cl ph.length = true then .ok (unl ph.length ph' v) (ph'.take ph.length) else .ok v ph'
open Classical in
noncomputable def gcX (ph : PH) (x : PX) (ph' : PH) : Res PV :=
  if ph'.length ≤ ph.length then .err x ph' else
  if x.cl ph.length = true ∧ ∀ i o, i < ph.length → ph'[i]? = some o → ph[i]? = some o ∨ o.cl ph.length = true then .err x (ph'.take ph.length) else .err x ph'
section
variable {K : PySem.W.Frag} {φ φ' : Phi} {H H' : Hp} {ph ph' : PH}
mutual
theorem Rep.isCl : ∀ (p : PV) (v : V), Rep K φ H p v → p.cl φ.loc.length = true
  | .non, _, _ => rfl
  | .bl _, _, _ => rfl
  | .int _, _, _ => rfl
  | .str _, _, _ => rfl
  | .ty _, _, _ => rfl
  | .fn _, _, _ => rfl
  | .tup xs, v, h => by
    unfold Rep at h
    obtain ⟨a, vs, ev, hd, hl⟩ := h
    exact RepL.isCl xs vs hl
  | .lst xs, v, h => by
    unfold Rep at h
    obtain ⟨a, vs, ev, hn, hr, hl⟩ := h
    exact RepL.isCl xs vs hl
  | .scr xs, v, h => by
    unfold Rep at h
    obtain ⟨a, vs, ev, hd, hl⟩ := h
    exact RepL.isCl xs vs hl
  | .dct ks xs, v, h => by
    unfold Rep at h
    obtain ⟨a, kvs, ev, hn, hr, hk, hl⟩ := h
    exact RepL.isCl xs _ hl
  | .loc n, v, h => by
    obtain ⟨a, h1, _⟩ := h.loc'
    unfold PV.cl
    exact decide_eq_true (List.getElem?_eq_some_iff.mp h1).1
theorem RepL.isCl : ∀ (ps : List PV) (vs : List V), RepL K φ H ps vs → PV.clL φ.loc.length ps = true
  | [], _, _ => rfl
  | p :: ps, vs, h => by
    obtain ⟨v, ws, rfl, h1, h2⟩ := h.inv
    unfold PV.clL
    rw [Rep.isCl p v h1, RepL.isCl ps ws h2]
    rfl
end
theorem RepO.isCl {a : Addr} {o : PO} (h : RepO K φ H a o) : o.cl φ.loc.length = true := by
  cases o with
  | lst xs => obtain ⟨vs, q, l⟩ := h; exact RepL.isCl _ _ l
  | dct ks xs => obtain ⟨kvs, q, hk, l⟩ := h; exact RepL.isCl _ _ l
  | ins c fs => obtain ⟨dx, ws, q, hk, l⟩ := h; exact RepL.isCl _ _ l
mutual
/-- fewer located objects -/
theorem Rep.cut {ψ : List Addr} (e : φ'.loc = φ.loc ++ ψ) (w : φ'.av = φ.av) : ∀ (p : PV) (v : V), p.cl φ.loc.length = true → Rep K φ' H p v → Rep K φ H p v
  | .non, _, _, h => h
  | .bl _, _, _, h => h
  | .int _, _, _, h => h
  | .str _, _, _, h => h
  | .ty _, _, _, h => h
  | .fn _, _, _, h => h
  | .tup xs, v, c, h => by
    unfold Rep at h ⊢
    obtain ⟨a, vs, ev, hd, hl⟩ := h
    exact ⟨a, vs, ev, by rw [← w]; exact hd, RepL.cut e w xs vs c hl⟩
  | .lst xs, v, c, h => by
    unfold Rep at h ⊢
    obtain ⟨a, vs, ev, hn, hr, hl⟩ := h
    exact ⟨a, vs, ev, by rw [← w]; exact hn, hr, RepL.cut e w xs vs c hl⟩
  | .scr xs, v, c, h => by
    unfold Rep at h ⊢
    obtain ⟨a, vs, ev, hd, hl⟩ := h
    exact ⟨a, vs, ev, by rw [← w]; exact hd, RepL.cut e w xs vs c hl⟩
  | .dct ks xs, v, c, h => by
    unfold Rep at h ⊢
    obtain ⟨a, kvs, ev, hn, hr, hk, hl⟩ := h
    exact ⟨a, kvs, ev, by rw [← w]; exact hn, hr, hk, RepL.cut e w xs _ c hl⟩
  | .loc n, v, c, h => by
    unfold Rep at h ⊢
    unfold PV.cl at c
    obtain ⟨b, hb, ev⟩ := h
    rw [e, List.getElem?_append_left (of_decide_eq_true c)] at hb
    exact ⟨b, hb, ev⟩
theorem RepL.cut {ψ : List Addr} (e : φ'.loc = φ.loc ++ ψ) (w : φ'.av = φ.av) : ∀ (ps : List PV) (vs : List V), PV.clL φ.loc.length ps = true → RepL K φ' H ps vs → RepL K φ H ps vs
  | [], _, _, h => h
  | p :: ps, vs, c, h => by
    unfold RepL at h ⊢
    unfold PV.clL at c
    rw [Bool.and_eq_true] at c
    obtain ⟨v, ws, ev, h1, h2⟩ := h
    exact ⟨v, ws, ev, Rep.cut e w p v c.1 h1, RepL.cut e w ps ws c.2 h2⟩
end
theorem RepO.cut {ψ : List Addr} (e : φ'.loc = φ.loc ++ ψ) (w : φ'.av = φ.av) {a : Addr} {o : PO} (c : o.cl φ.loc.length = true) (h : RepO K φ' H a o) : RepO K φ H a o := by
  cases o with
  | lst xs => obtain ⟨vs, q, l⟩ := h; exact ⟨vs, q, RepL.cut e w _ _ c l⟩
  | dct ks xs => obtain ⟨kvs, q, hk, l⟩ := h; exact ⟨kvs, q, hk, RepL.cut e w _ _ c l⟩
  | ins x fs => obtain ⟨dx, ws, q, hk, l⟩ := h; exact ⟨dx, ws, q, hk, RepL.cut e w _ _ c l⟩
/-- the state with the old located objects alone -/
theorem SR.back (s : SR K φ H ph) (e : Ext φ H φ' H') (s' : SR K φ' H' ph') (c : ∀ i o, i < ph.length → ph'[i]? = some o → ph[i]? = some o ∨ o.cl ph.length = true) :
    ∃ φ2 ψ, φ'.loc = φ.loc ++ ψ ∧ Ext φ H φ2 H' ∧ SR K φ2 H' (ph'.take ph.length) ∧ (∀ p v, p.cl ph.length = true → Rep K φ' H' p v → Rep K φ2 H' p v) ∧ (∀ ps vs, PV.clL ph.length ps = true → RepL K φ' H' ps vs → RepL K φ2 H' ps vs) ∧ (∀ a ∈ ψ, a ∉ φ2.av) ∧ ∀ a ∈ φ2.av, a ∈ φ'.av := by
  obtain ⟨ψ, e1, n⟩ := e.ext
  have hlen : ph'.length = ph.length + ψ.length := by rw [← s'.len, ← s.len, e1, List.length_append]
  have hout : ∀ a ∈ φ.av, a ∉ ψ := fun a h z => by
    obtain ⟨o, q⟩ := s.tr a h
    rw [n a z] at q; cases q
  have hsub1 : ∀ a ∈ φ.loc, a ∈ φ'.av := fun a h => φ'.sub a (by rw [e1]; exact List.mem_append_left _ h)
  have hsub : ∀ a ∈ φ.loc, a ∈ φ'.av.filter (fun b => decide (b ∉ ψ)) := fun a h => List.mem_filter.mpr ⟨hsub1 a h, decide_eq_true (hout a (φ.sub a h))⟩
  have mem : ∀ a, a ∈ φ'.av.filter (fun b => decide (b ∉ ψ)) ↔ a ∈ φ'.av ∧ a ∉ ψ := fun a => by rw [List.mem_filter]; simp
  have cutP : ∀ p v, p.cl ph.length = true → Rep K φ' H' p v → Rep K ⟨φ.loc, _, hsub⟩ H' p v := fun p v c r => by
    have r1 : Rep K ⟨φ.loc, φ'.av, hsub1⟩ H' p v := Rep.cut (φ := ⟨φ.loc, φ'.av, hsub1⟩) (φ' := φ') e1 rfl p v (by show p.cl φ.loc.length = true; rw [s.len]; exact c) r
    exact Rep.weak (φ := ⟨φ.loc, φ'.av, hsub1⟩) (φ' := ⟨φ.loc, _, hsub⟩) rfl (fun a h => ((mem a).mp h).1) p v r1
  have cutL : ∀ ps vs, PV.clL ph.length ps = true → RepL K φ' H' ps vs → RepL K ⟨φ.loc, _, hsub⟩ H' ps vs := fun p v c r => by
    have r1 : RepL K ⟨φ.loc, φ'.av, hsub1⟩ H' p v := RepL.cut (φ := ⟨φ.loc, φ'.av, hsub1⟩) (φ' := φ') e1 rfl p v (by show PV.clL φ.loc.length p = true; rw [s.len]; exact c) r
    exact RepL.weak (φ := ⟨φ.loc, φ'.av, hsub1⟩) (φ' := ⟨φ.loc, _, hsub⟩) rfl (fun a h => ((mem a).mp h).1) p v r1
  refine ⟨⟨φ.loc, _, hsub⟩, ψ, e1, ⟨⟨[], (List.append_nil _).symm, fun _ h => absurd h List.not_mem_nil⟩, fun a h => e.av a ((mem a).mp h).1, fun a h => (mem a).mpr ⟨e.mo a h, hout a h⟩, e.kp, e.dom⟩, ⟨?_, s.nd, fun a h => s'.tr a ((mem a).mp h).1, fun i a o h1 h2 => ?_⟩, cutP, cutL, fun a h z => ((mem a).mp z).2 h, fun a h => ((mem a).mp h).1⟩
  · show φ.loc.length = _
    rw [List.length_take, s.len]
    omega
  · have h1 : φ.loc[i]? = some a := h1
    have hi : i < φ.loc.length := (List.getElem?_eq_some_iff.mp h1).1
    have hi2 : i < ph.length := by rw [← s.len]; exact hi
    rw [List.getElem?_take_of_lt hi2] at h2
    have r := s'.ob i a o (by rw [e1, List.getElem?_append_left hi]; exact h1) h2
    have hcl : o.cl ph.length = true := by
      rcases c i o hi2 h2 with q | q
      · rw [← s.len]; exact (s.ob i a o h1 q).isCl
      · exact q
    cases o with
    | lst xs => obtain ⟨vs, q, l⟩ := r; exact ⟨vs, q, cutL _ _ hcl l⟩
    | dct ks xs => obtain ⟨kvs, q, hk, l⟩ := r; exact ⟨kvs, q, hk, cutL _ _ hcl l⟩
    | ins x fs => obtain ⟨dx, ws, q, hk, l⟩ := r; exact ⟨dx, ws, q, hk, cutL _ _ hcl l⟩
theorem gc_ok {Wx : WX} {σ : St} {Q : VK} (s : SR K φ H ph) {v : PV} (o : OutG K (Rep K) Wx φ H σ Q (gc ph v ph')) {u : V} (e : Ext φ H φ' H') (s' : SR K φ' H' ph') (r : Rep K φ' H' v u) : Q u H' := by
  unfold gc at o
  split at o
  · exact o φ' H' u e s' r
  · split at o
    · rename_i hn hc
      obtain ⟨φ2, ψ, e1, e2, s2, cutP, cutL, hψ, hav⟩ := s.back e s' hc.2
      refine o φ2 H' u e2 s2 ?_
      cases v with
      | loc k =>
        have hcl := hc.1
        unfold unl at hcl ⊢
        by_cases hk : ph.length ≤ k
        · simp only [if_pos hk] at hcl ⊢
          obtain ⟨a, ha, rfl⟩ := r.loc'
          have ain : a ∈ ψ := by
            rw [e1, List.getElem?_append_right (by rw [s.len]; exact hk)] at ha
            exact List.mem_of_getElem? ha
          cases q : ph'[k]? with
          | none => rw [q] at hcl; exact cutP _ _ hcl r
          | some ob =>
            rw [q] at hcl
            cases ob with
            | ins c fs => exact cutP _ _ hcl r
            | lst xs =>
              obtain ⟨vs, q1, l⟩ := s'.ob k a _ ha q
              show Rep K φ2 H' (.lst xs) (.ref a)
              unfold Rep
              exact ⟨a, vs, rfl, hψ a ain, q1, cutL _ _ hcl l⟩
            | dct ks xs =>
              obtain ⟨kvs, q1, hk, l⟩ := s'.ob k a _ ha q
              show Rep K φ2 H' (.dct ks xs) (.ref a)
              unfold Rep
              exact ⟨a, kvs, rfl, hψ a ain, .inl q1, hk, cutL _ _ hcl l⟩
        · simp only [if_neg hk] at hcl ⊢
          exact cutP _ _ hcl r
      | _ => exact cutP _ _ hc.1 r
    · exact o φ' H' u e s' r
theorem gcX_ok {Wx : WX} {σ : St} {Q : VK} (s : SR K φ H ph) {x : PX} (o : OutG K (Rep K) Wx φ H σ Q (gcX ph x ph')) {c : Value} {d : Option Addr} (e : Ext φ H φ' H') (s' : SR K φ' H' ph') (r : RepX K φ' H' x c d) : Wx c d σ H' := by
  unfold gcX at o
  split at o
  · exact o φ' H' c d e s' r
  · split at o
    · rename_i hn hc
      obtain ⟨φ2, ψ, e1, e2, s2, cutP, cutL, hψ, hav⟩ := s.back e s' hc.2
      refine o φ2 H' c d e2 s2 ?_
      have hcl := hc.1
      obtain ⟨xc, xa⟩ := x
      obtain ⟨r1, r2⟩ := r
      refine ⟨r1, ?_⟩
      cases xa with
      | none => exact r2
      | some fp =>
        obtain ⟨f, p⟩ := fp
        obtain ⟨a, v, h1, h2, h3, h4⟩ := r2
        exact ⟨a, v, h1, fun z => h2 (hav a z), h3, cutP _ _ hcl h4⟩
    · exact o φ' H' c d e s' r
end

/-! ### defs -/
noncomputable def finZ (ph : PH) : SRes → Res PV
  | .nx _ ph' => gc ph .non ph'
  | .rt v ph' => gc ph v ph'
  | .err x _ ph' => gcX ph x ph'
  | _ => .bad
def finR : SRes → Res PV
  | .nx _ ph' => .ok .non ph'
  | .rt v ph' => .ok v ph'
  | .err x _ ph' => .err x ph'
  | _ => .bad
def envZ (n : Nat) (args : List PV) : ZEnv := args.map some ++ List.replicate (n - args.length) none
/-- a def of n names; R: its located objects go to the caller -/
noncomputable def dFn (n : Nat) (b : DS) : DF := fun args ph => finZ ph (b (envZ n args) ph)
def dFnR (n : Nat) (b : DS) : DF := fun args ph => finR (b (envZ n args) ph)
def spZ (K : PySem.W.Frag) (n : Nat) (m : DF) : Sp := fun vs H Q E => vs.length = n ∧ ∃ φ ph args, SR K φ H ph ∧ RepL K φ H args vs ∧ OutG K (Rep K) (fun c d _ H' => E c d H') φ H [] Q (m args ph)
theorem repS_start {K : PySem.W.Frag} {φ : Phi} {H : Hp} {args : List PV} {vs : List V} (N : List Str) (r : RepL K φ H args vs) : RepS K φ H (L2.start N vs) (envZ N.length args) := by
  unfold L2.start envZ
  refine ⟨by simp [r.length], fun i p e => ?_⟩
  by_cases hi : i < args.length
  · rw [List.getElem?_append_left (by simpa using hi), List.getElem?_map] at e
    cases q : args[i]? with
    | none => rw [q] at e; cases e
    | some x =>
      rw [q] at e
      cases e
      obtain ⟨v, h1, h2⟩ := r.get q
      exact ⟨v, by rw [List.getElem?_append_left (by simpa [r.length] using hi), List.getElem?_map, h1]; rfl, h2⟩
  · rw [List.getElem?_append_right (by simpa using hi), List.getElem?_replicate] at e
    split at e <;> cases e
section
variable {P : Program} {w : World} {K : PySem.W.Frag} {mg : Str → Option Value} {base : Heap} {x qual : Str} {params : Arguments} {body : List Stmt} {scope : Scope} {dvs : List V} {kws : List (Str × V)} {f : Addr} {fd : FuncData} {N ps : List Str} {k : Nat} {b : DS}
abbrev BodyZ (P : Program) (w : World) (K : PySem.W.Frag) (mg : Str → Option Value) (base : Heap) (N : List Str) (qual : Str) (body : List Stmt) (scope : Scope) (f : Addr) (k : Nat) (b : DS) : Prop :=
  ∀ (cdv : Value) (A : Around) (outer : List Env) (s : Shared) (H : Hp) (E : XK), Room k (A.deeper (envOfC qual scope s.heap.objs.size f cdv)) →
    PSs (cxOf (L2.CX P w) P w K mg base N qual scope f cdv A outer s H E) body (rS K (fun c d _ H' => E c d H') b)
theorem z_fn (F : FunD K x qual params body scope dvs kws f fd) (S : FnScope N ps scope) (hb : BodyZ P w K mg base N qual body scope f k b) : FnOk P w K mg base (L2.CX P w) (k + 1) f fd ps (spZ K ps.length (dFn N.length b)) := by
  refine F.ok S (fun vs H Q E h => h.1) fun cdv A outer s H vs Q E hr hsp => ⟨_, hb cdv A outer s H E hr, ?_⟩
  obtain ⟨hl, φ, ph, args, sr, rl, o⟩ := hsp
  refine ⟨φ, ph, envZ N.length args, sr, repS_start N rl, ?_⟩
  unfold dFn finZ at o
  cases q : b (envZ N.length args) ph with
  | nx e ph' => rw [q] at o; exact fun φ' H' σ' e s' r => gc_ok sr o e s' rep_non
  | rt v ph' => rw [q] at o; exact fun φ' H' u e s' r => gc_ok sr o e s' r
  | err x1 e ph' => rw [q] at o; exact fun φ' H' σ' c d e s' r rx => gcX_ok (Wx := fun c d _ H' => E c d H') sr o e s' rx
  | bk e ph' => rw [q] at o; exact o.elim
  | ct e ph' => rw [q] at o; exact o.elim
  | bad => rw [q] at o; exact o.elim
theorem z_fnR (F : FunD K x qual params body scope dvs kws f fd) (S : FnScope N ps scope) (hb : BodyZ P w K mg base N qual body scope f k b) : FnOk P w K mg base (L2.CX P w) (k + 1) f fd ps (spZ K ps.length (dFnR N.length b)) := by
  refine F.ok S (fun vs H Q E h => h.1) fun cdv A outer s H vs Q E hr hsp => ⟨_, hb cdv A outer s H E hr, ?_⟩
  obtain ⟨hl, φ, ph, args, sr, rl, o⟩ := hsp
  refine ⟨φ, ph, envZ N.length args, sr, repS_start N rl, ?_⟩
  unfold dFnR finR at o
  cases q : b (envZ N.length args) ph with
  | nx e ph' => rw [q] at o; exact fun φ' H' σ' e s' r => o φ' H' .non e s' rep_non
  | rt v ph' => rw [q] at o; exact o
  | err x1 e ph' => rw [q] at o; exact fun φ' H' σ' c d e s' r rx => o φ' H' c d e s' rx
  | bk e ph' => rw [q] at o; exact o.elim
  | ct e ph' => rw [q] at o; exact o.elim
  | bad => rw [q] at o; exact o.elim
end

/-! ### calls of defs -/
/-- x(..) with positional values, the defaults dv behind them; N parameters -/
structure Cal (P : Program) (w : World) (K : PySem.W.Frag) (mg : Str → Option Value) (base : Heap) (k : Nat) (x : Str) (dv : List PV) (N : Nat) (m : DF) : Prop where
  ex : ∃ f fd ps ds dvs, mg x = some (.ref f) ∧ PySem.W.keepIn K (.ref f) = true ∧ FnOk P w K mg base (L2.CX P w) k f fd ps (spZ K ps.length m) ∧ Binds K fd ps ds ∧ Vals dvs ds ∧ ps.length = N ∧ ∀ φ H, RepL K φ H dv dvs
def mCall (N : Nat) (m : DF) (dv : List PV) (as : DA) : DE := fun env ph => (as env ph).bind fun vs ph1 => if (vs ++ dv).length = N then m (vs ++ dv) ph1 else .bad
theorem out_wx {K : PySem.W.Frag} {Wx : WX} {φ : Phi} {H : Hp} {σ : St} {Q : VK} {r : Res PV} (o : OutG K (Rep K) Wx φ H σ Q r) : OutG K (Rep K) (fun c d _ H' => WE Wx σ c d H') φ H [] Q r := by
  cases r with
  | ok v ph => exact o
  | err x ph => exact o
  | bad => exact o
section
variable {X : Cx} {Wx : WX} {k N : Nat} {x : Str} {dv : List PV} {m : DF} {p pos : Pos} {e : Expr} {es : List Expr} {as : DA}
theorem call_red {dvs : List V} {ps : List Str} (hl : ps.length = N) (hdv : ∀ φ H, RepL X.K φ H dv dvs) : ∀ σ H Q, rE X.K Wx (mCall N m dv as) σ H Q → tCallSD (spZ X.K ps.length m) dvs (WE Wx) (rA X.K Wx as) σ H Q := fun σ H Q h => by
  obtain ⟨φ, ph, env, sr, rs, o⟩ := h
  refine ⟨φ, ph, env, sr, rs, OutG.bind o fun vs ph1 φ1 H1 us e1 s1 r1 o1 => ?_⟩
  split at o1
  · rename_i c
    have r2 : RepL X.K φ1 H1 (vs ++ dv) (us ++ dvs) := r1.append (hdv φ1 H1)
    exact ⟨by rw [r2.length, c, hl], φ1, ph1, vs ++ dv, s1, r2, out_wx o1⟩
  · exact o1.elim
theorem z_call (c : Cal X.prog X.w X.K X.mg X.base k x dv N m) (hr : Room k X.A) (tk : Takes X Wx) (hg : Gl X x) (ha : PA X (e :: es) (rA X.K Wx as)) (hdb : (x == ("__debug__" : Str)) = false := by decide) (he : starEach (e :: es) X.env = (false, eval e X.env) :: starEach es X.env := by rfl) (hpl : (backTo pos (starEach es X.env)).any (·.1) = false := by rfl) :
    PE X (.Call (.Name x p) (e :: es) [] pos) (rE X.K Wx (mCall N m dv as)) := by
  obtain ⟨f, fd, ps, ds, dvs, h1, h2, h3, h4, h5, h6, h7⟩ := c.ex
  exact peW (pe_callSD h3 hr hg h1 h2 h4 h5 (fun σ => passAt tk σ) ha hdb he hpl) (call_red h6 h7)
end
end OfP
/-! Layer Z, part 6: subscripts, slices, in, is, built-in calls. -/
namespace OfP
open PySem PySem.Spec L2
open PyProof.Rows hiding St

section
variable {X : Cx} {Wx : WX} {a b c e : Expr} {es : List Expr} {ma mb mc : DE} {as : DA} {pos p : Pos}

/-! ### xs[i] -/
def ixZ (ph : PH) (p q : PV) : Option PV := match q with
  | .int i => (match rz ph p with
    | .lst xs => atI xs i
    | .scr xs => atI xs i
    | .tup xs => atI xs i
    | .str z => if z.length ≤ sizeLine then (atI z.cps.toList i).map fun c => .str ⟨#[c]⟩ else none
    | _ => none)
  | _ => none
theorem atI_rep {K : PySem.W.Frag} {φ : Phi} {H : Hp} {xs : List PV} {vs : List V} {i : Int} {p : PV} (l : RepL K φ H xs vs) (h : atI xs i = some p) : ∃ v, atI vs i = some v ∧ Rep K φ H p v := by
  unfold atI at h ⊢
  rw [l.length]
  cases q : ixN xs.length i with
  | none => rw [q] at h; cases h
  | some j =>
    rw [q] at h
    exact l.get h
theorem z_ix (ha : PE X a (rE X.K Wx ma)) (hb : PE X b (rE X.K Wx mb)) (hs : PlainIx b) : PE X (.Subscript a b pos) (rE X.K Wx (mBin ixZ ma mb)) := by
  refine peW (pe_ix ix_seq ha hb hs) fun σ H Q h => ?_
  obtain ⟨φ, ph, env, sr, rs, o⟩ := h
  refine ⟨φ, ph, env, sr, rs, OutG.bind o fun x ph1 φ1 H1 u e1 s1 r1 o1 => ⟨φ1, ph1, env, s1, rs.mono e1, OutG.bind o1 fun y ph2 φ2 H2 w e2 s2 r2 o2 => ?_⟩⟩
  obtain ⟨v, hv, k⟩ := OutG.opt s2 o2
  have r1' := r1.mono e2
  unfold ixZ at hv
  split at hv
  · rename_i i
    rw [r2.int']
    rcases rz_cases ph2 x with q | ⟨n, ys, rfl, q, q2⟩
    · rw [q] at hv
      split at hv
      · obtain ⟨t, vs, rfl, h1, l⟩ := r1'.sqL
        obtain ⟨z, h2, h3⟩ := atI_rep l hv
        exact .inl ⟨t, vs, i, z, rfl, rfl, h1, h2, k φ2 H2 _ Ext.refl s2 h3⟩
      · obtain ⟨t, vs, rfl, h1, l⟩ := r1'.sqS
        obtain ⟨z, h2, h3⟩ := atI_rep l hv
        exact .inl ⟨t, vs, i, z, rfl, rfl, h1, h2, k φ2 H2 _ Ext.refl s2 h3⟩
      · obtain ⟨t, vs, rfl, h1, l⟩ := r1'.sqT
        obtain ⟨z, h2, h3⟩ := atI_rep l hv
        exact .inr (.inl ⟨t, vs, i, z, rfl, rfl, h1, h2, k φ2 H2 _ Ext.refl s2 h3⟩)
      · split at hv
        · rename_i z hz
          rw [r1'.str']
          cases q3 : atI z.cps.toList i with
          | none => rw [q3] at hv; cases hv
          | some ch =>
            rw [q3] at hv
            cases hv
            exact .inr (.inr ⟨z, i, ch, rfl, rfl, hz, q3, k φ2 H2 _ Ext.refl s2 rep_str⟩)
        · cases hv
      · cases hv
    · rw [q2] at hv
      obtain ⟨t, vs, rfl, _, h1, l⟩ := s2.lstAt r1' q
      obtain ⟨z, h2, h3⟩ := atI_rep l hv
      exact .inl ⟨t, vs, i, z, rfl, rfl, .inl (.inl h1), h2, k φ2 H2 _ Ext.refl s2 h3⟩
  · cases hv

/-! ### slices -/
def cutP (xs : List PV) (lo hi : Option Int) : List PV := (xs.drop (HT.sIx xs.length 0 lo)).take (HT.sIx xs.length xs.length hi - HT.sIx xs.length 0 lo)
def slZ (ph : PH) (p : PV) (lo hi : Option Int) : Option PV := match rz ph p with
  | .lst xs => some (.lst (cutP xs lo hi))
  | .tup xs => some (.tup (cutP xs lo hi))
  | .str z => if z.length ≤ sizeLine then some (.str (Txt.slice z lo hi)) else none
  | _ => none
abbrev DO := DG (Option Int)
def oNone : DO := fun _ ph => .ok none ph
def oSome (m : DE) : DO := fun env ph => (m env ph).bind fun v ph1 => match v with
  | .int i => .ok (some i) ph1
  | _ => .bad
def mSl (a : DE) (lo hi : DO) : DE := fun env ph => (a env ph).bind fun x ph1 => (lo env ph1).bind fun l ph2 => (hi env ph2).bind fun h ph3 => .ofO (slZ ph3 x l h) ph3
abbrev rO (K : PySem.W.Frag) (Wx : WX) (m : DO) := rG K (fun _ _ (a b : Option Int) => b = a) Wx m
theorem poW {X : Cx} {e : Option Expr} {t t' : TO} (h : L2.PO X e t) (w : ∀ σ H Q, t' σ H Q → t σ H Q) : L2.PO X e t' := ⟨fun pins s σ H Q I q => h.run pins s σ H Q I (w σ H Q q)⟩
theorem z_onone : L2.PO X none (rO X.K Wx oNone) := poW po_none fun σ H Q h => by
  obtain ⟨φ, ph, env, sr, rs, o⟩ := h
  exact o φ H none Ext.refl sr rfl
theorem z_osome (h : PE X a (rE X.K Wx ma)) : L2.PO X (some a) (rO X.K Wx (oSome ma)) := poW (po_some h) fun σ H Q h => by
  obtain ⟨φ, ph, env, sr, rs, o⟩ := h
  refine ⟨φ, ph, env, sr, rs, OutG.bind o fun v ph1 φ1 H1 u e1 s1 r1 o1 => ?_⟩
  split at o1
  · exact ⟨_, r1.int', o1 φ1 H1 _ Ext.refl s1 rfl⟩
  · exact o1.elim
theorem cutP_rep {K : PySem.W.Frag} {φ : Phi} {H : Hp} {xs : List PV} {vs : List V} {lo hi : Option Int} (l : RepL K φ H xs vs) : RepL K φ H (cutP xs lo hi) (cutV vs lo hi) := by
  unfold cutP cutV
  rw [l.length]
  exact (l.drop _).take _
theorem SlR.three {r1 r2 r3 : V → Option Int → Option Int → Hp → VK → Prop} (h1 : SlR X r1) (h2 : SlR X r2) (h3 : SlR X r3) : SlR X (fun x lo hi H Q => r1 x lo hi H Q ∨ r2 x lo hi H Q ∨ r3 x lo hi H Q) := SlR.or h1 (SlR.or h2 h3)
theorem sIx_full {n : Nat} {lo hi : Option Int} (h : HT.sIx n 0 lo = 0 ∧ HT.sIx n n hi = n) {α : Type} {xs : List α} (e : xs.length = n) : (xs.drop (HT.sIx xs.length 0 lo)).take (HT.sIx xs.length xs.length hi - HT.sIx xs.length 0 lo) = xs := by
  subst e
  rw [h.1, h.2]
  simp
theorem z_sl {p2 : Pos} {lo hi : Option Expr} {ml mh : DO} (ha : PE X a (rE X.K Wx ma)) (hl : L2.PO X lo (rO X.K Wx ml)) (hh : L2.PO X hi (rO X.K Wx mh)) : PE X (.Subscript a (.Slice lo hi none p2) pos) (rE X.K Wx (mSl ma ml mh)) := by
  refine peW (pe_slice (SlR.three sl_list sl_tupA C8.sl_txt) ha hl hh) fun σ H Q h => ?_
  obtain ⟨φ, ph, env, sr, rs, o⟩ := h
  refine ⟨φ, ph, env, sr, rs, OutG.bind o fun x ph1 φ1 H1 u e1 s1 r1 o1 => ⟨φ1, ph1, env, s1, rs.mono e1, OutG.bind o1 fun y ph2 φ2 H2 w e2 s2 r2 o2 => ⟨φ2, ph2, env, s2, (rs.mono e1).mono e2, OutG.bind o2 fun z ph3 φ3 H3 w3 e3 s3 r3 o3 => ?_⟩⟩⟩
  subst r2
  subst r3
  obtain ⟨v, hv, k⟩ := OutG.opt s3 o3
  have r1' := (r1.mono e2).mono e3
  unfold slZ at hv
  rcases rz_cases ph3 x with q | ⟨n, ys, rfl, q, q2⟩
  · rw [q] at hv
    split at hv
    · cases hv
      obtain ⟨t, vs, rfl, h1, l⟩ := r1'.sqL
      refine .inl ⟨t, vs, rfl, h1, fun d hd => ?_⟩
      obtain ⟨e4, s4, f4⟩ := s3.lstNew (cutP_rep (lo := w) (hi := w3) l) hd hd
      obtain ⟨φ5, e5, s5, r5⟩ := f4.rep s3 e4 s4
      exact k φ5 _ _ e5 s5 r5
    · cases hv
      obtain ⟨t, vs, rfl, h1, l⟩ := r1'.sqT
      refine .inr (.inl ⟨t, vs, rfl, h1, fun hf => ?_, fun _ d hd => ?_⟩)
      · refine k φ3 H3 _ Ext.refl s3 ?_
        rw [l.length] at hf
        unfold cutP
        rw [sIx_full hf rfl]
        exact r1'
      · obtain ⟨φ5, e5, s5, r5⟩ := s3.tupNew (cutP_rep (lo := w) (hi := w3) l) hd
        exact k φ5 _ _ e5 s5 r5
    · split at hv
      · rename_i z hz
        cases hv
        rw [r1'.str']
        exact .inr (.inr ⟨z, rfl, hz, k φ3 H3 _ Ext.refl s3 rep_str⟩)
      · cases hv
    · cases hv
  · rw [q2] at hv
    cases hv
    obtain ⟨t, vs, rfl, _, h1, l⟩ := s3.lstAt r1' q
    refine .inl ⟨t, vs, rfl, .inl (.inl h1), fun d hd => ?_⟩
    obtain ⟨e4, s4, f4⟩ := s3.lstNew (cutP_rep (lo := w) (hi := w3) l) hd hd
    obtain ⟨φ5, e5, s5, r5⟩ := f4.rep s3 e4 s4
    exact k φ5 _ _ e5 s5 r5

/-! ### in, not in -/
def inDat (d : PyData) (c : PyData) : Option Bool := match c with
  | .list ds => if SeqAt.shaped d && SeqAt.shaped c then some (ds.any fun z => PyData.eqv z d) else none
  | .tuple ds => if SeqAt.shaped d && SeqAt.shaped c then some (ds.any fun z => PyData.eqv z d) else none
  | _ => none
def strIn (x y : Str) : Bool := match x.cps.toList with
  | [c] => decide (c ∈ y.cps.toList)
  | _ => !(Builtin.Str.occurrences y x 0 y.length 1).isEmpty
def inZ (neg : Bool) (ph : PH) (p q : PV) : Option PV := match p, q with
  | .str x, .str y => some (.bl (if neg then !strIn x y else strIn x y))
  | p, q => match dOf ph p, dOf ph q with
    | some d, some c => (inDat d c).map fun k => .bl (if neg then !k else k)
    | _, _ => none
theorem op_inT (hu : X.A.units + 65 < cLine) : OpR X (compareOp .In) (fun x y H Q => ∃ d ds, Dp X.K H x d ∧ Dp X.K H y (.tuple ds) ∧ SeqAt.shaped d = true ∧ SeqAt.shaped (.tuple ds) = true ∧ Q (.bl (ds.any fun z => PyData.eqv z d)) H) := by
  intro pins s σ H x y v u Q I rx ry h
  obtain ⟨d, ds, hd, he, sd, se, q⟩ := h
  obtain ⟨as, r1⟩ := Dp.reads I d x v hd rx
  obtain ⟨bs, r2⟩ := Dp.reads I (.tuple ds) y u he ry
  exact SeqAt.in_tuple_reads r2 r1 (SeqAt.canLay_of_shaped se) (SeqAt.canLay_of_shaped sd) (room_in_shaped sd hu) ⟨.bl _, H, I, rfl, q⟩
theorem op_notInT (hu : X.A.units + 65 < cLine) : OpR X (compareOp .NotIn) (fun x y H Q => ∃ d ds, Dp X.K H x d ∧ Dp X.K H y (.tuple ds) ∧ SeqAt.shaped d = true ∧ SeqAt.shaped (.tuple ds) = true ∧ Q (.bl (!ds.any fun z => PyData.eqv z d)) H) := by
  intro pins s σ H x y v u Q I rx ry h
  obtain ⟨d, ds, hd, he, sd, se, q⟩ := h
  obtain ⟨as, r1⟩ := Dp.reads I d x v hd rx
  obtain ⟨bs, r2⟩ := Dp.reads I (.tuple ds) y u he ry
  exact SeqAt.notIn_tuple_reads r2 r1 (SeqAt.canLay_of_shaped se) (SeqAt.canLay_of_shaped sd) (room_in_shaped sd hu) ⟨.bl _, H, I, rfl, q⟩
theorem strIn_one {x : Str} {ch : Nat} (h : x.cps.toList = [ch]) : x = ⟨#[ch]⟩ := by
  obtain ⟨⟨l⟩⟩ := x
  have h' : l = [ch] := h
  subst h'
  rfl
theorem strIn_cases (x y : Str) : (∃ ch, x = ⟨#[ch]⟩ ∧ strIn x y = decide (ch ∈ y.cps.toList)) ∨ strIn x y = !(Builtin.Str.occurrences y x 0 y.length 1).isEmpty := by
  by_cases h : ∃ ch, x.cps.toList = [ch]
  · obtain ⟨ch, h⟩ := h
    exact .inl ⟨ch, strIn_one h, by unfold strIn; rw [h]⟩
  · refine .inr ?_
    unfold strIn
    split
    · rename_i c hc
      exact absurd ⟨c, hc⟩ h
    · rfl
theorem inDat_cases {d c : PyData} {k : Bool} (h : inDat d c = some k) : SeqAt.shaped d = true ∧ SeqAt.shaped c = true ∧ ((∃ ds, c = .list ds ∧ k = ds.any fun z => PyData.eqv z d) ∨ ∃ ds, c = .tuple ds ∧ k = ds.any fun z => PyData.eqv z d) := by
  unfold inDat at h
  split at h
  · split at h
    · rename_i q
      rw [Bool.and_eq_true] at q
      cases h
      exact ⟨q.1, q.2, .inl ⟨_, rfl, rfl⟩⟩
    · cases h
  · split at h
    · rename_i q
      rw [Bool.and_eq_true] at q
      cases h
      exact ⟨q.1, q.2, .inr ⟨_, rfl, rfl⟩⟩
    · cases h
  · cases h
theorem opz_in (hu : X.A.units + 65 < cLine) : OpZ X (compareOp .In) (inZ false) := by
  intro pins s σ H x y v u Q I rx ry ⟨φ, ph, p, q, z, sr, rp, rq, e, kk⟩
  unfold inZ at e
  split at e
  · rename_i xs ys
    cases e
    rcases strIn_cases xs ys with ⟨ch, hx, hk⟩ | hk
    · subst hx
      rw [hk] at kk
      exact op_in_sign pins s σ H x y v u Q I rx ry ⟨ch, ys, rp.str', rq.str', kk φ H _ Ext.refl sr rep_bl⟩
    · rw [hk] at kk
      exact op_in_str pins s σ H x y v u Q I rx ry ⟨xs, ys, rp.str', rq.str', kk φ H _ Ext.refl sr rep_bl⟩
  · split at e
    · rename_i d1 d2 h1 h2
      cases q3 : inDat d1 d2 with
      | none => rw [q3] at e; cases e
      | some k =>
        rw [q3] at e
        cases e
        obtain ⟨sd, sc, h⟩ := inDat_cases q3
        rcases h with ⟨ds, rfl, rfl⟩ | ⟨ds, rfl, rfl⟩
        · exact op_inD hu pins s σ H x y v u Q I rx ry ⟨d1, ds, dOf_ok sr rp h1, dOf_ok sr rq h2, sd, sc, kk φ H _ Ext.refl sr rep_bl⟩
        · exact op_inT hu pins s σ H x y v u Q I rx ry ⟨d1, ds, dOf_ok sr rp h1, dOf_ok sr rq h2, sd, sc, kk φ H _ Ext.refl sr rep_bl⟩
    · cases e
theorem opz_notIn (hu : X.A.units + 65 < cLine) : OpZ X (compareOp .NotIn) (inZ true) := by
  intro pins s σ H x y v u Q I rx ry ⟨φ, ph, p, q, z, sr, rp, rq, e, kk⟩
  unfold inZ at e
  split at e
  · rename_i xs ys
    cases e
    rcases strIn_cases xs ys with ⟨ch, hx, hk⟩ | hk
    · subst hx
      rw [hk] at kk
      exact op_notIn_sign pins s σ H x y v u Q I rx ry ⟨ch, ys, rp.str', rq.str', kk φ H _ Ext.refl sr rep_bl⟩
    · rw [hk] at kk
      exact op_notin_str pins s σ H x y v u Q I rx ry ⟨xs, ys, rp.str', rq.str', kk φ H _ Ext.refl sr rep_bl⟩
  · split at e
    · rename_i d1 d2 h1 h2
      cases q3 : inDat d1 d2 with
      | none => rw [q3] at e; cases e
      | some k =>
        rw [q3] at e
        cases e
        obtain ⟨sd, sc, h⟩ := inDat_cases q3
        rcases h with ⟨ds, rfl, rfl⟩ | ⟨ds, rfl, rfl⟩
        · exact op_notInD hu pins s σ H x y v u Q I rx ry ⟨d1, ds, dOf_ok sr rp h1, dOf_ok sr rq h2, sd, sc, kk φ H _ Ext.refl sr rep_bl⟩
        · exact op_notInT hu pins s σ H x y v u Q I rx ry ⟨d1, ds, dOf_ok sr rp h1, dOf_ok sr rq h2, sd, sc, kk φ H _ Ext.refl sr rep_bl⟩
    · cases e

/-! ### is None -/
def PV.isN : PV → Bool
  | .non => true
  | _ => false
def isNZ (neg : Bool) (_ : PH) (p q : PV) : Option PV := match q with
  | .non => some (.bl (if neg then !p.isN else p.isN))
  | _ => none
theorem rep_non_iff {K : PySem.W.Frag} {φ : Phi} {H : Hp} {p : PV} {v : V} (r : Rep K φ H p v) : decide (v = .non) = p.isN := by
  cases p with
  | non => rw [r.non']; rfl
  | bl _ => rw [r.bl']; rfl
  | int _ => rw [r.int']; rfl
  | str _ => rw [r.str']; rfl
  | ty _ => rw [r.ty']; rfl
  | fn _ => rw [r.fn']; rfl
  | tup _ => obtain ⟨a, vs, rfl, _⟩ := r.sqT; rfl
  | lst _ => obtain ⟨a, vs, rfl, _⟩ := r.sqL; rfl
  | scr _ => obtain ⟨a, vs, rfl, _⟩ := r.sqS; rfl
  | dct _ _ => unfold Rep at r; obtain ⟨a, kvs, rfl, _⟩ := r; rfl
  | loc _ => obtain ⟨a, _, rfl⟩ := r.loc'; rfl
theorem opz_is : OpZ X (compareOp .Is) (isNZ false) := by
  intro pins s σ H x y v u Q I rx ry ⟨φ, ph, p, q, z, sr, rp, rq, e, kk⟩
  unfold isNZ at e
  split at e
  · cases e
    refine op_isN pins s σ H x y v u Q I rx ry ⟨rq.non', ?_⟩
    rw [rep_non_iff rp]
    exact kk φ H _ Ext.refl sr rep_bl
  · cases e
theorem opz_isNot : OpZ X (compareOp .IsNot) (isNZ true) := by
  intro pins s σ H x y v u Q I rx ry ⟨φ, ph, p, q, z, sr, rp, rq, e, kk⟩
  unfold isNZ at e
  split at e
  · cases e
    refine op_notN pins s σ H x y v u Q I rx ry ⟨rq.non', ?_⟩
    rw [rep_non_iff rp]
    exact kk φ H _ Ext.refl sr rep_bl
  · cases e

/-! ### a op1 b op2 c -/
def mChain (g g' : PH → PV → PV → Option PV) (a b c : DE) : DE := fun env ph => (a env ph).bind fun x ph1 => (b env ph1).bind fun y ph2 => match g ph2 x y with
  | some (.bl true) => (c env ph2).bind fun z ph3 => .ofO (g' ph3 y z) ph3
  | some (.bl false) => .ok (.bl false) ph2
  | _ => .bad
def mChainT (g g' : PH → PV → PV → Option PV) (a b c : DE) : DT := fun env ph => (a env ph).bind fun x ph1 => (b env ph1).bind fun y ph2 => match g ph2 x y with
  | some (.bl true) => (c env ph2).bind fun z ph3 => (match g' ph3 y z with
    | some (.bl k) => .ok k ph3
    | _ => .bad)
  | some (.bl false) => .ok false ph2
  | _ => .bad
theorem z_chain {op op' : CmpOp} {g g' : PH → PV → PV → Option PV} (ho : OpZ X (compareOp op) g) (ho' : OpZ X (compareOp op') g') (ha : PE X a (rE X.K Wx ma)) (hb : PE X b (rE X.K Wx mb)) (hc : PE X c (rE X.K Wx mc))
    (hm : lastMarks [op, op'] [b, c] = false := by with_unfolding_all rfl) : PE X (.Compare a [op, op'] [b, c] pos) (rE X.K Wx (mChain g g' ma mb mc)) := by
  refine peW (pe_chain ho ho' ha hb hc hm) fun σ H Q h => ?_
  obtain ⟨φ, ph, env, sr, rs, o⟩ := h
  refine ⟨φ, ph, env, sr, rs, OutG.bind o fun x ph1 φ1 H1 u e1 s1 r1 o1 => ⟨φ1, ph1, env, s1, rs.mono e1, OutG.bind o1 fun y ph2 φ2 H2 w e2 s2 r2 o2 => ?_⟩⟩
  cases hg : g ph2 x y with
  | none => simp only [hg] at o2; exact o2.elim
  | some v =>
    refine ⟨φ2, ph2, x, y, v, s2, r1.mono e2, r2, hg, fun φ3 H3 u3 e3 s3 r3 => ?_⟩
    cases v with
    | bl k =>
      refine ⟨k, r3.bl', ?_⟩
      cases k with
      | true =>
        rw [if_pos rfl]
        simp only [hg] at o2
        refine ⟨φ3, ph2, env, s3, ((rs.mono e1).mono e2).mono e3, OutG.bind (OutG.mono o2 e3) fun z ph4 φ4 H4 w4 e4 s4 r4 o4 => ?_⟩
        obtain ⟨v, hv, kk⟩ := OutG.opt s4 o4
        exact ⟨φ4, ph4, y, z, v, s4, (r2.mono e3).mono e4, r4, hv, kk⟩
      | false =>
        rw [if_neg Bool.false_ne_true]
        simp only [hg] at o2
        exact o2 φ3 H3 _ e3 s3 rep_bl
    | _ => simp only [hg] at o2; exact o2.elim
theorem z_chainT {op op' : CmpOp} {g g' : PH → PV → PV → Option PV} (ho : OpZ X (compareOp op) g) (ho' : OpZ X (compareOp op') g') (ha : PE X a (rE X.K Wx ma)) (hb : PE X b (rE X.K Wx mb)) (hc : PE X c (rE X.K Wx mc))
    (hm : lastMarks [op, op'] [b, c] = false := by with_unfolding_all rfl) : PT X (.Compare a [op, op'] [b, c] pos) (rT X.K Wx (mChainT g g' ma mb mc)) := by
  refine ptW (pt_chain ho ho' ha hb hc hm) fun σ H Q h => ?_
  obtain ⟨φ, ph, env, sr, rs, o⟩ := h
  refine ⟨φ, ph, env, sr, rs, OutG.bind o fun x ph1 φ1 H1 u e1 s1 r1 o1 => ⟨φ1, ph1, env, s1, rs.mono e1, OutG.bind o1 fun y ph2 φ2 H2 w e2 s2 r2 o2 => ?_⟩⟩
  cases hg : g ph2 x y with
  | none => simp only [hg] at o2; exact o2.elim
  | some v =>
    refine ⟨φ2, ph2, x, y, v, s2, r1.mono e2, r2, hg, fun φ3 H3 u3 e3 s3 r3 => ?_⟩
    cases v with
    | bl k =>
      refine ⟨k, r3.bl', ?_⟩
      cases k with
      | true =>
        rw [if_pos rfl]
        simp only [hg] at o2
        refine ⟨φ3, ph2, env, s3, ((rs.mono e1).mono e2).mono e3, OutG.bind (OutG.mono o2 e3) fun z ph4 φ4 H4 w4 e4 s4 r4 o4 => ?_⟩
        obtain ⟨kk, hv, q⟩ := OutG.optT s4 o4
        exact ⟨φ4, ph4, y, z, _, s4, (r2.mono e3).mono e4, r4, hv, fun φ5 H5 u5 e5 s5 r5 => ⟨kk, r5.bl', q φ5 H5 e5 s5⟩⟩
      | false =>
        rw [if_neg Bool.false_ne_true]
        simp only [hg] at o2
        exact ⟨false, rfl, o2 φ3 H3 _ e3 s3 rfl⟩
    | _ => simp only [hg] at o2; exact o2.elim

end
end OfP
/-! Layer Z, part 7: subscripts, slices, in, is, built-in calls. -/
namespace OfP
open PySem PySem.Spec L2
open PyProof.Rows hiding St

section
variable {X : Cx} {Wx : WX} {a b c e : Expr} {es : List Expr} {ma mb mc : DE} {as : DA} {pos p : Pos}

/-! ### calls of built-ins -/
theorem z_cb {x : Str} {id : String} {g : PH → List PV → Option PV} (hc : CallZ X (.builtin id) g) (hg : Gl X x) (hm : X.mg x = none) (hv : bootBuiltins x = some (.builtin id)) (ha : PA X (e :: es) (rA X.K Wx as)) (hn : x ≠ "__name__" := by decide) (hdb : (x == ("__debug__" : Str)) = false := by decide)
    (he : starEach (e :: es) X.env = (false, eval e X.env) :: starEach es X.env := by rfl) (hpl : (backTo pos (starEach es X.env)).any (·.1) = false := by rfl) : PE X (.Call (.Name x p) (e :: es) [] pos) (rE X.K Wx (mCB g as)) := by
  refine peW (pe_callB hc hg hm hv ha hn hdb he hpl) fun σ H Q h => ?_
  obtain ⟨φ, ph, env, sr, rs, o⟩ := h
  refine ⟨φ, ph, env, sr, rs, OutG.bind o fun vs ph1 φ1 H1 us e1 s1 r1 o1 => ?_⟩
  obtain ⟨v, hv, k⟩ := OutG.opt s1 o1
  exact ⟨φ1, ph1, vs, v, s1, r1, hv, k⟩
theorem z_ct {x : Str} {T : String} {g : PH → List PV → Option PV} (hc : CallZ X (.type T) g) (hg : Gl X x) (hm : X.mg x = none) (hv : bootBuiltins x = some (.type T)) (ha : PA X (e :: es) (rA X.K Wx as)) (hn : x ≠ "__name__" := by decide) (hdb : (x == ("__debug__" : Str)) = false := by decide)
    (he : starEach (e :: es) X.env = (false, eval e X.env) :: starEach es X.env := by rfl) (hpl : (backTo pos (starEach es X.env)).any (·.1) = false := by rfl) : PE X (.Call (.Name x p) (e :: es) [] pos) (rE X.K Wx (mCB g as)) := by
  refine peW (pe_callTy hc hg hm hv ha hn hdb he hpl) fun σ H Q h => ?_
  obtain ⟨φ, ph, env, sr, rs, o⟩ := h
  refine ⟨φ, ph, env, sr, rs, OutG.bind o fun vs ph1 φ1 H1 us e1 s1 r1 o1 => ?_⟩
  obtain ⟨v, hv, k⟩ := OutG.opt s1 o1
  exact ⟨φ1, ph1, vs, v, s1, r1, hv, k⟩
theorem RepL.one {K : PySem.W.Frag} {φ : Phi} {H : Hp} {p : PV} {vs : List V} (h : RepL K φ H [p] vs) : ∃ v, vs = [v] ∧ Rep K φ H p v := by
  obtain ⟨v, ws, rfl, h1, h2⟩ := h.inv
  rw [h2.inv0]
  exact ⟨v, rfl, h1⟩
theorem RepL.two {K : PySem.W.Frag} {φ : Phi} {H : Hp} {p q : PV} {vs : List V} (h : RepL K φ H [p, q] vs) : ∃ v w, vs = [v, w] ∧ Rep K φ H p v ∧ Rep K φ H q w := by
  obtain ⟨v, ws, rfl, h1, h2⟩ := h.inv
  obtain ⟨w, rfl, h3⟩ := h2.one
  exact ⟨v, w, rfl, h1, h3⟩
/-! len -/
def lenZ (ph : PH) : List PV → Option PV
  | [p] => (match rz ph p with
    | .str z => if z.length ≤ sizeLine then some (.int z.length) else none
    | .lst xs => some (.int xs.length)
    | .scr xs => some (.int xs.length)
    | .tup xs => some (.int xs.length)
    | _ => none)
  | _ => none
theorem cz_len : CallZ X (.builtin "len") lenZ := by
  intro pins s σ H xs us Q I r ⟨φ, ph, ps, z, sr, rl, e, kk⟩
  unfold lenZ at e
  split at e
  · rename_i p
    obtain ⟨v, rfl, rp⟩ := rl.one
    rcases rz_cases ph p with q | ⟨n, ys, rfl, q, q2⟩
    · rw [q] at e
      split at e
      · split at e
        · rename_i z hz
          cases e
          rw [rp.str'] at r
          exact call_len_str pins s σ H _ us Q I r ⟨z, rfl, hz, kk φ H _ Ext.refl sr rep_int⟩
        · cases e
      · cases e
        obtain ⟨t, vs, rfl, h1, l⟩ := rp.sqL
        exact call_len_seq pins s σ H _ us Q I r ⟨t, vs, rfl, .inl h1, by rw [l.length]; exact kk φ H _ Ext.refl sr rep_int⟩
      · cases e
        obtain ⟨t, vs, rfl, h1, l⟩ := rp.sqS
        exact call_len_seq pins s σ H _ us Q I r ⟨t, vs, rfl, .inl h1, by rw [l.length]; exact kk φ H _ Ext.refl sr rep_int⟩
      · cases e
        obtain ⟨t, vs, rfl, h1, l⟩ := rp.sqT
        exact call_len_seq pins s σ H _ us Q I r ⟨t, vs, rfl, .inr h1, by rw [l.length]; exact kk φ H _ Ext.refl sr rep_int⟩
      · cases e
    · rw [q2] at e
      cases e
      obtain ⟨t, vs, rfl, _, h1, l⟩ := sr.lstAt rp q
      exact call_len_seq pins s σ H _ us Q I r ⟨t, vs, rfl, .inl (.inl (.inl h1)), by rw [l.length]; exact kk φ H _ Ext.refl sr rep_int⟩
  · cases e
/-! int, abs, bool, str of an int -/
def intTyZ (_ : PH) : List PV → Option PV
  | [.int i] => some (.int i)
  | [.bl b] => some (.int (if b then 1 else 0))
  | [.str x] => if x.length ≤ 640 then (PySem.intText? x).map .int else none
  | _ => none
theorem cz_int : CallZ X (.type "int") intTyZ := by
  intro pins s σ H xs us Q I r ⟨φ, ph, ps, z, sr, rl, e, kk⟩
  unfold intTyZ at e
  split at e
  · cases e
    obtain ⟨v, rfl, rp⟩ := rl.one
    exact call_int1 pins s σ H _ us Q I r (.inl ⟨_, by rw [rp.int'], kk φ H _ Ext.refl sr rep_int⟩)
  · cases e
    obtain ⟨v, rfl, rp⟩ := rl.one
    exact call_int1 pins s σ H _ us Q I r (.inr ⟨_, by rw [rp.bl'], kk φ H _ Ext.refl sr rep_int⟩)
  · split at e
    · rename_i x hx
      cases q : PySem.intText? x with
      | none => rw [q] at e; cases e
      | some n =>
        rw [q] at e
        cases e
        obtain ⟨v, rfl, rp⟩ := rl.one
        exact call_int_str pins s σ H _ us Q I r ⟨x, n, by rw [rp.str'], q, hx, kk φ H _ Ext.refl sr rep_int⟩
    · cases e
  · cases e
def absZ (_ : PH) : List PV → Option PV
  | [.int i] => some (.int (if i < 0 then -i else i))
  | _ => none
theorem cz_abs : CallZ X (.builtin "abs") absZ := by
  intro pins s σ H xs us Q I r ⟨φ, ph, ps, z, sr, rl, e, kk⟩
  unfold absZ at e
  split at e
  · cases e
    obtain ⟨v, rfl, rp⟩ := rl.one
    exact call_abs pins s σ H _ us Q I r ⟨_, by rw [rp.int'], kk φ H _ Ext.refl sr rep_int⟩
  · cases e
def strTyZ (_ : PH) : List PV → Option PV
  | [.int i] => if i.natAbs.log2 < 1920 then some (.str (toString i)) else none
  | _ => none
theorem cz_str : CallZ X (.type "str") strTyZ := by
  intro pins s σ H xs us Q I r ⟨φ, ph, ps, z, sr, rl, e, kk⟩
  unfold strTyZ at e
  split at e
  · split at e
    · rename_i c
      cases e
      obtain ⟨v, rfl, rp⟩ := rl.one
      exact call_str_int pins s σ H _ us Q I r ⟨_, by rw [rp.int'], c, kk φ H _ Ext.refl sr rep_str⟩
    · cases e
  · cases e
/-! max, min -/
def intsOf : List PV → Option (List Int)
  | [] => some []
  | .int i :: r => (intsOf r).map (i :: ·)
  | _ => none
def maxI : List Int → Int
  | [] => 0
  | x :: r => r.foldl max x
def minI : List Int → Int
  | [] => 0
  | x :: r => r.foldl min x
def maxZ (ph : PH) : List PV → Option PV
  | [.int i, .int j] => some (.int (if j > i then j else i))
  | [p] => (match (seqL ph p).bind intsOf with
    | some (x :: r) => some (.int (maxI (x :: r)))
    | _ => none)
  | _ => none
def minZ (ph : PH) : List PV → Option PV
  | [.int i, .int j] => some (.int (if j < i then j else i))
  | [p] => (match (seqL ph p).bind intsOf with
    | some (x :: r) => some (.int (minI (x :: r)))
    | _ => none)
  | _ => none
theorem intsOf_rep {K : PySem.W.Frag} {φ : Phi} {H : Hp} : ∀ {xs : List PV} {vs : List V} {ns : List Int}, RepL K φ H xs vs → intsOf xs = some ns → vs = ns.map V.int
  | [], vs, ns, h, e => by cases e; rw [h.inv0]; rfl
  | p :: xs, vs, ns, h, e => by
    obtain ⟨v, ws, rfl, h1, h2⟩ := h.inv
    cases p with
    | int i =>
      unfold intsOf at e
      cases q : intsOf xs with
      | none => rw [q] at e; cases e
      | some ms =>
        rw [q] at e
        cases e
        rw [h1.int', intsOf_rep h2 q]
        rfl
    | _ => cases e
theorem foldl_max_ge : ∀ (r : List Int) (x : Int), x ≤ r.foldl max x ∧ ∀ y ∈ r, y ≤ r.foldl max x
  | [], x => ⟨Int.le_refl _, fun _ h => absurd h List.not_mem_nil⟩
  | z :: r, x => by
    obtain ⟨h1, h2⟩ := foldl_max_ge r (max x z)
    refine ⟨by show x ≤ r.foldl max (max x z); omega, fun y hy => ?_⟩
    show y ≤ r.foldl max (max x z)
    rcases List.mem_cons.mp hy with rfl | hy
    · omega
    · exact h2 y hy
theorem foldl_max_mem : ∀ (r : List Int) (x : Int), r.foldl max x = x ∨ r.foldl max x ∈ r
  | [], x => .inl rfl
  | z :: r, x => by
    show r.foldl max (max x z) = x ∨ r.foldl max (max x z) ∈ z :: r
    rcases foldl_max_mem r (max x z) with h | h
    · rw [h]
      rcases Int.le_total x z with q | q
      · rw [show max x z = z by omega]; exact .inr List.mem_cons_self
      · rw [show max x z = x by omega]; exact .inl rfl
    · exact .inr (List.mem_cons_of_mem _ h)
theorem foldl_min_le : ∀ (r : List Int) (x : Int), r.foldl min x ≤ x ∧ ∀ y ∈ r, r.foldl min x ≤ y
  | [], x => ⟨Int.le_refl _, fun _ h => absurd h List.not_mem_nil⟩
  | z :: r, x => by
    obtain ⟨h1, h2⟩ := foldl_min_le r (min x z)
    refine ⟨by show r.foldl min (min x z) ≤ x; omega, fun y hy => ?_⟩
    show r.foldl min (min x z) ≤ y
    rcases List.mem_cons.mp hy with rfl | hy
    · omega
    · exact h2 y hy
theorem foldl_min_mem : ∀ (r : List Int) (x : Int), r.foldl min x = x ∨ r.foldl min x ∈ r
  | [], x => .inl rfl
  | z :: r, x => by
    show r.foldl min (min x z) = x ∨ r.foldl min (min x z) ∈ z :: r
    rcases foldl_min_mem r (min x z) with h | h
    · rw [h]
      rcases Int.le_total x z with q | q
      · rw [show min x z = x by omega]; exact .inl rfl
      · rw [show min x z = z by omega]; exact .inr List.mem_cons_self
    · exact .inr (List.mem_cons_of_mem _ h)
theorem cz_max (hc : X.calm = true) : CallZ X (.builtin "max") maxZ := by
  intro pins s σ H xs us Q I r ⟨φ, ph, ps, z, sr, rl, e, kk⟩
  unfold maxZ at e
  split at e
  · cases e
    obtain ⟨v, w, rfl, rp, rq⟩ := rl.two
    exact call_max2 hc pins s σ H _ us Q I r ⟨_, _, by rw [rp.int', rq.int'], kk φ H _ Ext.refl sr rep_int⟩
  · rename_i p
    split at e
    · rename_i x0 r0 hq
      cases e
      obtain ⟨v, rfl, rp⟩ := rl.one
      cases q : seqL ph p with
      | none => rw [q] at hq; cases hq
      | some ys =>
        rw [q] at hq
        obtain ⟨t, vs, rfl, h1, l⟩ := seqL_ok sr rp q
        have ev := intsOf_rep l hq
        subst ev
        refine cr_max hc pins s σ H _ us Q I r ⟨t, x0 :: r0, rfl, h1, Nat.succ_pos _, fun m hm hle => ?_⟩
        have : m = maxI (x0 :: r0) := by
          show m = r0.foldl max x0
          have g1 := foldl_max_ge r0 x0
          have g2 := foldl_max_mem r0 x0
          have a1 : r0.foldl max x0 ≤ m := by
            rcases g2 with g2 | g2
            · rw [g2]; exact hle _ List.mem_cons_self
            · exact hle _ (List.mem_cons_of_mem _ g2)
          have a2 : m ≤ r0.foldl max x0 := by
            rcases List.mem_cons.mp hm with rfl | hm
            · exact g1.1
            · exact g1.2 m hm
          omega
        rw [this]
        exact kk φ H _ Ext.refl sr rep_int
    · cases e
  · cases e
theorem cz_min (hc : X.calm = true) : CallZ X (.builtin "min") minZ := by
  intro pins s σ H xs us Q I r ⟨φ, ph, ps, z, sr, rl, e, kk⟩
  unfold minZ at e
  split at e
  · cases e
    obtain ⟨v, w, rfl, rp, rq⟩ := rl.two
    exact call_min2 hc pins s σ H _ us Q I r ⟨_, _, by rw [rp.int', rq.int'], kk φ H _ Ext.refl sr rep_int⟩
  · rename_i p
    split at e
    · rename_i x0 r0 hq
      cases e
      obtain ⟨v, rfl, rp⟩ := rl.one
      cases q : seqL ph p with
      | none => rw [q] at hq; cases hq
      | some ys =>
        rw [q] at hq
        obtain ⟨t, vs, rfl, h1, l⟩ := seqL_ok sr rp q
        have ev := intsOf_rep l hq
        subst ev
        refine cr_min hc pins s σ H _ us Q I r ⟨t, x0 :: r0, rfl, h1, Nat.succ_pos _, fun m hm hle => ?_⟩
        have : m = minI (x0 :: r0) := by
          show m = r0.foldl min x0
          have g1 := foldl_min_le r0 x0
          have g2 := foldl_min_mem r0 x0
          have a1 : m ≤ r0.foldl min x0 := by
            rcases g2 with g2 | g2
            · rw [g2]; exact hle _ List.mem_cons_self
            · exact hle _ (List.mem_cons_of_mem _ g2)
          have a2 : r0.foldl min x0 ≤ m := by
            rcases List.mem_cons.mp hm with rfl | hm
            · exact g1.1
            · exact g1.2 m hm
          omega
        rw [this]
        exact kk φ H _ Ext.refl sr rep_int
    · cases e
  · cases e
/-! all, any, sum -/
def blsOf : List PV → Option (List Bool)
  | [] => some []
  | .bl i :: r => (blsOf r).map (i :: ·)
  | _ => none
theorem blsOf_rep {K : PySem.W.Frag} {φ : Phi} {H : Hp} : ∀ {xs : List PV} {vs : List V} {ns : List Bool}, RepL K φ H xs vs → blsOf xs = some ns → vs = ns.map V.bl
  | [], vs, ns, h, e => by cases e; rw [h.inv0]; rfl
  | p :: xs, vs, ns, h, e => by
    obtain ⟨v, ws, rfl, h1, h2⟩ := h.inv
    cases p with
    | bl i =>
      unfold blsOf at e
      cases q : blsOf xs with
      | none => rw [q] at e; cases e
      | some ms =>
        rw [q] at e
        cases e
        rw [h1.bl', blsOf_rep h2 q]
        rfl
    | _ => cases e
def allZ (ph : PH) : List PV → Option PV
  | [p] => ((seqL ph p).bind blsOf).map fun bs => .bl (bs.all id)
  | _ => none
def anyZ (ph : PH) : List PV → Option PV
  | [p] => ((seqL ph p).bind blsOf).map fun bs => .bl (bs.any id)
  | _ => none
def sumZ (ph : PH) : List PV → Option PV
  | [p] => ((seqL ph p).bind intsOf).map fun ns => .int ns.sum
  | _ => none
theorem cz_all (hc : X.calm = true) : CallZ X (.builtin "all") allZ := by
  intro pins s σ H xs us Q I r ⟨φ, ph, ps, z, sr, rl, e, kk⟩
  unfold allZ at e
  split at e
  · rename_i p
    obtain ⟨v, rfl, rp⟩ := rl.one
    cases q : seqL ph p with
    | none => rw [q] at e; cases e
    | some ys =>
      cases q2 : blsOf ys with
      | none => rw [q] at e; simp only [Option.bind, q2] at e; cases e
      | some bs =>
        rw [q] at e
        simp only [Option.bind, q2] at e
        cases e
        obtain ⟨t, vs, rfl, h1, l⟩ := seqL_ok sr rp q
        rw [blsOf_rep l q2] at h1
        exact cr_all hc pins s σ H _ us Q I r ⟨t, bs, rfl, h1, kk φ H _ Ext.refl sr rep_bl⟩
  · cases e
theorem cz_any (hc : X.calm = true) : CallZ X (.builtin "any") anyZ := by
  intro pins s σ H xs us Q I r ⟨φ, ph, ps, z, sr, rl, e, kk⟩
  unfold anyZ at e
  split at e
  · rename_i p
    obtain ⟨v, rfl, rp⟩ := rl.one
    cases q : seqL ph p with
    | none => rw [q] at e; cases e
    | some ys =>
      cases q2 : blsOf ys with
      | none => rw [q] at e; simp only [Option.bind, q2] at e; cases e
      | some bs =>
        rw [q] at e
        simp only [Option.bind, q2] at e
        cases e
        obtain ⟨t, vs, rfl, h1, l⟩ := seqL_ok sr rp q
        rw [blsOf_rep l q2] at h1
        exact cr_any hc pins s σ H _ us Q I r ⟨t, bs, rfl, h1, kk φ H _ Ext.refl sr rep_bl⟩
  · cases e
theorem cz_sum (hc : X.calm = true) : CallZ X (.builtin "sum") sumZ := by
  intro pins s σ H xs us Q I r ⟨φ, ph, ps, z, sr, rl, e, kk⟩
  unfold sumZ at e
  split at e
  · rename_i p
    obtain ⟨v, rfl, rp⟩ := rl.one
    cases q : seqL ph p with
    | none => rw [q] at e; cases e
    | some ys =>
      cases q2 : intsOf ys with
      | none => rw [q] at e; simp only [Option.bind, q2] at e; cases e
      | some bs =>
        rw [q] at e
        simp only [Option.bind, q2] at e
        cases e
        obtain ⟨t, vs, rfl, h1, l⟩ := seqL_ok sr rp q
        rw [intsOf_rep l q2] at h1
        exact cr_sum hc pins s σ H _ us Q I r ⟨t, bs, rfl, h1, kk φ H _ Ext.refl sr rep_int⟩
  · cases e
/-! isinstance -/
def tyN (ph : PH) (p : PV) : Option String := match p with
  | .non => some "NoneType"
  | .bl _ => some "bool"
  | .int _ => some "int"
  | .str _ => some "str"
  | .tup _ => some "tuple"
  | .lst _ => some "list"
  | .dct _ _ => some "dict"
  | .loc n => (match ph[n]? with
    | some (.lst _) => some "list"
    | some (.dct _ _) => some "dict"
    | _ => none)
  | _ => none
def isi (t n : String) : Option Bool :=
  if t = n then some true else
  if t = "bool" then (if n = "int" then some true else if n = "str" ∨ n = "tuple" ∨ n = "list" ∨ n = "dict" then some false else none) else
  if t = "int" ∨ t = "str" ∨ t = "tuple" ∨ t = "list" ∨ t = "NoneType" ∨ t = "dict" then (if n = "int" ∨ n = "bool" ∨ n = "str" ∨ n = "tuple" ∨ n = "list" ∨ n = "dict" then some false else none) else none
theorem isi_ok {K : PySem.W.Frag} {t n : String} {b : Bool} (h : isi t n = some b) : PySem.W.kitOne K (.type t) (.type n) = some b := by
  unfold isi at h
  split at h
  · rename_i e
    cases h
    subst e
    unfold PySem.W.kitOne
    rw [if_pos (beq_self_eq_true _)]
  · split at h
    · rename_i e
      subst e
      split at h
      · rename_i e; subst e; cases h; exact kit_ty (by decide +kernel)
      · split at h
        · rename_i e
          cases h
          rcases e with rfl | rfl | rfl | rfl <;> exact kit_ty (by decide +kernel)
        · cases h
    · split at h
      · rename_i hne hnb e
        split at h
        · rename_i e2
          cases h
          rcases e with rfl | rfl | rfl | rfl | rfl | rfl <;> rcases e2 with rfl | rfl | rfl | rfl | rfl | rfl <;> first | exact kit_ty (by decide +kernel) | exact absurd rfl hne
        · cases h
      · cases h
def isinstZ (ph : PH) : List PV → Option PV
  | [p, .ty n] => ((tyN ph p).bind fun t => isi t n).map .bl
  | _ => none
theorem tyN_ok {K : PySem.W.Frag} {φ : Phi} {H : Hp} {ph : PH} (s : SR K φ H ph) {p : PV} {v : V} {t : String} (r : Rep K φ H p v) (e : tyN ph p = some t) : TyX K H v (.type t) := by
  cases p with
  | non => cases e; rw [r.non']; exact .base .non
  | bl b => cases e; rw [r.bl']; exact .base (.bl b)
  | int b => cases e; rw [r.int']; exact .base (.int b)
  | str b => cases e; rw [r.str']; exact .base (.str b)
  | tup xs =>
    cases e
    unfold Rep at r
    obtain ⟨a, vs, rfl, hd, l⟩ := r
    rcases hd with ⟨_, h | ⟨o, h⟩⟩ | ⟨o, its, n, h1, h2, _⟩
    · exact .base (.tup h)
    · exact .fTuple h
    · exact .kTuple h1 h2
  | lst xs =>
    cases e
    unfold Rep at r
    obtain ⟨a, vs, rfl, hn, h, l⟩ := r
    exact .base (.lst h)
  | dct ks xs =>
    cases e
    unfold Rep at r
    obtain ⟨a, kvs, rfl, hn, h | ⟨o, h⟩, hk, l⟩ := r
    · exact .base (.dK h)
    · exact .fDict h
  | loc n =>
    obtain ⟨a, ha, rfl⟩ := r.loc'
    unfold tyN at e
    simp only at e
    cases q : ph[n]? with
    | none => rw [q] at e; cases e
    | some o =>
      have ro := s.ob n a o ha q
      cases o with
      | lst xs => rw [q] at e; cases e; obtain ⟨vs, h, _⟩ := ro; exact .base (.lst h)
      | dct ks xs => rw [q] at e; cases e; obtain ⟨vs, h, _⟩ := ro; exact .base (.dK h)
      | ins c fs => rw [q] at e; cases e
  | _ => cases e
theorem cz_isinstance : CallZ X (.builtin "isinstance") isinstZ := by
  intro pins s σ H xs us Q I r ⟨φ, ph, ps, z, sr, rl, e, kk⟩
  unfold isinstZ at e
  split at e
  · rename_i p n
    obtain ⟨v, w, rfl, rp, rq⟩ := rl.two
    cases q : tyN ph p with
    | none => rw [q] at e; cases e
    | some t =>
      rw [q] at e
      cases q2 : isi t n with
      | none => simp only [Option.bind, q2] at e; cases e
      | some b =>
        simp only [Option.bind, q2] at e
        cases e
        rw [rq.ty'] at r
        exact call_isi pins s σ H _ us Q I r ⟨v, .ty n, .type t, .type n, b, rfl, .ty n, tyN_ok sr rp q, isi_ok q2, kk φ H _ Ext.refl sr rep_bl⟩
  · cases e
/-! tuple, list -/
def tupTyZ (ph : PH) : List PV → Option PV
  | [p] => (seqA ph p).map .tup
  | _ => none
theorem cz_tuple : CallZ X (.type "tuple") tupTyZ := by
  intro pins s σ H xs us Q I r ⟨φ, ph, ps, z, sr, rl, e, kk⟩
  unfold tupTyZ at e
  split at e
  · rename_i p
    obtain ⟨v, rfl, rp⟩ := rl.one
    cases q : seqA ph p with
    | none => rw [q] at e; cases e
    | some ys =>
      rw [q] at e
      cases e
      unfold seqA at q
      rcases rz_cases ph p with q1 | ⟨n, zs, rfl, q1, q2⟩
      · rw [q1] at q
        split at q
        · cases q
          obtain ⟨t, vs, rfl, h1, l⟩ := rp.sqL
          refine call_tuple_of pins s σ H _ us Q I r ⟨t, vs, rfl, .inl ⟨h1, fun d hd => ?_⟩⟩
          obtain ⟨φ5, e5, s5, r5⟩ := sr.tupNew l hd
          exact kk φ5 _ _ e5 s5 r5
        · cases q
          obtain ⟨t, vs, rfl, h1, l⟩ := rp.sqT
          exact call_tuple_of pins s σ H _ us Q I r ⟨t, vs, rfl, .inr ⟨h1, kk φ H _ Ext.refl sr rp⟩⟩
        · cases q
      · rw [q2] at q
        cases q
        obtain ⟨t, vs, rfl, _, h1, l⟩ := sr.lstAt rp q1
        refine call_tuple_of pins s σ H _ us Q I r ⟨t, vs, rfl, .inl ⟨.inl (.inl h1), fun d hd => ?_⟩⟩
        obtain ⟨φ5, e5, s5, r5⟩ := sr.tupNew l hd
        exact kk φ5 _ _ e5 s5 r5
  · cases e
def boolTyZ (ph : PH) : List PV → Option PV
  | [.int i] => some (.bl (i != 0))
  | [.bl b] => some (.bl b)
  | _ => none
theorem cz_bool : CallZ X (.type "bool") boolTyZ := by
  intro pins s σ H xs us Q I r ⟨φ, ph, ps, z, sr, rl, e, kk⟩
  unfold boolTyZ at e
  split at e
  · cases e
    obtain ⟨v, rfl, rp⟩ := rl.one
    exact call_bool1 pins s σ H _ us Q I r (.inl ⟨_, by rw [rp.int'], kk φ H _ Ext.refl sr rep_bl⟩)
  · cases e
    obtain ⟨v, rfl, rp⟩ := rl.one
    exact call_bool1 pins s σ H _ us Q I r (.inr ⟨_, by rw [rp.bl'], kk φ H _ Ext.refl sr rep_bl⟩)
  · cases e
end
end OfP
/-! Layer Z, part 8: methods of built-in types, stores. -/
namespace OfP
open PySem PySem.Spec L2
open PyProof.Rows hiding St

section
variable {K : PySem.W.Frag} {φ : Phi} {H : Hp} {ph : PH}
/-- a located object is written -/
theorem SR.set (s : SR K φ H ph) {n : Nat} {a : Addr} {o : PO} {u : HO} (ha : φ.loc[n]? = some a) (hn : RepO K φ (upd H a u) a o) :
    SR K φ (upd H a u) (ph.set n o) ∧ Ext φ H φ (upd H a u) := by
  have hm : a ∈ φ.loc := List.mem_of_getElem? ha
  have hav := φ.sub a hm
  have hb : ∀ b, b ≠ a → upd H a u b = H b := fun b h => upd_ne h
  refine ⟨⟨by rw [List.length_set]; exact s.len, s.nd, fun b h => ?_, fun i b x h1 h2 => ?_⟩, ⟨⟨[], (List.append_nil _).symm, fun _ h => absurd h List.not_mem_nil⟩, fun _ h => .inl h, fun _ h => h, fun b x q hn => ?_, fun b x q => ?_⟩⟩
  · by_cases e : b = a
    · subst e; exact ⟨_, upd_same⟩
    · rw [hb b e]; exact s.tr b h
  · by_cases hi : n = i
    · subst hi
      have hl : n < ph.length := by rw [← s.len]; exact (List.getElem?_eq_some_iff.mp ha).1
      rw [List.getElem?_set_self hl] at h2
      cases h2
      rw [ha] at h1
      cases h1
      exact hn
    · rw [List.getElem?_set_ne hi] at h2
      refine (s.ob i b x h1 h2).store hav hb fun e => hi ?_
      subst e
      have i1 := (List.getElem?_eq_some_iff.mp ha).1
      have i2 := (List.getElem?_eq_some_iff.mp h1).1
      exact (List.getElem_inj (h₀ := i1) (h₁ := i2) s.nd).mp ((List.getElem?_eq_some_iff.mp ha).2.trans (List.getElem?_eq_some_iff.mp h1).2.symm)
  · rw [hb b fun e => hn (e ▸ hm)]; exact q
  · by_cases e : b = a
    · subst e; exact ⟨_, upd_same⟩
    · exact ⟨x, by rw [hb b e]; exact q⟩
theorem SR.setL (s : SR K φ H ph) {n : Nat} {a : Addr} {ys : List PV} {ws : List V} (ha : φ.loc[n]? = some a) (l : RepL K φ H ys ws) : SR K φ (upd H a (.lst ws)) (ph.set n (.lst ys)) ∧ Ext φ H φ (upd H a (.lst ws)) :=
  s.set ha ⟨ws, upd_same, l.store (φ.sub a (List.mem_of_getElem? ha)) fun b h => upd_ne h⟩
end

/-! ### methods of built-in types -/
def tyOk (T : String) (ph : PH) (p : PV) : Bool := match p with
  | .str _ => T == "str"
  | .lst _ => T == "list"
  | .loc n => (match ph[n]? with
    | some (.lst _) => T == "list"
    | some (.dct _ _) => T == "dict"
    | _ => false)
  | _ => false
theorem tyOk_ok {K : PySem.W.Frag} {φ : Phi} {H : Hp} {ph : PH} (s : SR K φ H ph) {T : String} {p : PV} {v : V} (r : Rep K φ H p v) (h : tyOk T ph p = true) : tyV K T v H := by
  cases p with
  | str z => rw [r.str']; exact eq_of_beq h
  | lst xs =>
    obtain ⟨a, vs, rfl, h1, l⟩ := r.sqL
    exact .inl ⟨eq_of_beq h, vs, h1⟩
  | loc n =>
    obtain ⟨a, ha, rfl⟩ := r.loc'
    unfold tyOk at h
    simp only at h
    cases q : ph[n]? with
    | none => rw [q] at h; cases h
    | some o =>
      rw [q] at h
      have ro := s.ob n a o ha q
      cases o with
      | lst xs => obtain ⟨vs, h1, _⟩ := ro; exact .inl ⟨eq_of_beq h, vs, .inl (.inl h1)⟩
      | dct ks xs => obtain ⟨kvs, h1, _⟩ := ro; exact .inr (.inr (.inl ⟨eq_of_beq h, .inl ⟨kvs, h1⟩⟩))
      | ins c fs => cases h
  | _ => cases h
abbrev MG := PH → PV → List PV → Option (PV × PH)
def MtZ (X : Cx) (id : String) (g : MG) : Prop :=
  MtR X id (fun x vs H Q => ∃ φ ph p ps v ph', SR X.K φ H ph ∧ Rep X.K φ H p x ∧ RepL X.K φ H ps vs ∧ g ph p ps = some (v, ph') ∧ ∀ φ' H' u, Ext φ H φ' H' → SR X.K φ' H' ph' → Rep X.K φ' H' v u → Q u H')
def mBM (T : String) (g : MG) (mo : DE) (as : DA) : DE := fun env ph => (mo env ph).bind fun p ph1 => if tyOk T ph1 p then (as env ph1).bind fun vs ph2 => match g ph2 p vs with
  | some q => .ok q.1 q.2
  | none => .bad else .bad
section
variable {X : Cx} {Wx : WX} {o a b e : Expr} {es : List Expr} {mo ma mb mi mv : DE} {as : DA} {pos apos cpos p : Pos} {T id : String} {name : Str} {g : MG}
theorem z_bm (pa : PlainAttrs T) (slot : Slot T name id) (hty : typeOf (.builtin id) = pure (.type "method_descriptor")) (hm : MtZ X id g) (ho : PE X o (rE X.K Wx mo)) (ha : PA X (e :: es) (rA X.K Wx as))
    (hbase : attributeBase o name X.env (eval o X.env) = eval o X.env := by rfl)
    (hfew : ((backTo cpos (starEach (e :: es) X.env)).all (fun x => !x.1) && (backToKw cpos (keywordEach [] X.env)).all (fun x => x.1.isSome)
      && decide ((e :: es).length + ([] : List Keyword).length + (if ([] : List Keyword).isEmpty then 0 else 1) < 30)) = true := by rfl)
    (hline : (apos.endLine == cpos.line) = true := by rfl) (hs : starEach (e :: es) X.env = (false, eval e X.env) :: starEach es X.env := by rfl) (hplain : (backTo cpos (starEach es X.env)).any (·.1) = false := by rfl) :
    PE X (.Call (.Attribute o name apos) (e :: es) [] cpos) (rE X.K Wx (mBM T g mo as)) := by
  refine peW (pe_bm pa slot hty hm ho ha hbase hfew hline hs hplain) fun σ H Q h => ?_
  obtain ⟨φ, ph, env, sr, rs, o⟩ := h
  refine ⟨φ, ph, env, sr, rs, OutG.bind o fun x ph1 φ1 H1 u e1 s1 r1 o1 => ?_⟩
  split at o1
  · rename_i ht
    refine ⟨tyOk_ok s1 r1 ht, φ1, ph1, env, s1, rs.mono e1, OutG.bind o1 fun vs ph2 φ2 H2 us e2 s2 r2 o2 => ?_⟩
    cases q : g ph2 x vs with
    | none => rw [q] at o2; exact o2.elim
    | some z =>
      rw [q] at o2
      exact ⟨φ2, ph2, x, vs, z.1, z.2, s2, r1.mono e2, r2, q, fun φ' H' u' e' s' r' => o2 φ' H' u' e' s' r'⟩
  · exact o1.elim
theorem z_bm0 (pa : PlainAttrs T) (slot : Slot T name id) (hty : typeOf (.builtin id) = pure (.type "method_descriptor")) (hm : MtZ X id g) (ho : PE X o (rE X.K Wx mo))
    (hbase : attributeBase o name X.env (eval o X.env) = eval o X.env := by rfl) (hline : (apos.endLine == cpos.line) = true := by rfl) : PE X (.Call (.Attribute o name apos) [] [] cpos) (rE X.K Wx (mBM T g mo mNil)) := by
  refine peW (pe_bm0 pa slot hty hm ho hbase hline) fun σ H Q h => ?_
  obtain ⟨φ, ph, env, sr, rs, o⟩ := h
  refine ⟨φ, ph, env, sr, rs, OutG.bind o fun x ph1 φ1 H1 u e1 s1 r1 o1 => ?_⟩
  split at o1
  · rename_i ht
    refine ⟨tyOk_ok s1 r1 ht, ?_⟩
    unfold mNil at o1
    simp only [Res.bind] at o1
    cases q : g ph1 x [] with
    | none => rw [q] at o1; exact o1.elim
    | some z =>
      rw [q] at o1
      exact ⟨φ1, ph1, x, [], z.1, z.2, s1, r1, .nil, q, fun φ' H' u' e' s' r' => o1 φ' H' u' e' s' r'⟩
  · exact o1.elim
/-! append, extend, pop -/
def appendZ : MG := fun ph p vs => match p, vs with
  | .loc n, [v] => (match ph[n]? with
    | some (.lst xs) => if xs.length < sizeLine then some (.non, ph.set n (.lst (xs ++ [v]))) else none
    | _ => none)
  | _, _ => none
theorem mz_append : MtZ X "list.append" appendZ := by
  intro pins s σ H x vs v us Q I rx rv ⟨φ, ph, p, ps, z, ph', sr, rp, rl, e, kk⟩
  unfold appendZ at e
  split at e
  · split at e
    · rename_i n y xs hx
      split at e
      · rename_i hz
        cases e
        obtain ⟨t, ws, rfl, ha, h1, l⟩ := sr.lstAt rp hx
        obtain ⟨w, rfl, rw'⟩ := rl.one
        obtain ⟨s2, e2⟩ := sr.setL ha (l.append (.cons rw' .nil))
        exact mt_append pins s σ H _ _ v us Q I rx rv ⟨t, ws, w, rfl, rfl, h1, by rw [l.length]; exact hz, kk φ _ _ e2 s2 rep_non⟩
      · cases e
    · cases e
  · cases e
def extendZ : MG := fun ph p vs => match p, vs with
  | .loc n, [.lst ys] => (match ph[n]? with
    | some (.lst xs) => if xs.length + ys.length ≤ sizeLine then some (.non, ph.set n (.lst (xs ++ ys))) else none
    | _ => none)
  | _, _ => none
def popZ : MG := fun ph p vs => match p, vs with
  | .loc n, [] => (match ph[n]? with
    | some (.lst xs) => (match xs[xs.length - 1]? with
      | some y => some (y, ph.set n (.lst xs.dropLast))
      | none => none)
    | _ => none)
  | _, _ => none
theorem mz_pop : MtZ X "list.pop" popZ := by
  intro pins s σ H x vs v us Q I rx rv ⟨φ, ph, p, ps, z, ph', sr, rp, rl, e, kk⟩
  unfold popZ at e
  split at e
  · split at e
    · rename_i n xs hx
      split at e
      · rename_i y hy
        cases e
        obtain ⟨t, ws, rfl, ha, h1, l⟩ := sr.lstAt rp hx
        obtain ⟨w, hw, rw'⟩ := l.get hy
        have hd : RepL X.K φ H xs.dropLast ws.dropLast := by
          rw [List.dropLast_eq_take, List.dropLast_eq_take, l.length]
          exact l.take _
        obtain ⟨s2, e2⟩ := sr.setL ha hd
        refine mt_pop pins s σ H _ _ v us Q I rx rv ⟨t, ws, w, rfl, rl.inv0, h1, by rw [l.length]; exact hw, kk φ _ _ e2 s2 ?_⟩
        exact rw'.mono e2
      · cases e
    · cases e
  · cases e
/-! join, split -/
def strsOf : List PV → Option (List Str)
  | [] => some []
  | .str i :: r => (strsOf r).map (i :: ·)
  | _ => none
theorem strsOf_rep {K : PySem.W.Frag} {φ : Phi} {H : Hp} : ∀ {xs : List PV} {vs : List V} {ns : List Str}, RepL K φ H xs vs → strsOf xs = some ns → vs = ns.map V.str
  | [], vs, ns, h, e => by cases e; rw [h.inv0]; rfl
  | p :: xs, vs, ns, h, e => by
    obtain ⟨v, ws, rfl, h1, h2⟩ := h.inv
    cases p with
    | str i =>
      unfold strsOf at e
      cases q : strsOf xs with
      | none => rw [q] at e; cases e
      | some ms =>
        rw [q] at e
        cases e
        rw [h1.str', strsOf_rep h2 q]
        rfl
    | _ => cases e
theorem repL_strs {K : PySem.W.Frag} {φ : Phi} {H : Hp} : ∀ (ns : List Str), RepL K φ H (ns.map PV.str) (ns.map V.str)
  | [] => .nil
  | n :: ns => .cons rep_str (repL_strs ns)
def joinZ : MG := fun ph p vs => match p, vs with
  | .str a, [q] => (match (seqA ph q).bind strsOf with
    | some ys => if (ys.map (·.length)).sum + ys.length * a.length ≤ 16777216 then some (.str (Txt.join a ys), ph) else none
    | none => none)
  | _, _ => none
theorem mz_join : MtZ X "str.join" joinZ := by
  intro pins s σ H x vs v us Q I rx rv ⟨φ, ph, p, ps, z, ph', sr, rp, rl, e, kk⟩
  unfold joinZ at e
  split at e
  · rename_i a q
    split at e
    · rename_i ys hq
      split at e
      · rename_i hz
        cases e
        obtain ⟨w, rfl, rw'⟩ := rl.one
        cases q1 : seqA ph q with
        | none => rw [q1] at hq; cases hq
        | some zs =>
          rw [q1] at hq
          obtain ⟨t, ws, rfl, h1, l⟩ := seqA_ok sr rw' q1
          rw [strsOf_rep l hq] at h1
          exact mt_join pins s σ H _ _ v us Q I rx rv ⟨a, t, ys, rp.str', rfl, h1, hz, kk φ H _ Ext.refl sr rep_str⟩
      · cases e
    · cases e
  · cases e
def splitZ : MG := fun ph p vs => match p, vs with
  | .str a, [.str b] => if (b.length == 0) = false ∧ a.length + 2 ≤ sizeLine then some (.lst ((Txt.split a b).map .str), ph) else none
  | _, _ => none
theorem mz_split : MtZ X "str.split" splitZ := by
  intro pins s σ H x vs v us Q I rx rv ⟨φ, ph, p, ps, z, ph', sr, rp, rl, e, kk⟩
  unfold splitZ at e
  split at e
  · split at e
    · rename_i a b hz
      cases e
      obtain ⟨w, rfl, rw'⟩ := rl.one
      refine mt_split pins s σ H _ _ v us Q I rx rv ⟨a, b, rp.str', by rw [rw'.str'], hz.1, hz.2, fun t ht => ?_⟩
      obtain ⟨e4, s4, f4⟩ := sr.lstNew (repL_strs (Txt.split a b)) ht ht
      obtain ⟨φ5, e5, s5, r5⟩ := f4.rep sr e4 s4
      exact kk φ5 _ _ e5 s5 r5
    · cases e
  · cases e
/-! x[i] = v -/
def sSetIx (mo mi mv : DE) : DS := fun env ph => (mv env ph).st env fun v ph1 => (mo env ph1).st env fun p ph2 => (mi env ph2).st env fun q ph3 => match p, q with
  | .loc n, .int k => (match ph3[n]? with
    | some (.lst xs) => (match ixN xs.length k with
      | some j => .nx env (ph3.set n (.lst (xs.set j v)))
      | none => .bad)
    | _ => .bad)
  | _, _ => .bad
theorem z_setIx {i : Expr} {p2 : Pos} (hv : PE X e (rE X.K Wx mv)) (ho : PE X o (rE X.K Wx mo)) (hi : PE X i (rE X.K Wx mi)) (hs : swapsWithSole [.Subscript o i p2] e pos.line X.env = pure false := by rfl) (hw : swappedStores [.Subscript o i p2] e X.env = pure none := by rfl)
    (h1 : (assignEach [.Subscript o i p2] X.env).map (·.2) = [assign (.Subscript o i p2) X.env] := by rfl)
    (ha : ∀ v, assign (.Subscript o i p2) X.env v = (do
      let ov ← holding [v] (eval o X.env)
      let iv ← holding [v, ov] (eval i X.env)
      standAt p2
      holding [v, ov, iv] (setItem ov iv v)
      release [v, ov, iv] []) := by intro _; rfl) : PS X (.Assign [.Subscript o i p2] e pos) (rS X.K Wx (sSetIx mo mi mv)) := by
  refine psW (ps_asg hv (pg_sub ho hi set_list ha) hs hw h1) fun D σ H h => ?_
  obtain ⟨φ, ph, env, sr, rs, o⟩ := h
  refine ⟨φ, ph, env, sr, rs, OutS.ofE rs o fun v ph1 φ1 H1 u e1 s1 r1 rs1 o1 => ⟨φ1, ph1, env, s1, rs1, OutS.ofE rs1 o1 fun p ph2 φ2 H2 u2 e2 s2 r2 rs2 o2 => ⟨φ2, ph2, env, s2, rs2, OutS.ofE rs2 o2 fun q ph3 φ3 H3 u3 e3 s3 r3 rs3 o3 => ?_⟩⟩⟩
  split at o3
  · rename_i n k
    split at o3
    · rename_i xs hx
      split at o3
      · rename_i j hj
        obtain ⟨t, ws, rfl, ha, h1, l⟩ := s3.lstAt (r2.mono e3) hx
        obtain ⟨s4, e4⟩ := s3.setL ha (l.set j ((r1.mono e2).mono e3))
        exact ⟨t, ws, k, j, rfl, r3.int', h1, by rw [l.length]; exact hj, o3 φ3 _ σ e4 s4 (rs3.mono e4)⟩
      · exact o3.elim
    · exact o3.elim
  · exact o3.elim
/-! x += e, x -= e of ints -/
def sAug (g : PH → PV → PV → Option PV) (i : Nat) (m : DE) : DS := fun env ph => match env[i]? with
  | some (some x) => (m env ph).st env fun y ph1 => (match g ph1 x y with
    | some z => .nx (env.set i (some z)) ph1
    | none => .bad)
  | _ => .bad
def addI (_ : PH) : PV → PV → Option PV
  | .int i, .int j => some (.int (i + j))
  | _, _ => none
def IpZ (X : Cx) (op : Operator) (g : PH → PV → PV → Option PV) : Prop := PIp X op (fun x y H Q => ∃ φ ph p q v, SR X.K φ H ph ∧ Rep X.K φ H p x ∧ Rep X.K φ H q y ∧ g ph p q = some v ∧ ∀ φ' H' u, Ext φ H φ' H' → SR X.K φ' H' ph → Rep X.K φ' H' v u → Q u H')
theorem ipz_add : IpZ X .Add addI := by
  intro pins s σ H x y v u Q I rx ry ⟨φ, ph, p, q, z, sr, rp, rq, e, kk⟩
  unfold addI at e
  split at e <;> cases e
  exact ip_add pins s σ H x y v u Q I rx ry ⟨_, _, rp.int', rq.int', kk φ H _ Ext.refl sr rep_int⟩
theorem ipz_sub : IpZ X .Sub subZ := by
  intro pins s σ H x y v u Q I rx ry ⟨φ, ph, p, q, z, sr, rp, rq, e, kk⟩
  unfold subZ at e
  split at e <;> cases e
  exact ip_sub pins s σ H x y v u Q I rx ry ⟨_, _, rp.int', rq.int', kk φ H _ Ext.refl sr rep_int⟩
theorem z_aug {i : Nat} {x : Str} {op : Operator} {g : PH → PV → PV → Option PV} {pos' : Pos} (ho : IpZ X op g) (hN : X.N.Nodup) (hi : X.N[i]? = some x) (hx : Loc X.env.scope x) (he : PE X e (rE X.K Wx ma)) (hf : X.fn x = true ∨ X.env.scope.names.lookup x = some .local := by first | exact .inl rfl | exact .inr rfl | assumption) :
    PS X (.AugAssign (.Name x pos') op e pos) (rS X.K Wx (sAug g i ma)) := by
  refine psW (ps_aug hN hi hx he ho hf) fun D σ H h => ?_
  obtain ⟨φ, ph, env, sr, rs, o⟩ := h
  unfold sAug at o
  cases q : env[i]? with
  | none => rw [q] at o; exact o.elim
  | some y =>
    cases y with
    | none => rw [q] at o; exact o.elim
    | some y =>
      rw [q] at o
      obtain ⟨u, h1, h2⟩ := rs.at_ i y q
      refine ⟨u, h1, φ, ph, env, sr, rs, OutS.ofE rs o fun z ph1 φ1 H1 w e1 s1 r1 rs1 o1 => ?_⟩
      cases q2 : g ph1 y z with
      | none => rw [q2] at o1; exact o1.elim
      | some v =>
        rw [q2] at o1
        exact ⟨φ1, ph1, y, z, v, s1, h2.mono e1, r1, q2, fun φ' H' u' e' s' r' => o1 φ' H' _ e' s' ((rs1.mono e').set r')⟩
end
end OfP
/-! Layer Z, part 9: enumerate and zip over lists, tuples, texts. -/
namespace PySem
set_option maxHeartbeats 1000000 in
theorem OfP_meets_enum1 {v : Value} {o : Obj} {H : Heap → Prop} (B : Begins v o H) :
    Meets (Builtin.«enumerate.__new__» ⟨[.type "enumerate", v], []⟩) (fun _ R s => H s.heap ∧
      R (.ok (.ret (.ref (s.heap.push o).objs.size))) { s with heap := (s.heap.push o).push { cls := .type "enumerate", data := .fields #[.none, .bool false, .ref s.heap.objs.size, rawInt 0, .none, .none] } }) :=
  .of_wp fun prog w A R s h => by
    obtain ⟨hp, g, d, tk, os⟩ := s; obtain ⟨h1, h⟩ := h
    have hsub := sub_enumerate
    have q1 : ∀ {A' : Around} {E : Value → Shared → Prop} {Q : Value → Shared → Prop}, Q (.ref hp.objs.size) ⟨hp.push o, g, d, tk, os⟩ → wpAny (model prog w) A' (pyIter v) Q E ⟨hp, g, d, tk, os⟩ :=
      fun q => B.iter prog w _ _ ⟨hp, g, d, tk, os⟩ _ h1 q
    wp_walk using q1
    refine wpAny_stack_any fun st => wpAny_pure ?_
    split
    · rename_i c _ _ _ _ _
      cases (c == Value.type "enumerate")
      · wp_walk using q1
        exact ⟨_, rfl, h⟩
      · wp_walk using q1
        exact ⟨_, rfl, h⟩
    · wp_walk using q1
      exact ⟨_, rfl, h⟩
theorem OfP_enum1 {prog : Program} {w : World} {A : Around} {E : Value → Shared → Prop} {s : Shared} {v : Value} {o : Obj} {H : Heap → Prop} {Q : Value → Shared → Prop} (B : Begins v o H) (h1 : H s.heap)
    (h : ∀ h', IsEnum h' (s.heap.objs.size + 1) s.heap.objs.size 0 .none → h'.get? s.heap.objs.size = some o → h'.objs.size = s.heap.objs.size + 2 →
      (∀ b o, s.heap.get? b = some o → h'.get? b = some o) → Q (.ref (s.heap.objs.size + 1)) { s with heap := h' }) :
    wpAny (model prog w) A (call (.type "enumerate") [v]) Q E s := by
  refine callType_new F.called_enumerate (by decide) (F.typeCall_enumerate_1 _) (F.newCall_enumerate_1 _) (fun obj => F.args_object_init_2 obj _) F.entry_enumerate_new
    (OfP_meets_enum1 B) ⟨h1, ?_⟩
  have hz : (s.heap.push o).objs.size = s.heap.objs.size + 1 := Heap.size_push ..
  show _ ∧ _
  rw [hz]
  have he : IsEnum ((s.heap.push o).push { cls := .type "enumerate", data := .fields #[.none, .bool false, .ref s.heap.objs.size, rawInt 0, .none, .none] }) (s.heap.objs.size + 1) s.heap.objs.size 0 .none := by
    have := Heap.get?_push_size (s.heap.push o) (o := { cls := .type "enumerate", data := .fields #[.none, .bool false, .ref s.heap.objs.size, rawInt 0, .none, .none] }) rfl
    rw [hz] at this; exact this
  exact ⟨⟨_, he, rfl⟩, h _ he (Heap.get?_push_of_some _ (Heap.get?_push_size _ B.free)) (by rw [Heap.size_push, hz]) fun b o x => Heap.get?_push_of_some _ (Heap.get?_push_of_some _ x)⟩
end PySem
namespace OfP
open PySem PySem.Spec L2
open PyProof.Rows hiding St

/-- what an enumerate or a zip draws from -/
inductive Src where
  | lst (a : Addr) | tup (a : Addr) | txt (x : Str) (t : Tok)
def Src.val : Src → Value
  | .lst a => .ref a
  | .tup a => .ref a
  | .txt x t => .str x t
def Src.obj : Src → Obj
  | .lst a => { cls := .type "list_iterator", data := .fields #[.ref a, .int 0 0] }
  | .tup a => { cls := .type "tuple_iterator", data := .fields #[.ref a, .int 0 0] }
  | .txt x t => { cls := .type (strIterType x), data := .fields #[.str x t, .int 0 0] }
/-- the iterator's own state -/
def Src.tn (it : Addr) (i : Nat) (h : Heap) : Src → Prop
  | .lst a => h.IsListIter it a i
  | .tup a => h.IsTupleIter it a i
  | .txt x t => h.IsStrIter it (strIterType x) x t i
/-- the items, by the abstract heap -/
def Src.has (K : PySem.W.Frag) (H : Hp) (vs : List V) : Src → Prop
  | .lst a => SqL K H a vs
  | .tup a => SqT K H a vs
  | .txt x _ => vs = x.cps.toList.map fun c => V.str ⟨#[c]⟩
def Src.tail : Src → List Addr
  | .lst a => [a]
  | .tup a => [a]
  | .txt _ _ => []
def Src.data (h : Heap) (its : Array Value) : Src → Prop
  | .lst a => h.IsList a its
  | .tup a => h.IsTuple a its
  | .txt _ _ => True
section
variable {X : Cx} {pins : List (Addr × Obj)} {σ : St} {H : Hp} {s : Shared}
theorem Src.begins (k : Src) (I : Inv X pins σ H s) {vs : List V} (h : k.has X.K H vs) : ∃ Hk : Heap → Prop, Begins k.val k.obj Hk ∧ Hk s.heap ∧ ∀ b ∈ k.tail, b < s.heap.objs.size := by
  cases k with
  | lst a =>
    obtain ⟨its, r, p, z⟩ := I.list h
    refine ⟨_, begins_list a its.toArray, p.isList, fun b hb => ?_⟩
    have e : b = a := by simpa [Src.tail] using hb
    rw [e]
    obtain ⟨o, _, e1, _⟩ := p
    exact Heap.lt_size e1
  | tup a =>
    obtain ⟨its, r, p, z⟩ := I.tuple h
    refine ⟨_, begins_tuple a its.toArray, p, fun b hb => ?_⟩
    have e : b = a := by simpa [Src.tail] using hb
    rw [e]
    exact p.lt
  | txt x t => exact ⟨_, begins_text x t, trivial, fun b hb => by simp [Src.tail] at hb⟩
/-- it draws the items, from any state on -/
theorem Src.draws (k : Src) (A : Around) (hh : A.handled = none) (it : Addr) (I : Inv X pins σ H s) {vs : List V} (h : k.has X.K H vs) (hne : ∀ b ∈ k.tail, b ≠ it) :
    ∃ P St', Draws X.prog X.w A it (it :: k.tail) vs.length P St' ∧ (∀ i, k.tn it i s.heap → St' i s.heap) ∧ (∀ i h', St' i h' → k.tn it i h') ∧ ∀ i u, P i u → ∃ v, vs[i]? = some v ∧ RelV v u := by
  cases k with
  | lst a =>
    obtain ⟨its, r, p, z⟩ := I.list h
    have D := Draws.list (prog := X.prog) (w := X.w) (A := A) hh it a (hne a (by simp [Src.tail])) its.toArray
    rw [List.size_toArray, ← r.length] at D
    refine ⟨_, _, D, fun i st => ⟨st, p.isList⟩, fun i h' st => st.1, fun i u e => ?_⟩
    have e' : its[i]? = some u := by simpa using e
    have hi : i < vs.length := by rw [r.length]; exact (List.getElem?_eq_some_iff.mp e').1
    obtain ⟨u', e1, r1⟩ := r.get (List.getElem?_eq_getElem hi)
    rw [e'] at e1
    cases e1
    exact ⟨_, List.getElem?_eq_getElem hi, r1⟩
  | tup a =>
    obtain ⟨its, r, p, z⟩ := I.tuple h
    have D := Draws.tuple (prog := X.prog) (w := X.w) (A := A) hh it a (hne a (by simp [Src.tail])) its.toArray
    rw [List.size_toArray, ← r.length] at D
    refine ⟨_, _, D, fun i st => ⟨st, p⟩, fun i h' st => st.1, fun i u e => ?_⟩
    have e' : its[i]? = some u := by simpa using e
    have hi : i < vs.length := by rw [r.length]; exact (List.getElem?_eq_some_iff.mp e').1
    obtain ⟨u', e1, r1⟩ := r.get (List.getElem?_eq_getElem hi)
    rw [e'] at e1
    cases e1
    exact ⟨_, List.getElem?_eq_getElem hi, r1⟩
  | txt x t =>
    have hv : vs = x.cps.toList.map fun c => V.str ⟨#[c]⟩ := h
    have D := Draws.text (prog := X.prog) (w := X.w) (A := A) hh it x t
    have hl : vs.length = x.cps.size := by rw [hv]; simp
    rw [← hl] at D
    refine ⟨_, _, D, fun i st => st, fun i h' st => st, fun i u e => ?_⟩
    obtain ⟨c, u', e1, rfl⟩ := e
    refine ⟨.str ⟨#[c]⟩, ?_, ⟨_, rfl⟩⟩
    rw [hv, List.getElem?_map, Array.getElem?_toList, e1]
    rfl
theorem Src.tn_lt {k : Src} {it : Addr} {i : Nat} {h : Heap} (st : k.tn it i h) : it < h.objs.size := by
  cases k <;> (obtain ⟨o, e, _⟩ := st; exact Heap.lt_size e)
theorem Src.tn_obj {k : Src} {it : Addr} {i : Nat} {h : Heap} (st : k.tn it i h) : ∃ o, h.get? it = some o ∧ ∀ v, o.data ≠ .cell v := by
  cases k <;> (obtain ⟨o, e, _, d⟩ := st; exact ⟨o, e, fun v q => by rw [d] at q; cases q⟩)
theorem Src.tn_at {k : Src} {it : Addr} {i : Nat} {h h' : Heap} (st : k.tn it i h) (q : ∀ o, h.get? it = some o → h'.get? it = some o) : k.tn it i h' := by
  cases k with
  | lst a => exact Heap.IsListIter.at st q
  | tup a => exact Heap.IsTupleIter.at st q
  | txt x t => obtain ⟨o, e, r⟩ := st; exact ⟨o, q o e, r⟩
theorem Src.tn0 (k : Src) {it : Addr} {h : Heap} (e : h.get? it = some k.obj) : k.tn it 0 h := by
  cases k <;> exact ⟨_, e, rfl, rfl⟩
theorem Src.inj {k : Src} (I : Inv X pins σ H s) {vs ws : List V} (h : k.has X.K H vs) (h' : k.has X.K H ws) : vs = ws := by
  cases k with
  | lst a => exact I.list_inj h h'
  | tup a => exact I.tuple_inj h h'
  | txt x t => exact (show vs = _ from h).trans (show ws = _ from h').symm
end
/-! ### enumerate -/
def ItEn (K : PySem.W.Frag) (k : Src) : It :=
  ⟨fun i H => ∃ vs, k.has K H vs ∧ i < vs.length, fun i H x H' => ∃ T v, x = .ref T ∧ H T = none ∧ H' = upd H T (.tup [.int (i : Nat), v]) ∧ ∀ vs, k.has K H vs → vs[i]? = some v, fun i H => ∃ vs, k.has K H vs ∧ vs.length = i⟩
theorem turn_en {P : Program} {w : World} {K : PySem.W.Frag} {elts : List Expr} {kk : Nat} {tpos : Pos} (k : Src) (e it : Addr) (hne : e ≠ it) (hte : ∀ b ∈ k.tail, b ≠ e) (hti : ∀ b ∈ k.tail, b ≠ it) :
    Turn P w K (.Tuple elts kk tpos) (ItEn K k) [e, it] e (fun i h => (∃ old, IsEnum h e it ((i : Nat) : Int) old) ∧ k.tn it i h) where
  mem := by simp
  obj := fun i h st b hb => by
    obtain ⟨⟨old, he⟩, hi⟩ := st
    have e' : b = e ∨ b = it := by simpa using hb
    rcases e' with z | z
    · rw [z]; exact ⟨_, he, fun v q => nomatch q⟩
    · rw [z]; exact Src.tn_obj hi
  keep := fun i h h' st q => let ⟨⟨old, he⟩, hi⟩ := st; ⟨⟨old, q e (by simp) _ he⟩, Src.tn_at hi fun o x => q it (by simp) o x⟩
  item := by
    intro X hP hw hK hc i pins s σ H E I hf st hg
    subst hP hw hK
    obtain ⟨⟨old, he⟩, hit⟩ := st
    obtain ⟨vs, hq, hx⟩ := hg
    obtain ⟨P, St', D, d1, d2, d3⟩ := k.draws X.A.in1 (I.ok.hd hc) it I hq hti
    have hel : e < s.heap.objs.size := Heap.lt_size he
    have hil : it < s.heap.objs.size := Src.tn_lt hit
    refine wpAny_pyNext_enum_itemD D he (d1 i hit) hx hne (fun hm => ?_) fun u h' tk hu ho hit' hT hsz hk => ?_
    · rcases List.mem_cons.mp hm with z | z
      · exact hne z
      · exact hte e z rfl
    obtain ⟨v, hv, rv⟩ := d3 i u hu
    refine ⟨_, rfl, wpAny_letOwnedTupleGo_enum (s := { s with heap := h', toks := tk + 1 }) ho fun h'' he' sb => ?_⟩
    have hT2 : h''.get? s.heap.objs.size = some { cls := .type "tuple", data := .seq #[.int i tk, u] } := (sb.2 _ (Nat.ne_of_gt hel)).trans hT
    have new : ObjOk X.prog X.w (upd H s.heap.objs.size (.tup [.int (i : Nat), v])) h'' s.heap.objs.size (.tup [.int (i : Nat), v]) :=
      ⟨by show 2 ≤ sizeLine; decide, [.int i tk, u], .cons ⟨_, rfl⟩ (.cons rv .nil), ⟨_, hT2, rfl, _, rfl⟩⟩
    have I1 : Inv X pins σ (upd H s.heap.objs.size (.tup [.int (i : Nat), v])) { s with heap := h'', toks := tk + 1 } :=
      I.turnedNew (ch := [e, it]) (fun b ob hb q => (sb.2 b (fun z => hb (by simp [z]))).trans (hk b ob (fun z => hb (by simp [z])) (fun z => hb (by simp [z])) q)) hf (Nat.le_refl _) new
    refine ⟨.ref s.heap.objs.size, _, I1, rfl, ⟨_, v, rfl, I.hok.fresh (Nat.le_refl _), rfl, fun ys hy => by rw [Src.inj I hy hq]; exact hv⟩, ⟨⟨u, ?_⟩, Src.tn_at (d2 _ _ hit') fun o q => (sb.2 it (Ne.symm hne)).trans q⟩, fun b hb => ?_⟩
    · have e1 : ((i + 1 : Nat) : Int) = (i : Int) + 1 := by omega
      rw [e1]; exact he'
    · have hb' : b < s.heap.objs.size := by
        have e' : b = e ∨ b = it := by simpa using hb
        rcases e' with z | z
        · rw [z]; exact hel
        · rw [z]; exact hil
      rw [upd_ne (Nat.ne_of_lt hb')]
      exact (hf b hb).1
  done := by
    intro X hP hw hK hc i pins s σ H E I hf st hg
    subst hP hw hK
    obtain ⟨⟨old, he⟩, hit⟩ := st
    obtain ⟨vs, hq, rfl⟩ := hg
    obtain ⟨P, St', D, d1, d2, d3⟩ := k.draws X.A.in1 (I.ok.hd hc) it I hq hti
    obtain ⟨f0, f1, f2, f3, f4, f5⟩ := hf it (by simp)
    exact wpAny_pyNext_enum_endD D he (d1 _ hit) fun h' eb => ⟨rfl, I.turned (t' := s.toks) (fun b o hb q => eb b o hb q) f0 f1 f3 f4 f5⟩
  self := fun A i s Q E st h => let ⟨⟨_, he⟩, _⟩ := st; wpAny_pyIter_enum he h
/-- a value as a source -/
def IsSrc (K : PySem.W.Frag) (H : Hp) (v : V) (k : Src) : Prop := match k with
  | .lst a => v = .ref a
  | .tup a => v = .ref a
  | .txt x _ => v = .str x
def iEn (K : PySem.W.Frag) (ta : TA) : TI := fun σ H R => ta σ H fun vs H1 => ∃ v xs, vs = [v] ∧
  ((∃ a, v = .ref a ∧ SqL K H1 a xs ∧ R (ItEn K (.lst a)) H1) ∨ (∃ a, v = .ref a ∧ SqT K H1 a xs ∧ R (ItEn K (.tup a)) H1) ∨ ∃ x, v = .str x ∧ ∀ t, R (ItEn K (.txt x t)) H1)
theorem pi_en {X : Cx} {e : Expr} {ta : TA} {p pos tpos : Pos} {elts : List Expr} {kk : Nat} (hg : Gl X "enumerate") (hm : X.mg "enumerate" = none) (ha : PA X [e] ta) (hs : starEach [e] X.env = [(false, eval e X.env)] := by rfl) :
    PI X (.Tuple elts kk tpos) (.Call (.Name "enumerate" p) [e] [] pos) (iEn X.K ta) := by
  refine ⟨fun pins s σ H R I h => ?_⟩
  refine Call_ (ld_blt I hg hm boot_enumerate (PyProof.Rows.callWith_type1 (thn (ha.run pos pins s σ H _ I h) fun us s1 ⟨vs, H1, I1, r1, q1⟩ => ?_) hs rfl))
  obtain ⟨v, xs, ex, q⟩ := q1
  subst ex
  cases r1 with
  | cons r rr =>
    cases rr
    have key : ∀ (k : Src) (ys : List V) (u : Value), u = k.val → k.has X.K H1 ys → R (ItEn X.K k) H1 → wpAny (model X.prog X.w) X.A (call (.type "enumerate") [u]) (fun v s2 => wpAny (model X.prog X.w) X.A (pyIter v) (PIE X pins σ (.Tuple elts kk tpos) R) X.xe s2) X.xe s1 := by
      intro k ys u eu hk hR
      subst eu
      obtain ⟨Hk, B, b1, b2⟩ := k.begins I1 hk
      refine OfP_enum1 B b1 fun h' he hit hsz hkp => wpAny_pyIter_enum he ?_
      have I2 : Inv X pins σ H1 { s1 with heap := h' } := I1.kept (t' := s1.toks) hkp
      refine ⟨s1.heap.objs.size + 1, [s1.heap.objs.size + 1, s1.heap.objs.size], _, _, H1, rfl, I2, turn_en k (s1.heap.objs.size + 1) s1.heap.objs.size (Nat.succ_ne_self _) (fun b hb => Nat.ne_of_lt (Nat.lt_succ_of_lt (b2 b hb))) (fun b hb => Nat.ne_of_lt (b2 b hb)), ⟨⟨.none, he⟩, k.tn0 hit⟩, fun b hb => ?_, hR⟩
      have e' : b = s1.heap.objs.size + 1 ∨ b = s1.heap.objs.size := by simpa using hb
      have hle : s1.heap.objs.size ≤ b := by
        rcases e' with z | z
        · rw [z]; exact Nat.le_add_right _ _
        · rw [z]; exact Nat.le_refl _
      exact I1.fpOk hle (I1.hok.fresh hle)
    rcases q with ⟨a, rfl, hq, hR⟩ | ⟨a, rfl, hq, hR⟩ | ⟨x, rfl, hR⟩
    · exact key (.lst a) xs _ r hq hR
    · exact key (.tup a) xs _ r hq hR
    · obtain ⟨t, rfl⟩ := r
      exact key (.txt x t) _ _ rfl rfl (hR t)
/-! ### zip of two -/
def ItZp (K : PySem.W.Frag) (k k2 : Src) : It :=
  ⟨fun i H => ∃ vs ws, k.has K H vs ∧ k2.has K H ws ∧ i < vs.length ∧ i < ws.length, fun i H x H' => ∃ T v w, x = .ref T ∧ H T = none ∧ H' = upd H T (.tup [v, w]) ∧ (∀ vs, k.has K H vs → vs[i]? = some v) ∧ ∀ ws, k2.has K H ws → ws[i]? = some w,
    fun i H => ∃ vs ws, k.has K H vs ∧ k2.has K H ws ∧ i ≤ vs.length ∧ i ≤ ws.length ∧ (i = vs.length ∨ i = ws.length)⟩
theorem turn_zp {P : Program} {w : World} {K : PySem.W.Frag} {elts : List Expr} {kk : Nat} {tpos : Pos} (k k2 : Src) {z TI TO i1 i2 : Addr} (S : ZipSep2 z TI TO i1 i2 (i1 :: k.tail) (i2 :: k2.tail)) (hi1 : ∀ b ∈ k.tail, b ≠ i1) (hi2 : ∀ b ∈ k2.tail, b ≠ i2) :
    Turn P w K (.Tuple elts kk tpos) (ItZp K k k2) [z, TI, TO, i1, i2] z (fun i h => IsZip h z TI TO .none ∧ IsTupOf2 h TI (.ref i1) (.ref i2) ∧ (∃ x y, IsTupOf2 h TO x y) ∧ k.tn i1 i h ∧ k2.tn i2 i h) where
  mem := by simp
  obj := fun i h st c hc => by
    obtain ⟨hz, hTI, ⟨x, y, hTO⟩, h1, h2⟩ := st
    have e' : c = z ∨ c = TI ∨ c = TO ∨ c = i1 ∨ c = i2 := by simpa using hc
    rcases e' with q | q | q | q | q
    · rw [q]; exact ⟨_, hz, fun v q => nomatch q⟩
    · rw [q]; exact ⟨_, hTI, fun v q => nomatch q⟩
    · rw [q]; exact ⟨_, hTO, fun v q => nomatch q⟩
    · rw [q]; exact Src.tn_obj h1
    · rw [q]; exact Src.tn_obj h2
  keep := fun i h h' st q => by
    obtain ⟨hz, hTI, ⟨x, y, hTO⟩, h1, h2⟩ := st
    exact ⟨q z (by simp) _ hz, q TI (by simp) _ hTI, ⟨x, y, q TO (by simp) _ hTO⟩, Src.tn_at h1 fun o x => q i1 (by simp) o x, Src.tn_at h2 fun o x => q i2 (by simp) o x⟩
  item := by
    intro X hP hw hK hc i pins s σ H E I hf st hg
    subst hP hw hK
    obtain ⟨hz, hTI, ⟨x0, y0, hTO⟩, h1, h2⟩ := st
    obtain ⟨vs, ws, hq1, hq2, hl1, hl2⟩ := hg
    obtain ⟨P1, St1, D1, d1, d2, d3⟩ := k.draws X.A.in1 (I.ok.hd hc) i1 I hq1 hi1
    obtain ⟨P2, St2, D2, c1, c2, c3⟩ := k2.draws X.A.in1 (I.ok.hd hc) i2 I hq2 hi2
    have hzl : z < s.heap.objs.size := Heap.lt_size hz
    refine wpAny_pyNext_zipD2_item S D1 D2 hz hTI hTO (d1 i h1) (c1 i h2) hl1 hl2 fun u1 u2 h' tk p1 p2 z' TO' h1' h2' hT hsz hk => ?_
    obtain ⟨v1, e1, r1⟩ := d3 i u1 p1
    obtain ⟨v2, e2, r2⟩ := c3 i u2 p2
    refine ⟨_, rfl, wpAny_letOwnedTupleGo_zip (s := { s with heap := h', toks := tk }) z' fun h'' z'' sb => ?_⟩
    have hT2 : h''.get? s.heap.objs.size = some { cls := .type "tuple", data := .seq #[u1, u2] } := (sb.2 _ (Nat.ne_of_gt hzl)).trans hT
    have new : ObjOk X.prog X.w (upd H s.heap.objs.size (.tup [v1, v2])) h'' s.heap.objs.size (.tup [v1, v2]) :=
      ⟨by show 2 ≤ sizeLine; decide, [u1, u2], .cons r1 (.cons r2 .nil), ⟨_, hT2, rfl, _, rfl⟩⟩
    have I1 : Inv X pins σ (upd H s.heap.objs.size (.tup [v1, v2])) { s with heap := h'', toks := tk } :=
      I.turnedNew (ch := [z, TI, TO, i1, i2]) (fun c o hb q => (sb.2 c (fun q' => hb (by simp [q']))).trans (hk c o (fun q' => hb (by simp [q'])) (fun q' => hb (by simp [q'])) (fun q' => hb (by simp [q'])) (fun q' => hb (by simp [q'])) q)) hf (Nat.le_refl _) new
    refine ⟨.ref s.heap.objs.size, _, I1, rfl, ⟨_, v1, v2, rfl, I.hok.fresh (Nat.le_refl _), rfl, fun l hl => by rw [Src.inj I hl hq1]; exact e1, fun l hl => by rw [Src.inj I hl hq2]; exact e2⟩, ⟨z'', ?_, ⟨u1, u2, ?_⟩, ?_, ?_⟩, fun c hcm => ?_⟩
    · exact (sb.2 _ S.TIz).trans (hk _ _ S.TIz S.TITO S.TIi1 S.TIi2 hTI)
    · exact (sb.2 _ S.TOz).trans TO'
    · exact Src.tn_at (d2 _ _ h1') fun o q => (sb.2 _ S.zi1.symm).trans q
    · exact Src.tn_at (c2 _ _ h2') fun o q => (sb.2 _ S.zi2.symm).trans q
    · have hlt : c < s.heap.objs.size := by
        have e' : c = z ∨ c = TI ∨ c = TO ∨ c = i1 ∨ c = i2 := by simpa using hcm
        rcases e' with q | q | q | q | q
        · rw [q]; exact hzl
        · rw [q]; exact Heap.lt_size hTI
        · rw [q]; exact Heap.lt_size hTO
        · rw [q]; exact Src.tn_lt h1
        · rw [q]; exact Src.tn_lt h2
      rw [upd_ne (Nat.ne_of_lt hlt)]
      exact (hf c hcm).1
  done := by
    intro X hP hw hK hc i pins s σ H E I hf st hg
    subst hP hw hK
    obtain ⟨hz, hTI, ⟨x0, y0, hTO⟩, h1, h2⟩ := st
    obtain ⟨vs, ws, hq1, hq2, hl1, hl2, hend⟩ := hg
    obtain ⟨P1, St1, D1, d1, d2, d3⟩ := k.draws X.A.in1 (I.ok.hd hc) i1 I hq1 hi1
    obtain ⟨P2, St2, D2, c1, c2, c3⟩ := k2.draws X.A.in1 (I.ok.hd hc) i2 I hq2 hi2
    exact wpAny_pyNext_zipD2_end S D1 D2 hz hTI hTO (d1 i h1) (c1 i h2) hl1 hl2 hend fun h' tk hk => ⟨rfl, I.turnedL (ch := [z, TI, TO, i1, i2]) (fun c o hb q =>
      hk c o (fun q' => hb (by simp [q'])) (fun q' => hb (by simp [q'])) (fun q' => hb (by simp [q'])) (fun q' => hb (by simp [q'])) q) hf⟩
  self := fun A i s Q E st h => wpAny_pyIter_zip st.1 h
/-- what one value draws from -/
def SrcOk (K : PySem.W.Frag) (H : Hp) (v : V) (k : Tok → Src) (xs : List V) : Prop := (∃ a, v = .ref a ∧ k = (fun _ => .lst a) ∧ SqL K H a xs) ∨ (∃ a, v = .ref a ∧ k = (fun _ => .tup a) ∧ SqT K H a xs) ∨ ∃ x, v = .str x ∧ k = .txt x ∧ xs = x.cps.toList.map fun c => V.str ⟨#[c]⟩
theorem SrcOk.val {K : PySem.W.Frag} {H : Hp} {v : V} {k : Tok → Src} {xs : List V} {u : Value} (h : SrcOk K H v k xs) (r : RelV v u) : ∃ t, u = (k t).val ∧ (k t).has K H xs := by
  rcases h with ⟨a, rfl, rfl, h⟩ | ⟨a, rfl, rfl, h⟩ | ⟨x, rfl, rfl, h⟩
  · exact ⟨0, r, h⟩
  · exact ⟨0, r, h⟩
  · obtain ⟨t, rfl⟩ := r
    exact ⟨t, rfl, h⟩
def iZp (K : PySem.W.Frag) (ta : TA) : TI := fun σ H R => ta σ H fun vs H1 => ∃ v1 v2 k1 k2 xs ys, vs = [v1, v2] ∧ SrcOk K H1 v1 k1 xs ∧ SrcOk K H1 v2 k2 ys ∧ ∀ t1 t2, R (ItZp K (k1 t1) (k2 t2)) H1
theorem pi_zp {X : Cx} {e e2 : Expr} {ta : TA} {p pos tpos : Pos} {elts : List Expr} {kk : Nat} (hg : Gl X "zip") (hm : X.mg "zip" = none) (ha : PA X [e, e2] ta)
    (hs : starEach [e, e2] X.env = (false, eval e X.env) :: starEach [e2] X.env := by rfl) (hpl : (backTo pos (starEach [e2] X.env)).any (·.1) = false := by rfl) :
    PI X (.Tuple elts kk tpos) (.Call (.Name "zip" p) [e, e2] [] pos) (iZp X.K ta) := by
  refine ⟨fun pins s σ H R I h => ?_⟩
  refine Call_ (ld_blt I hg hm PyProof.Rows.boot_zip (PyProof.Rows.callWith_type1 (thn (ha.run pos pins s σ H _ I h) fun us s1 ⟨vs, H1, I1, r1, q1⟩ => ?_) hs hpl))
  obtain ⟨v1, v2, k1, k2, xs, ys, ex, o1, o2, hR⟩ := q1
  subst ex
  obtain ⟨u1, u2, rfl, ru1, ru2⟩ := vals2 r1
  obtain ⟨t1, rfl, h1⟩ := o1.val ru1
  obtain ⟨t2, rfl, h2⟩ := o2.val ru2
  obtain ⟨Hk1, B1, b1, n1⟩ := (k1 t1).begins I1 h1
  obtain ⟨Hk2, B2, b2, n2⟩ := (k2 t2).begins I1 h2
  refine zip_begins2 B1 B2 b1 b2 fun h' hz hTI hTO ho1 ho2 hsz hkp => wpAny_pyIter_zip hz ?_
  have I2 : Inv X pins σ H1 { s1 with heap := h' } := I1.kept (t' := s1.toks) hkp
  refine ⟨s1.heap.objs.size + 4, [s1.heap.objs.size + 4, s1.heap.objs.size + 2, s1.heap.objs.size + 3, s1.heap.objs.size, s1.heap.objs.size + 1], _, _, H1, rfl, I2, turn_zp (k1 t1) (k2 t2) (zip_sep2 n1 n2) (fun b hb => Nat.ne_of_lt (n1 b hb)) (fun b hb => Nat.ne_of_lt (Nat.lt_succ_of_lt (n2 b hb))), ⟨hz, hTI, ⟨_, _, hTO⟩, Src.tn0 _ ho1, Src.tn0 _ ho2⟩, fun b hb => ?_, hR t1 t2⟩
  have e' : b = s1.heap.objs.size + 4 ∨ b = s1.heap.objs.size + 2 ∨ b = s1.heap.objs.size + 3 ∨ b = s1.heap.objs.size ∨ b = s1.heap.objs.size + 1 := by simpa using hb
  have hle : s1.heap.objs.size ≤ b := by
    rcases e' with z | z | z | z | z <;> rw [z] <;> first | exact Nat.le_refl _ | exact Nat.le_add_right _ _
  exact I1.fpOk hle (I1.hok.fresh hle)
end OfP
/-! Layer Z, part 10: enumerate, zip, sorted, lists. -/
namespace OfP
open PySem PySem.Spec L2
open PyProof.Rows hiding St

/-! ### sources -/
def srcV (ph : PH) (p : PV) : Option ItV := match p with
  | .lst xs => some ⟨xs, []⟩
  | .tup xs => some ⟨xs, []⟩
  | .str z => some ⟨z.cps.toList.map fun c => .str ⟨#[c]⟩, []⟩
  | .loc n => (match ph[n]? with
    | some (.lst xs) => some ⟨xs, [(n, xs)]⟩
    | _ => none)
  | _ => none
def Src.Per (K : PySem.W.Frag) (φ : Phi) (H : Hp) (it : ItV) (k : Src) : Prop := ∀ φ' H' ph', Ext φ H φ' H' → SR K φ' H' ph' → it.chk ph' → ∃ vs, k.has K H' vs ∧ RepL K φ' H' it.items vs
theorem repL_signs {K : PySem.W.Frag} {φ : Phi} {H : Hp} (l : List Nat) : RepL K φ H (l.map fun c => PV.str ⟨#[c]⟩) (l.map fun c => V.str ⟨#[c]⟩) := by
  induction l with
  | nil => exact .nil
  | cons c l ih => exact .cons rep_str ih
theorem srcV_ok {K : PySem.W.Frag} {φ : Phi} {H : Hp} {ph : PH} (s : SR K φ H ph) {p : PV} {v : V} {it : ItV} (r : Rep K φ H p v) (e : srcV ph p = some it) : ∃ kf vs, SrcOk K H v kf vs ∧ ∀ t, (kf t).Per K φ H it := by
  unfold srcV at e
  split at e
  · cases e
    obtain ⟨a, vs, rfl, hn, hr, l⟩ := r.lst'
    exact ⟨_, vs, .inl ⟨a, rfl, rfl, .inl (.inl hr)⟩, fun t φ' H' ph' e' _ _ => ⟨vs, .inl (e'.rd (.inl hr) hn).1, l.mono e'⟩⟩
  · cases e
    unfold Rep at r
    obtain ⟨a, vs, rfl, hd, l⟩ := r
    exact ⟨_, vs, .inr (.inl ⟨a, rfl, rfl, sqT_keep hd Ext.refl⟩), fun t φ' H' ph' e' _ _ => ⟨vs, sqT_keep hd e', l.mono e'⟩⟩
  · cases e
    rename_i z
    exact ⟨_, _, .inr (.inr ⟨z, r.str', rfl, rfl⟩), fun t φ' H' ph' e' _ _ => ⟨_, rfl, repL_signs _⟩⟩
  · rename_i n
    split at e
    · rename_i xs hx
      cases e
      obtain ⟨a, vs, rfl, ha, h1, l⟩ := s.lstAt r hx
      refine ⟨_, vs, .inl ⟨a, rfl, rfl, .inl (.inl h1)⟩, fun t φ' H' ph' e' s' c => ?_⟩
      have hc : ph'[n]? = some (.lst xs) := c (n, xs) (by simp)
      obtain ⟨ψ, e2, _⟩ := e'.ext
      have ha' : φ'.loc[n]? = some a := by rw [e2, List.getElem?_append_left (List.getElem?_eq_some_iff.mp ha).1]; exact ha
      obtain ⟨ws, q1, q2⟩ := s'.ob n a _ ha' hc
      exact ⟨ws, .inl (.inl q1), q2⟩
    · cases e
  · cases e
def enumP (xs : List PV) : List PV := xs.zipIdx.map fun q => .tup [.int (q.2 : Nat), q.1]
def zipP (xs ys : List PV) : List PV := (xs.zip ys).map fun q => .tup [q.1, q.2]
theorem rep_tup2 {K : PySem.W.Frag} {φ : Phi} {H H' : Hp} {ph : PH} {p q : PV} {v w : V} {T : Addr} (s : SR K φ H ph) (hp : Rep K φ H p v) (hq : Rep K φ H q w) (hT : H T = none) (eH : H' = upd H T (.tup [v, w])) :
    ∃ φ', Ext φ H φ' H' ∧ SR K φ' H' ph ∧ Rep K φ' H' (.tup [p, q]) (.ref T) := by
  subst eH
  exact s.tupNew (.cons hp (.cons hq .nil)) hT
theorem itz_En {K : PySem.W.Frag} {φ : Phi} {H : Hp} {it : ItV} {k : Src} (pr : k.Per K φ H it) : ItZ K φ H ⟨enumP it.items, it.gd⟩ (ItEn K k) where
  go := fun i φ' H' ph' e s c hi => by
    obtain ⟨vs, h1, h2⟩ := pr φ' H' ph' e s c
    refine ⟨vs, h1, ?_⟩
    rw [h2.length]
    simpa [enumP] using hi
  yld := fun i p φ' H' ph' x H'' e s c hi y => by
    obtain ⟨vs, h1, h2⟩ := pr φ' H' ph' e s c
    obtain ⟨T, v, rfl, hT, eH, hv⟩ := (show ∃ T v, x = .ref T ∧ H' T = none ∧ H'' = upd H' T (.tup [.int (i : Nat), v]) ∧ ∀ vs, k.has K H' vs → vs[i]? = some v from y)
    have hv := hv vs h1
    unfold enumP at hi
    rw [List.getElem?_map, List.getElem?_zipIdx] at hi
    cases q : it.items[i]? with
    | none => rw [q] at hi; cases hi
    | some u =>
      rw [q] at hi
      simp at hi
      obtain ⟨v', e1, r⟩ := h2.get q
      rw [hv] at e1
      cases e1
      rw [← hi]
      exact rep_tup2 s rep_int r hT eH
  stop := fun φ' H' ph' e s c => by
    obtain ⟨vs, h1, h2⟩ := pr φ' H' ph' e s c
    exact ⟨vs, h1, by rw [h2.length]; simp [enumP]⟩
theorem itz_Zp {K : PySem.W.Frag} {φ : Phi} {H : Hp} {it it2 : ItV} {k k2 : Src} (pr : k.Per K φ H it) (pr2 : k2.Per K φ H it2) : ItZ K φ H ⟨zipP it.items it2.items, it.gd ++ it2.gd⟩ (ItZp K k k2) where
  go := fun i φ' H' ph' e s c hi => by
    obtain ⟨vs, h1, h2⟩ := pr φ' H' ph' e s fun g hg => c g (List.mem_append_left _ hg)
    obtain ⟨ws, h3, h4⟩ := pr2 φ' H' ph' e s fun g hg => c g (List.mem_append_right _ hg)
    have : i < min it.items.length it2.items.length := by simpa [zipP] using hi
    exact ⟨vs, ws, h1, h3, by rw [h2.length]; omega, by rw [h4.length]; omega⟩
  yld := fun i p φ' H' ph' x H'' e s c hi y => by
    obtain ⟨vs, h1, h2⟩ := pr φ' H' ph' e s fun g hg => c g (List.mem_append_left _ hg)
    obtain ⟨ws, h3, h4⟩ := pr2 φ' H' ph' e s fun g hg => c g (List.mem_append_right _ hg)
    obtain ⟨T, v, w, rfl, hT, eH, hv, hw⟩ := (show ∃ T v w, x = .ref T ∧ H' T = none ∧ H'' = upd H' T (.tup [v, w]) ∧ (∀ vs, k.has K H' vs → vs[i]? = some v) ∧ ∀ ws, k2.has K H' ws → ws[i]? = some w from y)
    have hv := hv vs h1
    have hw := hw ws h3
    obtain ⟨p1, e1, r1⟩ := h2.get' hv
    obtain ⟨p2, e2, r2⟩ := h4.get' hw
    have hp : p = .tup [p1, p2] := by
      unfold zipP at hi
      have hz : (it.items.zip it2.items)[i]? = some (p1, p2) := List.getElem?_zip_eq_some.mpr ⟨e1, e2⟩
      rw [List.getElem?_map, hz] at hi
      cases hi
      rfl
    rw [hp]
    exact rep_tup2 s r1 r2 hT eH
  stop := fun φ' H' ph' e s c => by
    obtain ⟨vs, h1, h2⟩ := pr φ' H' ph' e s fun g hg => c g (List.mem_append_left _ hg)
    obtain ⟨ws, h3, h4⟩ := pr2 φ' H' ph' e s fun g hg => c g (List.mem_append_right _ hg)
    have hl : (ItV.mk (zipP it.items it2.items) (it.gd ++ it2.gd)).items.length = min it.items.length it2.items.length := by simp [zipP]
    rw [hl]
    exact ⟨vs, ws, h1, h3, by rw [h2.length]; omega, by rw [h4.length]; omega, by rw [h2.length, h4.length]; omega⟩
def iEnumZ (as : DA) : DI := fun env ph => (as env ph).bind fun vs ph1 => match vs with
  | [p] => (match srcV ph1 p with
    | some it => .ok ⟨enumP it.items, it.gd⟩ ph1
    | none => .bad)
  | _ => .bad
def iZipZ (as : DA) : DI := fun env ph => (as env ph).bind fun vs ph1 => match vs with
  | [p, q] => (match srcV ph1 p, srcV ph1 q with
    | some it, some it2 => .ok ⟨zipP it.items it2.items, it.gd ++ it2.gd⟩ ph1
    | _, _ => .bad)
  | _ => .bad
section
variable {X : Cx} {Wx : WX} {e e2 a : Expr} {es : List Expr} {as : DA} {ma : DE} {p pos tpos : Pos} {elts : List Expr} {kk : Nat}
theorem z_ienum (hg : Gl X "enumerate") (hm : X.mg "enumerate" = none) (ha : PA X [e] (rA X.K Wx as)) (hs : starEach [e] X.env = [(false, eval e X.env)] := by rfl) : PI X (.Tuple elts kk tpos) (.Call (.Name "enumerate" p) [e] [] pos) (rI X.K Wx (iEnumZ as)) := by
  refine piW (pi_en hg hm ha hs) fun σ H Q h => ?_
  obtain ⟨φ, ph, env, sr, rs, o⟩ := h
  refine ⟨φ, ph, env, sr, rs, OutG.bind o fun vs ph1 φ1 H1 us e1 s1 r1 o1 => ?_⟩
  split at o1
  · rename_i q
    obtain ⟨v, rfl, rv⟩ := r1.one
    cases hq : srcV ph1 q with
    | none => rw [hq] at o1; exact o1.elim
    | some it =>
      rw [hq] at o1
      obtain ⟨kf, ws, so, pr⟩ := srcV_ok s1 rv hq
      rcases so with ⟨t, rfl, rfl, h⟩ | ⟨t, rfl, rfl, h⟩ | ⟨x, rfl, rfl, h⟩
      · exact ⟨_, ws, rfl, .inl ⟨t, rfl, h, o1 φ1 H1 _ Ext.refl s1 (itz_En (pr 0))⟩⟩
      · exact ⟨_, ws, rfl, .inr (.inl ⟨t, rfl, h, o1 φ1 H1 _ Ext.refl s1 (itz_En (pr 0))⟩)⟩
      · exact ⟨_, ws, rfl, .inr (.inr ⟨x, rfl, fun t => o1 φ1 H1 _ Ext.refl s1 (itz_En (pr t))⟩)⟩
  · exact o1.elim
theorem z_izip (hg : Gl X "zip") (hm : X.mg "zip" = none) (ha : PA X [e, e2] (rA X.K Wx as)) (hs : starEach [e, e2] X.env = (false, eval e X.env) :: starEach [e2] X.env := by rfl) (hpl : (backTo pos (starEach [e2] X.env)).any (·.1) = false := by rfl) :
    PI X (.Tuple elts kk tpos) (.Call (.Name "zip" p) [e, e2] [] pos) (rI X.K Wx (iZipZ as)) := by
  refine piW (pi_zp hg hm ha hs hpl) fun σ H Q h => ?_
  obtain ⟨φ, ph, env, sr, rs, o⟩ := h
  refine ⟨φ, ph, env, sr, rs, OutG.bind o fun vs ph1 φ1 H1 us e1 s1 r1 o1 => ?_⟩
  split at o1
  · rename_i q q2
    obtain ⟨v, w, rfl, rv, rw'⟩ := r1.two
    cases hq : srcV ph1 q with
    | none => rw [hq] at o1; exact o1.elim
    | some it =>
      cases hq2 : srcV ph1 q2 with
      | none => rw [hq, hq2] at o1; exact o1.elim
      | some it2 =>
        rw [hq, hq2] at o1
        obtain ⟨kf, ws, so, pr⟩ := srcV_ok s1 rv hq
        obtain ⟨kf2, ws2, so2, pr2⟩ := srcV_ok s1 rw' hq2
        exact ⟨v, w, kf, kf2, ws, ws2, rfl, so, so2, fun t1 t2 => o1 φ1 H1 _ Ext.refl s1 (itz_Zp (pr t1) (pr2 t2))⟩
  · exact o1.elim
/-! ### sorted -/
def encD (p : PV) : PyData := p.toD.getD .none
open Classical in
noncomputable def sortZ (ph : PH) : List PV → Option PV
  | [p] => (match seqL ph p with
    | some xs => if (∀ x ∈ xs, x.toD ≠ none ∧ (encD x).depth ≤ 64) ∧ PySem.W.AllAlike (xs.map encD) ∧ PySem.W.Sortable (xs.map encD) then some (.lst (xs.mergeSort (PySem.W.dataLe false encD))) else none
    | none => none)
  | _ => none
theorem each_rep {K : PySem.W.Frag} {φ : Phi} {H : Hp} : ∀ {xs : List PV} {vs : List V} {us : List Value}, RepL K φ H xs vs → Vals vs us → PySem.W.EachIs (fun (u : Value) (x : PV) => ∃ v, RelV v u ∧ Rep K φ H x v) us xs
  | [], vs, us, h, r => by rw [h.inv0] at r; cases r; exact .nil
  | x :: xs, vs, us, h, r => by
    obtain ⟨v, ws, rfl, h1, h2⟩ := h.inv
    cases r with
    | cons r1 r2 => exact .cons ⟨v, r1, h1⟩ (each_rep h2 r2)
theorem rep_each {K : PySem.W.Frag} {φ : Phi} {H : Hp} : ∀ {xs : List PV} {us : List Value}, PySem.W.EachIs (fun (u : Value) (x : PV) => ∃ v, RelV v u ∧ Rep K φ H x v) us xs → ∃ vs, Vals vs us ∧ RepL K φ H xs vs
  | _, _, .nil => ⟨[], .nil, .nil⟩
  | _, _, .cons h t => by
    obtain ⟨v, r1, r2⟩ := h
    obtain ⟨vs, h1, h2⟩ := rep_each t
    exact ⟨v :: vs, .cons r1 h1, .cons r2 h2⟩
theorem EachIs_imp {α β : Type} {R S : α → β → Prop} : ∀ {as : List α} {bs : List β}, PySem.W.EachIs R as bs → (∀ a b, b ∈ bs → R a b → S a b) → PySem.W.EachIs S as bs
  | _, _, .nil, _ => .nil
  | _, _, .cons h t, f => .cons (f _ _ List.mem_cons_self h) (EachIs_imp t fun a b hb => f a b (List.mem_cons_of_mem _ hb))
theorem cz_sorted (hu : X.A.units + 100 < cLine) : CallZ X (.builtin "sorted") sortZ := by
  intro pins s σ H xs us Q I r ⟨φ, ph, ps, z, sr, rl, e, kk⟩
  unfold sortZ at e
  split at e
  · rename_i p
    split at e
    · rename_i ys hq
      split at e
      · rename_i hc
        cases e
        obtain ⟨v, rfl, rp⟩ := rl.one
        obtain ⟨a, vs, rfl, h1, l⟩ := seqL_ok sr rp hq
        obtain ⟨its, rv, hl, hz⟩ := I.list h1
        rw [Vals.ref1 r]
        have er := each_rep l rv
        have her : PySem.W.EachIs (fun u x => ∃ as, Reads s.heap u (encD x) as) its ys := EachIs_imp er fun u x hx ⟨v, r1, r2⟩ => by
          cases q : x.toD with
          | none => exact absurd q (hc.1 x hx).1
          | some d =>
            have hd : encD x = d := by unfold encD; rw [q]; rfl
            rw [hd]
            exact Dp.reads I d v u (Rep.dp x v d r2 q) r1
        have hlen : ys.length = vs.length := l.length.symm
        refine PySem.W.sorted_data (R := fun u x => ∃ v, RelV v u ∧ Rep X.K φ H x v) hl.isList er her hc.2.1 hc.2.2 (by rw [hlen]; exact hz) (fun b hb => ?_) fun out ho he => ?_
        · have := (hc.1 b hb).2
          omega
        · obtain ⟨ws, w1, w2⟩ := rep_each he
          obtain ⟨ep, he'⟩ := PyProof.Rows.sortedAll_at s.heap its out.toArray
          have hf : H (s.heap.objs.size + 1) = none := I.hok.fresh (Nat.le_succ _)
          obtain ⟨e4, s4, f4⟩ := sr.lstNew w2 hf hf
          obtain ⟨φ5, e5, s5, r5⟩ := f4.rep sr e4 s4
          have hwl : ws.length ≤ sizeLine := by rw [w1.length, ho, hlen]; exact hz
          exact ⟨.ref _, upd H (s.heap.objs.size + 1) (.lst ws), I.laid (t' := s.toks) (fun _ _ => PyProof.Rows.sortedAll_old) (Nat.le_succ _) ⟨hwl, out, ep, w1, he'⟩, rfl, kk φ5 _ _ e5 s5 r5⟩
      · cases e
    · cases e
  · cases e
/-! ### extend by a list -/
theorem mz_extend : MtZ X "list.extend" extendZ := by
  intro pins s σ H x vs v us Q I rx rv ⟨φ, ph, p, ps, z, ph', sr, rp, rl, e, kk⟩
  unfold extendZ at e
  split at e
  · rename_i n ys
    split at e
    · rename_i xs hx
      split at e
      · rename_i hz
        cases e
        obtain ⟨t, ws, rfl, ha, h1, l⟩ := sr.lstAt rp hx
        obtain ⟨w, rfl, rw'⟩ := rl.one
        obtain ⟨b, zs, rfl, hn, hb, l2⟩ := rw'.lst'
        obtain ⟨s2, e2⟩ := sr.setL ha (l.append l2)
        exact mt_extend pins s σ H _ _ v us Q I rx rv ⟨t, b, ws, zs, rfl, rfl, h1, hb, by rw [l.length, l2.length]; exact hz, kk φ _ _ e2 s2 rep_non⟩
      · cases e
    · cases e
  · cases e
end
end OfP
/-! Layer Z, part 11: own classes, keyword calls. -/
namespace OfP
open PySem PySem.Spec L2
open PyProof.Rows hiding St

/-! ### calls without arguments, with keywords -/
section
variable {X : Cx} {Wx : WX} {k N n : Nat} {x : Str} {dv : List PV} {m : DF} {p pos apos : Pos} {e o : Expr} {es : List Expr} {kws : List Keyword} {as ak : DA} {mo mv : DE}
theorem z_call0 (c : Cal X.prog X.w X.K X.mg X.base k x dv N m) (hr : Room k X.A) (tk : Takes X Wx) (hg : Gl X x) (hdb : (x == ("__debug__" : Str)) = false := by decide) : PE X (.Call (.Name x p) [] [] pos) (rE X.K Wx (mCall N m dv mNil)) := by
  obtain ⟨f, fd, ps, ds, dvs, h1, h2, h3, h4, h5, h6, h7⟩ := c.ex
  refine ⟨fun pins s σ H Q I h => ?_⟩
  refine wpAny_Call_Name_kw (ld_glob I hg h1 ?_ hdb)
  refine PySem.W.callWith_K0 I.kIn h2 (run_fnSD (us := []) (vs := []) h3 hr h4 h5 (passAt tk σ) I .nil ?_)
  have h' := call_red (as := mNil) h6 h7 σ H Q h
  obtain ⟨φ, ph, env, sr, rs, o⟩ := h'
  exact o φ H [] Ext.refl sr .nil
/-- values in the order of the parameters -/
def permP (perm : List Nat) (vs : List PV) : List PV := perm.map fun i => vs.getD i .non
def permU (perm : List Nat) (us : List Value) : List Value := perm.map fun i => us.getD i .none
structure CalK (P : Program) (w : World) (K : PySem.W.Frag) (mg : Str → Option Value) (base : Heap) (k : Nat) (x : Str) (n : Nat) (ks : List Str) (perm : List Nat) (N : Nat) (m : DF) : Prop where
  ex : ∃ f fd ps, mg x = some (.ref f) ∧ PySem.W.keepIn K (.ref f) = true ∧ FnOk P w K mg base (L2.CX P w) k f fd ps (spZ K ps.length m) ∧ ps.length = N ∧
    ∀ (s : Shared) (us ws : List Value), us.length = n → ws.length = ks.length → BindsTo s fd ⟨us, ks.zip ws⟩ (ps.zip (permU perm (us ++ ws)))
def mCallK (n nk N : Nat) (m : DF) (perm : List Nat) (as ak : DA) : DE := fun env ph => (as env ph).bind fun vs ph1 => if vs.length = n then (ak env ph1).bind fun zs ph2 => if zs.length = nk ∧ perm.length = N then m (permP perm (vs ++ zs)) ph2 else .bad else .bad
theorem vals_perm {xs : List V} {us : List Value} (r : Vals xs us) (perm : List Nat) : Vals (perm.map fun i => xs.getD i .non) (permU perm us) := by
  unfold permU
  induction perm with
  | nil => exact .nil
  | cons i perm ih =>
    refine .cons ?_ ih
    show RelV (xs.getD i .non) (us.getD i .none)
    by_cases hi : i < xs.length
    · obtain ⟨u, e1, e2⟩ := r.get (List.getElem?_eq_getElem hi)
      have h1 : xs.getD i .non = xs[i] := by simp [List.getD, hi]
      have h2 : us.getD i .none = u := by simp [List.getD, e1]
      rw [h1, h2]; exact e2
    · have hi2 : ¬ i < us.length := by rw [← r.length]; exact hi
      have h1 : xs.getD i .non = .non := by simp [List.getD, hi]
      have h2 : us.getD i .none = .none := by simp [List.getD, hi2]
      rw [h1, h2]; rfl
theorem repL_perm {K : PySem.W.Frag} {φ : Phi} {H : Hp} {xs : List PV} {vs : List V} (r : RepL K φ H xs vs) (perm : List Nat) : RepL K φ H (permP perm xs) (perm.map fun i => vs.getD i .non) := by
  unfold permP
  induction perm with
  | nil => exact .nil
  | cons i perm ih =>
    refine .cons ?_ ih
    show Rep K φ H (xs.getD i .non) (vs.getD i .non)
    by_cases hi : i < xs.length
    · obtain ⟨u, e1, e2⟩ := r.get (List.getElem?_eq_getElem hi)
      have h1 : xs.getD i .non = xs[i] := by simp [List.getD, hi]
      have h2 : vs.getD i .non = u := by simp [List.getD, e1]
      rw [h1, h2]; exact e2
    · have hi2 : ¬ i < vs.length := by rw [r.length]; exact hi
      have h1 : xs.getD i .non = .non := by simp [List.getD, hi]
      have h2 : vs.getD i .non = .non := by simp [List.getD, hi2]
      rw [h1, h2]; exact rep_non
theorem pkW {X : Cx} {e : List Keyword} {t t' : TA} (h : PK X e t) (w : ∀ σ H Q, t' σ H Q → t σ H Q) : PK X e t' := ⟨fun p pins s σ H Q I q => h.run p pins s σ H Q I (w σ H Q q)⟩
theorem z_knil : PK X [] (rA X.K Wx mNil) := pkW pk_nil fun σ H Q h => by
  obtain ⟨φ, ph, env, sr, rs, o⟩ := h
  exact o φ H [] Ext.refl sr .nil
theorem z_kcons {nm : Option Str} {kpos : Pos} (ha : PE X e (rE X.K Wx mv)) (hr : PK X kws (rA X.K Wx ak)) : PK X (⟨nm, e, kpos⟩ :: kws) (rA X.K Wx (mCons mv ak)) := by
  refine pkW (pk_cons ha hr) fun σ H Q h => ?_
  obtain ⟨φ, ph, env, sr, rs, o⟩ := h
  refine ⟨φ, ph, env, sr, rs, OutG.bind o fun x ph1 φ1 H1 u e1 s1 r1 o1 => ⟨φ1, ph1, env, s1, rs.mono e1, OutG.bind o1 fun xs ph2 φ2 H2 us e2 s2 r2 o2 => ?_⟩⟩
  exact o2 φ2 H2 _ Ext.refl s2 (.cons (r1.mono e2) r2)
theorem run_fnK {f : Addr} {fd : FuncData} {ps ks : List Str} {perm : List Nat} {pins : List (Addr × Obj)} {σ : St} {H : Hp} {s : Shared} {Q : VK} {us ws : List Value} {vs zs : List V} (F : FnOk X.prog X.w X.K X.mg X.base (L2.CX X.prog X.w) k f fd ps (spZ X.K ps.length m)) (hr : Room k X.A)
    (hb : BindsTo s fd ⟨us, ks.zip ws⟩ (ps.zip (permU perm (us ++ ws)))) (tk : Takes X Wx) (I : Inv X pins σ H s) (r : Vals (vs ++ zs) (us ++ ws)) (h : spZ X.K ps.length m (perm.map fun i => (vs ++ zs).getD i .non) H Q (WE Wx σ)) : wpAny (model X.prog X.w) X.A (call (.ref f) us (ks.zip ws)) (EP X pins σ Q) X.xe s := by
  refine wpAny_call (codeAny_mono (F.run X.A X.stack s H ⟨us, ks.zip ws⟩ _ _ Q (WE Wx σ) hr I.env0 hb (vals_perm r perm) h) fun rr s' hq => ?_)
  cases rr with
  | error e => exact passAt tk σ pins H s e s' I hq
  | ok fl =>
    cases fl with
    | ret u => exact I.after hq
    | next => exact False.elim hq
    | brk => exact False.elim hq
    | cont => exact False.elim hq
/-- f(k = v, ..) -/
theorem z_callK0 {ks : List Str} {perm : List Nat} (c : CalK X.prog X.w X.K X.mg X.base k x 0 ks perm N m) (hr : Room k X.A) (tk : Takes X Wx) (hg : Gl X x) (hkw : PK X kws (rA X.K Wx ak)) (hall : (backToKw pos (keywordEach kws X.env)).all (·.1.isSome) = true := by rfl) (hks : (backToKw pos (keywordEach kws X.env)).filterMap (·.1) = ks := by rfl)
    (hdb : (x == ("__debug__" : Str)) = false := by decide) (hpl : ((backTo pos (starEach [] X.env)).any (·.1) || (backToKw pos (keywordEach kws X.env)).any (·.1.isNone)) = false := by rfl) :
    PE X (.Call (.Name x p) [] kws pos) (rE X.K Wx (mCallK 0 ks.length N m perm mNil ak)) := by
  obtain ⟨f, fd, ps, h1, h2, h3, h4, h5⟩ := c.ex
  refine ⟨fun pins s σ H Q I h => ?_⟩
  refine wpAny_Call_Name_kw (ld_glob I hg h1 ?_ hdb)
  obtain ⟨φ, ph, env, sr, rs, o⟩ := h
  have hk := hkw.run pos pins s σ H (fun zs H2 => zs.length = ks.length ∧ spZ X.K ps.length m (perm.map fun i => ([] ++ zs).getD i .non) H2 Q (WE Wx σ)) I ⟨φ, ph, env, sr, rs, OutG.bind (f := fun zs ph2 => if zs.length = ks.length ∧ perm.length = N then m (permP perm ([] ++ zs)) ph2 else .bad) o fun zs ph1 φ1 H1 us e1 s1 r1 o1 => ?_⟩
  · refine PySem.W.callWith_KW0 (h₀ := X.base) I.ok.mod.kin h2 hall (thn hk fun ws s2 ⟨zs, H2, I2, rz, l, q2⟩ => ⟨I2.kIn, ?_⟩) hpl
    rw [hks]
    exact run_fnK (us := []) (vs := []) h3 hr (h5 s2 [] ws rfl (rz.length.symm.trans l)) tk I2 rz q2
  · split at o1
    · rename_i c1
      exact ⟨by rw [r1.length]; exact c1.1, by simp [h4, c1.2], φ1, ph1, _, s1, repL_perm r1 perm, out_wx o1⟩
    · exact o1.elim
/-- f(e, .., k = v, ..) -/
theorem z_callK {ks : List Str} {perm : List Nat} (c : CalK X.prog X.w X.K X.mg X.base k x n ks perm N m) (hr : Room k X.A) (tk : Takes X Wx) (hg : Gl X x) (ha : PA X (e :: es) (rA X.K Wx as)) (hkw : PK X kws (rA X.K Wx ak)) (hall : (backToKw pos (keywordEach kws X.env)).all (·.1.isSome) = true := by rfl) (hks : (backToKw pos (keywordEach kws X.env)).filterMap (·.1) = ks := by rfl)
    (hdb : (x == ("__debug__" : Str)) = false := by decide) (he : starEach (e :: es) X.env = (false, eval e X.env) :: starEach es X.env := by rfl)
    (hpl : ((backTo pos (starEach (e :: es) X.env)).any (·.1) || (backToKw pos (keywordEach kws X.env)).any (·.1.isNone)) = false := by rfl) :
    PE X (.Call (.Name x p) (e :: es) kws pos) (rE X.K Wx (mCallK n ks.length N m perm as ak)) := by
  obtain ⟨f, fd, ps, h1, h2, h3, h4, h5⟩ := c.ex
  refine ⟨fun pins s σ H Q I h => ?_⟩
  refine wpAny_Call_Name_kw (ld_glob I hg h1 ?_ hdb)
  obtain ⟨φ, ph, env, sr, rs, o⟩ := h
  have hk := ha.run pos pins s σ H (fun vs H1 => vs.length = n ∧ rA X.K Wx ak σ H1 fun zs H2 => zs.length = ks.length ∧ spZ X.K ps.length m (perm.map fun i => (vs ++ zs).getD i .non) H2 Q (WE Wx σ)) I
    ⟨φ, ph, env, sr, rs, OutG.bind o fun vs ph1 φ1 H1 us e1 s1 r1 o1 => ?_⟩
  · refine PySem.W.callWith_KW (h₀ := X.base) I.ok.mod.kin h2 hall (thn hk fun us s1 ⟨vs, H1, I1, rv, l1, q1⟩ => thn (hkw.run pos pins s1 σ H1 _ I1 q1) fun ws s2 ⟨zs, H2, I2, rz, l2, q2⟩ => ⟨I2.kIn, ?_⟩) hpl he
    rw [hks]
    exact run_fnK h3 hr (h5 s2 us ws (rv.length.symm.trans l1) (rz.length.symm.trans l2)) tk I2 (rv.append rz) q2
  · split at o1
    · rename_i hln
      refine ⟨by rw [r1.length]; exact hln, φ1, ph1, env, s1, rs.mono e1, OutG.bind o1 fun zs ph2 φ2 H2 ws e2 s2 r2 o2 => ?_⟩
      split at o2
      · rename_i c1
        exact ⟨by rw [r2.length]; exact c1.1, by simp [h4, c1.2], φ2, ph2, _, s2, repL_perm ((r1.mono e2).append r2) perm, out_wx o2⟩
      · exact o2.elim
    · exact o1.elim
end

/-! ### instances -/
def putP (f : Str) (v : PV) : List (Str × PV) → List (Str × PV)
  | [] => [(f, v)]
  | (g, x) :: r => if g = f then (g, v) :: r else (g, x) :: putP f v r
theorem put_rel {K : PySem.W.Frag} {φ : Phi} {H : Hp} {f : Str} {p : PV} {v : V} (r : Rep K φ H p v) : ∀ {fs : List (Str × PV)} {ws : List (Str × V)}, ws.map (·.1) = fs.map (·.1) → RepL K φ H (fs.map (·.2)) (ws.map (·.2)) →
    (putF f v ws).map (·.1) = (putP f p fs).map (·.1) ∧ RepL K φ H ((putP f p fs).map (·.2)) ((putF f v ws).map (·.2))
  | [], [], _, _ => ⟨rfl, .cons r .nil⟩
  | [], _ :: _, h, _ => by simp at h
  | _ :: _, [], h, _ => by simp at h
  | (g, x) :: fs, (g', y) :: ws, h, l => by
    simp only [List.map_cons, List.cons.injEq] at h l
    obtain ⟨h1, h2⟩ := h
    subst h1
    obtain ⟨v', ws', e, r1, r2⟩ := l.inv
    cases e
    unfold putF putP
    by_cases hg : g' = f
    · rw [if_pos hg, if_pos hg]
      exact ⟨by simp [h2], .cons r r2⟩
    · rw [if_neg hg, if_neg hg]
      obtain ⟨k1, k2⟩ := put_rel r (fs := fs) (ws := ws) h2 r2
      exact ⟨by simp [k1], .cons r1 k2⟩
theorem lookup_rel {K : PySem.W.Frag} {φ : Phi} {H : Hp} {f : Str} : ∀ {fs : List (Str × PV)} {ws : List (Str × V)}, ws.map (·.1) = fs.map (·.1) → RepL K φ H (fs.map (·.2)) (ws.map (·.2)) →
    (∀ p, fs.lookup f = some p → ∃ v, ws.lookup f = some v ∧ Rep K φ H p v) ∧ (fs.lookup f = none → ws.lookup f = none)
  | [], [], _, _ => ⟨fun _ h => (nomatch h), fun _ => rfl⟩
  | [], _ :: _, h, _ => by simp at h
  | _ :: _, [], h, _ => by simp at h
  | (g, x) :: fs, (g', y) :: ws, h, l => by
    simp only [List.map_cons, List.cons.injEq] at h l
    obtain ⟨h1, h2⟩ := h
    subst h1
    obtain ⟨v', ws', e, r1, r2⟩ := l.inv
    cases e
    obtain ⟨k1, k2⟩ := lookup_rel (f := f) (fs := fs) (ws := ws) h2 r2
    rw [List.lookup_cons, List.lookup_cons]
    cases hg : (f == g') with
    | true => exact ⟨fun p hp => ⟨_, rfl, by cases hp; exact r1⟩, fun hn => by cases hn⟩
    | false => exact ⟨k1, k2⟩
theorem SR.insAt {K : PySem.W.Frag} {φ : Phi} {H : Hp} {ph : PH} (s : SR K φ H ph) {n : Nat} {c : Str} {fs : List (Str × PV)} {v : V} (h : Rep K φ H (.loc n) v) (e : ph[n]? = some (.ins c fs)) :
    ∃ a dx ws, v = .ref a ∧ φ.loc[n]? = some a ∧ H a = some (.ins (He.ga K c) dx ws) ∧ ws.map (·.1) = fs.map (·.1) ∧ RepL K φ H (fs.map (·.2)) (ws.map (·.2)) := by
  obtain ⟨a, h1, rfl⟩ := h.loc'
  obtain ⟨dx, ws, h2, h3, h4⟩ := s.ob n a _ h1 e
  exact ⟨a, dx, ws, rfl, h1, h2, h3, h4⟩
/-- an instance of the class c as it stands -/
def insV (c : Str) (ph : PH) (p : PV) : Option (Nat × List (Str × PV)) := match p with
  | .loc n => (match ph[n]? with
    | some (.ins c' fs) => if c' = c then some (n, fs) else none
    | _ => none)
  | _ => none
theorem insV_ok {c : Str} {ph : PH} {p : PV} {n : Nat} {fs : List (Str × PV)} (h : insV c ph p = some (n, fs)) : p = .loc n ∧ ph[n]? = some (.ins c fs) := by
  unfold insV at h
  split at h
  · rename_i m
    split at h
    · rename_i c' fs' q
      split at h
      · rename_i hc
        cases h
        subst hc
        exact ⟨rfl, q⟩
      · cases h
    · cases h
  · cases h
def mFld (c f : Str) (mo : DE) : DE := fun env ph => (mo env ph).bind fun p ph1 => match insV c ph1 p with
  | some q => .ofO (q.2.lookup f) ph1
  | none => .bad
def sSetFld (c f : Str) (mo mv : DE) : DS := fun env ph => (mv env ph).st env fun v ph1 => (mo env ph1).st env fun p ph2 => match insV c ph2 p with
  | some q => if q.2.length < 1000 then .nx env (ph2.set q.1 (.ins c (putP f v q.2))) else .bad
  | none => .bad
def sAugFld (g : PH → PV → PV → Option PV) (c f : Str) (mo mv : DE) : DS := fun env ph => (mo env ph).st env fun p ph1 => match insV c ph1 p with
  | some q => (match q.2.lookup f with
    | some x => (mv env ph1).st env fun y ph2 => (match g ph2 x y, insV c ph2 p with
      | some z, some q2 => if q2.2.length < 1000 then .nx env (ph2.set q2.1 (.ins c (putP f z q2.2))) else .bad
      | _, _ => .bad)
    | none => .bad)
  | none => .bad
section
variable {X : Cx} {Wx : WX} {k N n : Nat} {c f x m : Str} {dv : List PV} {mf : DF} {p pos apos : Pos} {e o : Expr} {es : List Expr} {as : DA} {mo mv : DE}
theorem z_fld (hc : Cls X.K (He.ga X.K c)) (hn : NoAttr X.K (He.ga X.K c) f) (he : PE X o (rE X.K Wx mo)) (hb : attributeBase o f X.env (eval o X.env) = eval o X.env := by rfl) : PE X (.Attribute o f pos) (rE X.K Wx (mFld c f mo)) := by
  refine peW (pe_fld he hb) fun σ H Q h => ?_
  obtain ⟨φ, ph, env, sr, rs, o⟩ := h
  refine ⟨φ, ph, env, sr, rs, OutG.bind o fun y ph1 φ1 H1 u e1 s1 r1 o1 => ?_⟩
  cases q : insV c ph1 y with
  | none => rw [q] at o1; exact o1.elim
  | some z =>
    rw [q] at o1
    obtain ⟨n', fs⟩ := z
    obtain ⟨rfl, hp⟩ := insV_ok q
    obtain ⟨a, dx, ws, rfl, h1, h2, h3, h4⟩ := s1.insAt r1 hp
    cases q2 : fs.lookup f with
    | none => simp only [q2] at o1; exact o1.elim
    | some v =>
      simp only [q2] at o1
      obtain ⟨w, w1, w2⟩ := (lookup_rel h3 h4).1 v q2
      exact ⟨a, _, dx, ws, w, rfl, h2, hc, hn, w1, o1 φ1 H1 w Ext.refl s1 w2⟩
theorem SR.setI {K : PySem.W.Frag} {φ : Phi} {H : Hp} {ph : PH} (s : SR K φ H ph) {n : Nat} {a : Addr} {c f : Str} {dx : Addr} {fs : List (Str × PV)} {ws : List (Str × V)} {q : PV} {v : V} (ha : φ.loc[n]? = some a) (h3 : ws.map (·.1) = fs.map (·.1)) (h4 : RepL K φ H (fs.map (·.2)) (ws.map (·.2))) (r : Rep K φ H q v) :
    SR K φ (upd H a (.ins (He.ga K c) dx (putF f v ws))) (ph.set n (.ins c (putP f q fs))) ∧ Ext φ H φ (upd H a (.ins (He.ga K c) dx (putF f v ws))) := by
  have hav := φ.sub a (List.mem_of_getElem? ha)
  obtain ⟨k1, k2⟩ := put_rel (f := f) r h3 h4
  exact s.set ha ⟨dx, _, upd_same, k1, k2.store hav fun b h => upd_ne h⟩
theorem z_setFld (hc : Cls X.K (He.ga X.K c)) (hn : NoAttr X.K (He.ga X.K c) f) {pos' : Pos} (ho : PE X o (rE X.K Wx mo)) (hv : PE X e (rE X.K Wx mv)) (hs : swapsWith e (some (.Attribute o f pos')) pos.line X.env = pure false := by rfl) : PS X (.Assign [.Attribute o f pos'] e pos) (rS X.K Wx (sSetFld c f mo mv)) := by
  refine psW (ps_fld ho hv hs) fun D σ H h => ?_
  obtain ⟨φ, ph, env, sr, rs, o⟩ := h
  refine ⟨φ, ph, env, sr, rs, OutS.ofE rs o fun v ph1 φ1 H1 u e1 s1 r1 rs1 o1 => ⟨φ1, ph1, env, s1, rs1, OutS.ofE rs1 o1 fun y ph2 φ2 H2 u2 e2 s2 r2 rs2 o2 => ?_⟩⟩
  cases q : insV c ph2 y with
  | none => rw [q] at o2; exact o2.elim
  | some z =>
    rw [q] at o2
    obtain ⟨n', fs⟩ := z
    obtain ⟨rfl, hp⟩ := insV_ok q
    obtain ⟨a, dx, ws, rfl, h1, h2, h3, h4⟩ := s2.insAt r2 hp
    simp only at o2
    split at o2
    · rename_i hl
      obtain ⟨s3, e3⟩ := s2.setI (c := c) (f := f) (dx := dx) h1 h3 h4 (r1.mono e2)
      have hlen : ws.length = fs.length := by have := congrArg List.length h3; simpa using this
      exact ⟨a, _, dx, ws, rfl, h2, hc, hn, by rw [hlen]; exact hl, o2 φ2 _ σ e3 s3 (rs2.mono e3)⟩
    · exact o2.elim
/-- the instance's field op= e -/
theorem inop_add {X : Cx} {g : V → V → Hp → VK → Prop} (h : ∀ x y H Q, g x y H Q → rAdd x y H Q) : InOp X .Add g := fun pins s σ H x y u v Q I rx ry q => in_add pins s σ H x y u v Q I rx ry (h _ _ _ _ q)
theorem inop_sub {X : Cx} {g : V → V → Hp → VK → Prop} (h : ∀ x y H Q, g x y H Q → rSub x y H Q) : InOp X .Sub g := fun pins s σ H x y u v Q I rx ry q => in_sub pins s σ H x y u v Q I rx ry (h _ _ _ _ q)
theorem z_augFld {op : Operator} {g : PH → PV → PV → Option PV} {rd : V → V → Hp → VK → Prop} {pos' : Pos} (hop : InOp X op rd) (hg : ∀ ph p q z, g ph p q = some z → ∀ (K : PySem.W.Frag) φ H x y (Q : VK), Rep K φ H p x → Rep K φ H q y → (∀ u, Rep K φ H z u → Q u H) → rd x y H Q)
    (hc : Cls X.K (He.ga X.K c)) (hn : NoAttr X.K (He.ga X.K c) f) (ho : PE X o (rE X.K Wx mo)) (hv : PE X e (rE X.K Wx mv)) : PS X (.AugAssign (.Attribute o f pos') op e pos) (rS X.K Wx (sAugFld g c f mo mv)) := by
  refine psW (ps_fldaug ho hv hop) fun D σ H h => ?_
  obtain ⟨φ, ph, env, sr, rs, o⟩ := h
  refine ⟨φ, ph, env, sr, rs, OutS.ofE rs o fun y ph1 φ1 H1 u e1 s1 r1 rs1 o1 => ?_⟩
  cases q : insV c ph1 y with
  | none => rw [q] at o1; exact o1.elim
  | some z =>
    rw [q] at o1
    obtain ⟨n', fs⟩ := z
    obtain ⟨rfl, hp⟩ := insV_ok q
    obtain ⟨a, dx, ws, rfl, h1, h2, h3, h4⟩ := s1.insAt r1 hp
    cases q2 : fs.lookup f with
    | none => simp only [q2] at o1; exact o1.elim
    | some v =>
      simp only [q2] at o1
      obtain ⟨w, w1, w2⟩ := (lookup_rel h3 h4).1 v q2
      refine ⟨a, _, dx, ws, w, rfl, h2, hc, hn, w1, φ1, ph1, env, s1, rs1, OutS.ofE rs1 o1 fun yv ph2 φ2 H2 u2 e2 s2 r2 rs2 o2 => ?_⟩
      cases q3 : g ph2 v yv with
      | none => simp only [q3] at o2; exact o2.elim
      | some zz =>
        cases q4 : insV c ph2 (.loc n') with
        | none => simp only [q3, q4] at o2; exact o2.elim
        | some z2 =>
          simp only [q3, q4] at o2
          obtain ⟨n2, fs2⟩ := z2
          obtain ⟨en, hp2⟩ := insV_ok q4
          cases en
          obtain ⟨a2, dx2, ws2, ea, k1, k2, k3, k4⟩ := s2.insAt (r1.mono e2) hp2
          cases ea
          simp only at o2
          split at o2
          · rename_i hl
            refine hg ph2 v yv zz q3 X.K φ2 H2 w u2 _ (w2.mono e2) r2 fun u ru => ?_
            obtain ⟨s3, e3⟩ := s2.setI (c := c) (f := f) (dx := dx2) k1 k3 k4 ru
            have hlen : ws2.length = fs2.length := by have := congrArg List.length k3; simpa using this
            exact ⟨dx2, ws2, k2, by rw [hlen]; exact hl, o2 φ2 _ σ e3 s3 (rs2.mono e3)⟩
          · exact o2.elim
theorem rd_add : ∀ ph p q z, addI ph p q = some z → ∀ (K : PySem.W.Frag) φ H x y (Q : VK), Rep K φ H p x → Rep K φ H q y → (∀ u, Rep K φ H z u → Q u H) → rAdd x y H Q := by
  intro ph p q z h K φ H x y Q r1 r2 k
  unfold addI at h
  split at h <;> cases h
  exact ⟨_, _, r1.int', r2.int', k _ rep_int⟩
theorem rd_sub : ∀ ph p q z, subZ ph p q = some z → ∀ (K : PySem.W.Frag) φ H x y (Q : VK), Rep K φ H p x → Rep K φ H q y → (∀ u, Rep K φ H z u → Q u H) → rSub x y H Q := by
  intro ph p q z h K φ H x y Q r1 r2 k
  unfold subZ at h
  split at h <;> cases h
  exact ⟨_, _, r1.int', r2.int', k _ rep_int⟩
/-! methods -/
/-- the method x of the class c: it stands at f and keeps m's promise; the instance is the first value -/
structure CalM (P : Program) (w : World) (K : PySem.W.Frag) (mg : Str → Option Value) (base : Heap) (k : Nat) (c x : Str) (dv : List PV) (N : Nat) (m : DF) : Prop where
  cls : Cls K (He.ga K c)
  ex : ∃ f fd ps ds dvs, Meth K (He.ga K c) x f ∧ FnOk P w K mg base (L2.CX P w) k f fd ps (spZ K ps.length m) ∧ Binds K fd ps ds ∧ Vals dvs ds ∧ ps.length = N ∧ ∀ φ H, RepL K φ H dv dvs
def mMeth (c x : Str) (N : Nat) (m : DF) (dv : List PV) (mo : DE) (as : DA) : DE := fun env ph => (mo env ph).bind fun p ph1 => match insV c ph1 p with
  | some q => if q.2.lookup x = none then (as env ph1).bind fun vs ph2 => if (p :: (vs ++ dv)).length = N then m (p :: (vs ++ dv)) ph2 else .bad else .bad
  | none => .bad
theorem meth_red {dvs : List V} {ps : List Str} {φ : Phi} {H : Hp} {ph : PH} {σ : St} {env : ZEnv} {u : V} {y : PV} {Q : VK} (hl : ps.length = N) (hdv : ∀ φ H, RepL X.K φ H dv dvs) (sr : SR X.K φ H ph) (rs : RepS X.K φ H σ env) (r : Rep X.K φ H y u)
    (o : OutG X.K (Rep X.K) Wx φ H σ Q ((as env ph).bind fun vs ph2 => if (y :: (vs ++ dv)).length = N then mf (y :: (vs ++ dv)) ph2 else .bad)) : rA X.K Wx as σ H fun vs H2 => spZ X.K ps.length mf (u :: (vs ++ dvs)) H2 Q (WE Wx σ) := by
  refine ⟨φ, ph, env, sr, rs, OutG.bind o fun vs ph1 φ1 H1 us e1 s1 r1 o1 => ?_⟩
  split at o1
  · rename_i c1
    have r2 : RepL X.K φ1 H1 (y :: (vs ++ dv)) (u :: (us ++ dvs)) := .cons (r.mono e1) (r1.append (hdv φ1 H1))
    exact ⟨by rw [r2.length, c1, hl], φ1, ph1, _, s1, r2, out_wx o1⟩
  · exact o1.elim
theorem z_meth {pl : Sem Bool} (cm : CalM X.prog X.w X.K X.mg X.base k c x dv N mf) (hr : Room k X.A) (tk : Takes X Wx) (ho : PE X o (rE X.K Wx mo)) (ha : PA X (e :: es) (rA X.K Wx as))
    (hst : starEach (e :: es) X.env = (false, eval e X.env) :: starEach es X.env := by rfl) (hpl : (backTo pos (starEach es X.env)).any (·.1) = false := by rfl)
    (ht : eval (.Call (.Attribute o x apos) (e :: es) [] pos) X.env = (do
      let ov ← eval o X.env
      standAt apos.atName
      let (f, first) ← holding [ov] (getMethod ov x pl)
      callWith pos f first (backTo pos (starEach (e :: es) X.env)) (backToKw pos (keywordEach [] X.env))) := by rfl) :
    PE X (.Call (.Attribute o x apos) (e :: es) [] pos) (rE X.K Wx (mMeth c x N mf dv mo as)) := by
  obtain ⟨f, fd, ps, ds, dvs, hm, h3, h4, h5, h6, h7⟩ := cm.ex
  refine ⟨fun pins s σ H Q I h => ?_⟩
  obtain ⟨φ, ph, env, sr, rs, oo⟩ := h
  have hk := ho.run pins s σ H (fun v H1 => ∃ a dx ws, v = .ref a ∧ H1 a = some (.ins (He.ga X.K c) dx ws) ∧ ws.lookup x = none ∧ rA X.K Wx as σ H1 fun vs H2 => spZ X.K ps.length mf (.ref a :: (vs ++ dvs)) H2 Q (WE Wx σ)) I ⟨φ, ph, env, sr, rs, OutG.bind oo fun y ph1 φ1 H1 u e1 s1 r1 o1 => ?_⟩
  · refine PySem.W.methodCall_KW (pl := pl) (thn hk fun u s1 ⟨v, H1, I1, rv, a, dx, ws, ev, ea, l, q⟩ => ?_) ht
    subst ev
    obtain rfl : u = Value.ref a := rv
    refine getmeth_ok I1 ea cm.cls hm l ?_
    refine PySem.W.callWith_K (first := [.ref a]) (h₀ := X.base) I.ok.mod.kin hm.kp (thn (ha.run pos pins s1 σ H1 _ I1 q) fun us s2 ⟨vs, H2, I2, r, q2⟩ => ⟨I2.kIn, ?_⟩) hst hpl
    exact run_fnSD (us := .ref a :: us) (vs := .ref a :: vs) h3 hr h4 h5 (passAt tk σ) I2 (.cons rfl r) q2
  · cases q : insV c ph1 y with
    | none => rw [q] at o1; exact o1.elim
    | some z =>
      rw [q] at o1
      obtain ⟨n', fs⟩ := z
      obtain ⟨rfl, hp⟩ := insV_ok q
      obtain ⟨a, dx, ws, rfl, h1, h2, k3, k4⟩ := s1.insAt r1 hp
      simp only at o1
      split at o1
      · rename_i hlk
        exact ⟨a, dx, ws, rfl, h2, (lookup_rel k3 k4).2 hlk, meth_red h6 h7 s1 (rs.mono e1) r1 o1⟩
      · exact o1.elim
theorem z_meth0 {pl : Sem Bool} (cm : CalM X.prog X.w X.K X.mg X.base k c x dv N mf) (hr : Room k X.A) (tk : Takes X Wx) (ho : PE X o (rE X.K Wx mo))
    (ht : eval (.Call (.Attribute o x apos) [] [] pos) X.env = (do
      let ov ← eval o X.env
      standAt apos.atName
      let (f, first) ← holding [ov] (getMethod ov x pl)
      callWith pos f first (backTo pos (starEach [] X.env)) (backToKw pos (keywordEach [] X.env))) := by rfl) :
    PE X (.Call (.Attribute o x apos) [] [] pos) (rE X.K Wx (mMeth c x N mf dv mo mNil)) := by
  obtain ⟨f, fd, ps, ds, dvs, hm, h3, h4, h5, h6, h7⟩ := cm.ex
  refine ⟨fun pins s σ H Q I h => ?_⟩
  obtain ⟨φ, ph, env, sr, rs, oo⟩ := h
  have hk := ho.run pins s σ H (fun v H1 => ∃ a dx ws, v = .ref a ∧ H1 a = some (.ins (He.ga X.K c) dx ws) ∧ ws.lookup x = none ∧ rA X.K Wx mNil σ H1 fun vs H2 => spZ X.K ps.length mf (.ref a :: (vs ++ dvs)) H2 Q (WE Wx σ)) I ⟨φ, ph, env, sr, rs, OutG.bind oo fun y ph1 φ1 H1 u e1 s1 r1 o1 => ?_⟩
  · refine PySem.W.methodCall_KW (pl := pl) (thn hk fun u s1 ⟨v, H1, I1, rv, a, dx, ws, ev, ea, l, q⟩ => ?_) ht
    subst ev
    obtain rfl : u = Value.ref a := rv
    refine getmeth_ok I1 ea cm.cls hm l ?_
    obtain ⟨φ', ph', env', sr', rs', o'⟩ := q
    exact PySem.W.callWith_K0 (first := [.ref a]) I1.kIn hm.kp (run_fnSD (us := [.ref a]) (vs := [.ref a]) h3 hr h4 h5 (passAt tk σ) I1 (.cons rfl .nil) (o' φ' H1 [] Ext.refl sr' .nil))
  · cases q : insV c ph1 y with
    | none => rw [q] at o1; exact o1.elim
    | some z =>
      rw [q] at o1
      obtain ⟨n', fs⟩ := z
      obtain ⟨rfl, hp⟩ := insV_ok q
      obtain ⟨a, dx, ws, rfl, h1, h2, k3, k4⟩ := s1.insAt r1 hp
      simp only at o1
      split at o1
      · rename_i hlk
        exact ⟨a, dx, ws, rfl, h2, (lookup_rel k3 k4).2 hlk, meth_red h6 h7 s1 (rs.mono e1) r1 o1⟩
      · exact o1.elim
/-! making -/
structure CalC (P : Program) (w : World) (K : PySem.W.Frag) (mg : Str → Option Value) (base : Heap) (k : Nat) (c : Str) (dv : List PV) (N : Nat) (m : DF) : Prop where
  mgC : mg c = some (.ref (He.ga K c))
  ex : ∃ f fd ps ds dvs, Mk K (He.ga K c) f ∧ FnOk P w K mg base (L2.CX P w) k f fd ps (spZ K ps.length m) ∧ Binds K fd ps ds ∧ Vals dvs ds ∧ ps.length = N ∧ ∀ φ H, RepL K φ H dv dvs
def mMake (c : Str) (N : Nat) (m : DF) (dv : List PV) (as : DA) : DE := fun env ph => (as env ph).bind fun vs ph1 => if (PV.loc ph1.length :: (vs ++ dv)).length = N then (m (.loc ph1.length :: (vs ++ dv)) (ph1 ++ [.ins c []])).bind fun r ph2 => (match r with
  | .non => .ok (.loc ph1.length) ph2
  | _ => .bad) else .bad
end
end OfP
/-! Layer Z, part 12: making of instances. -/
namespace OfP
open PySem PySem.Spec L2
open PyProof.Rows hiding St
section
variable {X : Cx} {Wx : WX} {CX : CXT} {k N : Nat} {c x : Str} {C f : Addr} {fd : FuncData} {ps : List Str} {sp : Sp} {dvs : List V} {ds : List Value} {dv : List PV} {mf : DF} {p pos : Pos} {e : Expr} {es : List Expr} {as : DA}
/-- an instance is made; what is raised is wished for at the maker's slots -/
theorem run_makeSD {E : St → XK} {pins : List (Addr × Obj)} {σ : St} {H : Hp} {s : Shared} {Q : VK} {us : List Value} {vs : List V} (M : Mk X.K C f) (F : FnOk X.prog X.w X.K X.mg X.base CX k f fd ps sp) (hr : Room (k + 1) X.A) (hb : Binds X.K fd ps ds)
    (hd : Vals dvs ds) (hx : PassesAt CX X σ (E σ)) (I : Inv X pins σ H s) (r : Vals vs us)
    (h : ∀ y dx, H y = none → H dx = none → dx ≠ y → sp (.ref y :: (vs ++ dvs)) (upd (upd H dx (.own y)) y (.ins C dx [])) (fun v H2 => v = .non ∧ Q (.ref y) H2) (E σ)) : wpAny (model X.prog X.w) X.A (call (.ref C) us) (EP X pins σ Q) X.xe s := by
  have hq := h (s.heap.objs.size + 1) s.heap.objs.size (I.hok.fresh (Nat.le_succ _)) (I.hok.fresh (Nat.le_refl _)) (Nat.ne_of_lt (Nat.lt_succ_self _))
  have I2 := Inv.made (C := C) I
  have r2 : Vals (V.ref (s.heap.objs.size + 1) :: (vs ++ dvs)) (Value.ref (s.heap.objs.size + 1) :: (us ++ ds)) := .cons rfl (r.append hd)
  have hl : (Value.ref (s.heap.objs.size + 1) :: us ++ ds).length = ps.length := ((F.len _ _ _ _ hq).symm.trans r2.length).symm
  have hrun := F.run _ X.stack _ _ ⟨Value.ref (s.heap.objs.size + 1) :: us, []⟩ (Value.ref (s.heap.objs.size + 1) :: (us ++ ds)) _ _ (E σ) (hr.make C us []) (I2.env0.make C us []) (hb _ (Value.ref (s.heap.objs.size + 1) :: us) I2.kIn hl) r2 hq
  refine wpAny_call (make_map (f := f) I.kIn M.makes M.init (beq_iff_eq.mp M.fn) (codeAny_mono hrun fun r s' hq' => ?_))
  rcases r with e | fl
  · exact hx pins _ _ e s' I2 hq'
  · cases fl <;> first
      | exact False.elim hq'
      | (obtain ⟨v, H', I3, rv, ev, q3⟩ := I2.after hq'
         subst ev
         exact ⟨rv, ⟨V.ref (s.heap.objs.size + 1), H', I3, rfl, q3⟩⟩)
def rMk (sp : Sp) (C : Addr) (dvs : List V) (E : St → XK) (t : TA) : TE := fun σ H Q => t σ H fun vs H1 => ∀ y dx, H1 y = none → H1 dx = none → dx ≠ y →
  sp (.ref y :: (vs ++ dvs)) (upd (upd H1 dx (.own y)) y (.ins C dx [])) (fun v H2 => v = .non ∧ Q (.ref y) H2) (E σ)
theorem make_red (hl : ps.length = N) (hdv : ∀ φ H, RepL X.K φ H dv dvs) : ∀ σ H Q, rE X.K Wx (mMake c N mf dv as) σ H Q → rMk (spZ X.K ps.length mf) (He.ga X.K c) dvs (WE Wx) (rA X.K Wx as) σ H Q := fun σ H Q h => by
  obtain ⟨φ, ph, env, sr, rs, o⟩ := h
  refine ⟨φ, ph, env, sr, rs, OutG.bind o fun vs ph1 φ1 H1 us e1 s1 r1 o1 => fun y dx hy hdx hne => ?_⟩
  split at o1
  · rename_i hc
    obtain ⟨s2, e2⟩ := s1.push (o := .own y) hdx
    have hy2 : upd H1 dx (.own y) y = none := by rw [upd_ne (Ne.symm hne)]; exact hy
    have s2' : SR X.K φ1 (upd H1 dx (.own y)) ph1 := (s1.new hdx).1
    have e2' : Ext φ1 H1 φ1 (upd H1 dx (.own y)) := Ext.same (s1.new hdx).2
    obtain ⟨s3, e3⟩ := s2'.push (o := .ins (He.ga X.K c) dx []) hy2
    have hlo : y ∉ (φ1.more y).loc := s2'.fresh hy2
    have hav : y ∈ (φ1.more y).av := List.mem_cons_self
    have s4 := s3.locate hav hlo (o := .ins c []) ⟨dx, [], upd_same, rfl, .nil⟩
    have e4 : Ext φ1 H1 ((φ1.more y).locate y hav) (upd (upd H1 dx (.own y)) y (.ins (He.ga X.K c) dx [])) := (e2'.trans e3).locate hav hy
    have rl : Rep X.K ((φ1.more y).locate y hav) (upd (upd H1 dx (.own y)) y (.ins (He.ga X.K c) dx [])) (.loc ph1.length) (.ref y) := by
      unfold Rep
      refine ⟨y, ?_, rfl⟩
      show (φ1.loc ++ [y])[ph1.length]? = some y
      rw [← s1.len, List.getElem?_append_right (Nat.le_refl _), Nat.sub_self]
      rfl
    have r2 : RepL X.K ((φ1.more y).locate y hav) (upd (upd H1 dx (.own y)) y (.ins (He.ga X.K c) dx [])) (.loc ph1.length :: (vs ++ dv)) (.ref y :: (us ++ dvs)) := .cons rl ((r1.mono e4).append (hdv _ _))
    refine ⟨by rw [r2.length, hc, hl], _, _, _, s4, r2, ?_⟩
    have o2 := OutG.mono o1 e4
    revert o2
    cases mf (.loc ph1.length :: (vs ++ dv)) (ph1 ++ [.ins c []]) with
    | ok v ph2 =>
      intro o2 φ5 H5 u e5 s5 r5
      cases v with
      | non => exact ⟨by unfold Rep at r5; exact r5, o2 φ5 H5 _ e5 s5 (rl.mono e5)⟩
      | _ => exact o2.elim
    | err x ph2 => intro o2; exact o2
    | bad => intro o2; exact o2.elim
  · exact o1.elim
theorem z_make (cc : CalC X.prog X.w X.K X.mg X.base k c dv N mf) (hr : Room (k + 1) X.A) (tk : Takes X Wx) (hg : Gl X c) (ha : PA X (e :: es) (rA X.K Wx as)) (hdb : (c == ("__debug__" : Str)) = false := by decide)
    (he : starEach (e :: es) X.env = (false, eval e X.env) :: starEach es X.env := by rfl) (hpl : (backTo pos (starEach es X.env)).any (·.1) = false := by rfl) : PE X (.Call (.Name c p) (e :: es) [] pos) (rE X.K Wx (mMake c N mf dv as)) := by
  obtain ⟨hm, f, fd, ps, ds, dvs, M, F, hb, hd, hl, hdv⟩ := cc
  refine ⟨fun pins s σ H Q I h => wpAny_Call_Name_kw (ld_glob I hg hm ?_ hdb)⟩
  refine PySem.W.callWith_K (h₀ := X.base) I.ok.mod.kin M.kp (thn (ha.run pos pins s σ H _ I (make_red hl hdv σ H Q h)) fun us s1 ⟨vs, H1, I1, r, q⟩ => ⟨I1.kIn, ?_⟩) he hpl
  exact run_makeSD (E := WE Wx) M F hr hb hd (passAt tk σ) I1 r q
theorem z_make0 (cc : CalC X.prog X.w X.K X.mg X.base k c dv N mf) (hr : Room (k + 1) X.A) (tk : Takes X Wx) (hg : Gl X c) (hdb : (c == ("__debug__" : Str)) = false := by decide) : PE X (.Call (.Name c p) [] [] pos) (rE X.K Wx (mMake c N mf dv mNil)) := by
  obtain ⟨hm, f, fd, ps, ds, dvs, M, F, hb, hd, hl, hdv⟩ := cc
  refine ⟨fun pins s σ H Q I h => wpAny_Call_Name_kw (ld_glob I hg hm ?_ hdb)⟩
  obtain ⟨φ, ph, env, sr, rs, o⟩ := make_red hl hdv σ H Q h
  exact PySem.W.callWith_K0 I.kIn M.kp (run_makeSD (E := WE Wx) (us := []) M F hr hb hd (passAt tk σ) I .nil (o φ H [] Ext.refl sr .nil))
end
/-! a text's signs as a tuple -/
def signsP (z : Str) : List PV := z.cps.toList.map fun c => .str ⟨#[c]⟩
def tupStrZ (ph : PH) : List PV → Option PV
  | [.str z] => if z.cps.size ≤ 1000 then some (.tup (signsP z)) else none
  | _ => none
theorem vals_signs (L : List Nat) (R : List Value) (h : L.length = R.length) (k : ∀ (i : Nat) (v : Value), R[i]? = some v → ∃ c u, L[i]? = some c ∧ v = .str ⟨#[c]⟩ u) : Vals (L.map fun c => V.str ⟨#[c]⟩) R := by
  induction L generalizing R with
  | nil =>
    cases R with
    | nil => exact .nil
    | cons a b => cases h
  | cons c L ih =>
    cases R with
    | nil => cases h
    | cons a R =>
      refine .cons ?_ (ih R (Nat.succ.inj h) fun i v hv => ?_)
      · obtain ⟨c', u, e1, e2⟩ := k 0 a rfl
        cases e1
        exact ⟨u, e2⟩
      · exact k (i + 1) v hv
theorem cz_tupStr {X : Cx} (hc : X.calm = true) : CallZ X (.type "tuple") tupStrZ := by
  intro pins s σ H xs us Q I r ⟨φ, ph, ps, z, sr, rl, e, kk⟩
  unfold tupStrZ at e
  split at e
  · rename_i x
    split at e
    · rename_i hl
      cases e
      obtain ⟨v, rfl, rp⟩ := rl.one
      rw [rp.str'] at r
      obtain ⟨u, rfl, rx⟩ := vals1 r
      obtain ⟨t, rfl⟩ := rx
      refine call_tuple_str (I.ok.hd hc) x t (fun h' tk acc kp hacc => ?_) (by rw [sizeLine_eq]; omega)
      have I1 : Inv X pins σ H { s with heap := h', toks := tk } := I.kept kp
      have hv : Vals (x.cps.toList.map fun c => V.str ⟨#[c]⟩) acc.toList := by
        refine vals_signs _ _ (by rw [Array.length_toList, Array.length_toList]; exact hacc.1.symm) fun i v hv => ?_
        rw [Array.getElem?_toList] at hv
        obtain ⟨c, u, h1, h2⟩ := hacc.2 i v hv
        exact ⟨c, u, by rw [Array.getElem?_toList]; exact h1, h2⟩
      have hsz : (x.cps.toList.map fun c => V.str ⟨#[c]⟩).length ≤ sizeLine := by rw [List.length_map, Array.length_toList, sizeLine_eq]; omega
      have I2 : Inv X pins σ (upd H h'.objs.size (.tup (x.cps.toList.map fun c => V.str ⟨#[c]⟩))) { s with heap := h'.push { cls := .type "tuple", data := .seq acc }, toks := tk } :=
        I1.laid (fun b o e => Heap.get?_push_of_some _ e) (Nat.le_refl _) (show ObjOk X.prog X.w _ _ _ (.tup (x.cps.toList.map fun c => V.str ⟨#[c]⟩)) from ⟨hsz, acc.toList, hv, IsTup.new h' acc⟩)
      have hrl : RepL X.K φ H (signsP x) (x.cps.toList.map fun c => V.str ⟨#[c]⟩) := by
        unfold signsP
        generalize x.cps.toList = L
        induction L with
        | nil => exact .nil
        | cons c L ih => exact .cons rep_str ih
      obtain ⟨φ5, e5, s5, r5⟩ := sr.tupNew hrl (I1.hok.fresh (Nat.le_refl _))
      exact ⟨.ref h'.objs.size, _, I2, rfl, kk φ5 _ _ e5 s5 r5⟩
    · cases e
  · cases e
end OfP
/-! Layer Z, part 13: what the printed derivations take. -/
namespace OfP
open PySem PySem.Spec L2
open PyProof.Rows hiding St
theorem Room.u64 {k : Nat} {A : Around} (r : Room k A) : A.units + 64 < cLine := by have := r.un; omega
theorem Room.u65 {k : Nat} {A : Around} (r : Room k A) : A.units + 65 < cLine := by have := r.un; omega
theorem Room.u100 {k : Nat} {A : Around} (r : Room k A) : A.units + 100 < cLine := by have := r.un; omega
theorem tk0 {X : Cx} : Takes X WX0 := fun _ _ ⟨_, _, _, _, _, _, _, _, _, _, _, _, _, _, _, _, w⟩ => False.elim w
section
variable {P : Program} {w : World} {K : PySem.W.Frag} {mg : Str → Option Value} {base : Heap} {x qual c : Str} {params : Arguments} {body : List Stmt} {scope : Scope} {dvs : List V} {kws : List (Str × V)} {f : Addr} {fd : FuncData} {N ps : List Str} {k n : Nat} {b : DS}
theorem cal_of (F : FunD K x qual params body scope dvs kws f fd) (gm : mg x = some (.ref f)) (S : FnScope N ps scope) (hb : BodyZ P w K mg base N qual body scope f k b) (bd : Binds K fd ps []) (hn : ps.length = n) : Cal P w K mg base (k + 1) x [] n (dFn N.length b) :=
  ⟨f, fd, ps, [], [], gm, F.kp, hn ▸ z_fn F S hb, bd, .nil, hn, fun _ _ => .nil⟩
theorem cal_ofR (F : FunD K x qual params body scope dvs kws f fd) (gm : mg x = some (.ref f)) (S : FnScope N ps scope) (hb : BodyZ P w K mg base N qual body scope f k b) (bd : Binds K fd ps []) (hn : ps.length = n) : Cal P w K mg base (k + 1) x [] n (dFnR N.length b) :=
  ⟨f, fd, ps, [], [], gm, F.kp, hn ▸ z_fnR F S hb, bd, .nil, hn, fun _ _ => .nil⟩
theorem calK_of {ks : List Str} {perm : List Nat} {m : Nat} (F : FunD K x qual params body scope [] kws f fd) (gm : mg x = some (.ref f)) (S : FnScope N ps scope) (hb : BodyZ P w K mg base N qual body scope f k b) (hn : ps.length = n)
    (h : ∀ (kV doc pm : Value) (an : Option Addr) (cdv ct : Value) (us ws : List Value), us.length = m → ws.length = ks.length → bindArgs (PySem.W.fnOf x qual params body scope .none kV doc pm an cdv ct) ⟨us, ks.zip ws⟩ = pure (ps.zip (permU perm (us ++ ws)))) : CalK P w K mg base (k + 1) x m ks perm n (dFn N.length b) := by
  refine ⟨f, fd, ps, gm, F.kp, hn ▸ z_fn F S hb, hn, fun s us ws h1 h2 => ?_⟩
  obtain ⟨oc, od, dV, kV, doc, pm, an, cdv, ct, osl, rfl, lk, hcd, hD, hK⟩ := F.ex
  rcases hD with ⟨_, rfl⟩ | ⟨e, _⟩
  · exact .of_eq (h kV doc pm an cdv ct us ws h1 h2)
  · exact absurd rfl e
theorem calM_of (hc : Cls K (He.ga K c)) (F : FunD K x qual params body scope dvs kws f fd) (hm : Meth K (He.ga K c) x f) (S : FnScope N ps scope) (hb : BodyZ P w K mg base N qual body scope f k b) (bd : Binds K fd ps []) (hn : ps.length = n) : CalM P w K mg base (k + 1) c x [] n (dFn N.length b) :=
  ⟨hc, f, fd, ps, [], [], hm, hn ▸ z_fn F S hb, bd, .nil, hn, fun _ _ => .nil⟩
theorem calC_of (gm : mg c = some (.ref (He.ga K c))) (F : FunD K x qual params body scope dvs kws f fd) (hm : Mk K (He.ga K c) f) (S : FnScope N ps scope) (hb : BodyZ P w K mg base N qual body scope f k b) (bd : Binds K fd ps []) (hn : ps.length = n) : CalC P w K mg base (k + 1) c [] n (dFn N.length b) :=
  ⟨gm, f, fd, ps, [], [], hm, hn ▸ z_fn F S hb, bd, .nil, hn, fun _ _ => .nil⟩
/-- all the parameters given, whatever the defaults -/
theorem FunD.bindsD (F : FunD K x qual params body scope dvs kws f fd) (n : Nat) (hd : dvs ≠ []) (hn : n = ps.length)
    (h : ∀ (T : Addr) (kV doc pm : Value) (an : Option Addr) (cdv ct : Value) (us its : List Value), us.length = n → its.length = dvs.length → ∃ k, bindArgs (PySem.W.fnOf x qual params body scope (.ref T) kV doc pm an cdv ct) ⟨us, []⟩ = seqItems? (.ref T) >>= k ∧ k (some its.toArray) = pure (ps.zip (us ++ its.drop dvs.length))) : Binds K fd ps [] := by
  obtain ⟨ds, v, b⟩ := F.binds1 n dvs.length hd (by omega) h
  rw [List.drop_length] at v
  cases v
  exact b
end
/-! a block's scope, told by its text -/
def blkB (N : List Str) (sc scope : Scope) (own : List (Str × Nat)) : Bool :=
  decide (scope.kind = .function) && (scope.names.all fun y => decide (scope.names.lookup y.1 = some y.2)) && (own.all fun p => decide (N[p.2]? = some p.1)) &&
    (scope.names.all fun y => decide (y.2 = .free → sc.names.lookup y.1 = some .cell ∨ sc.names.lookup y.1 = some .free)) && (scope.names.all fun y => decide (y.2 = .local ∨ y.2 = .cell → y.1 ∈ own.map (·.1) ∨ y.1 ∉ N))
theorem blk_ok {N : List Str} {sc scope : Scope} {own : List (Str × Nat)} (h : blkB N sc scope own = true) : BlkOk N sc scope own := by
  unfold blkB at h
  simp only [Bool.and_eq_true, List.all_eq_true, decide_eq_true_eq] at h
  obtain ⟨⟨⟨⟨h1, h2⟩, h3⟩, h4⟩, h5⟩ := h
  exact ⟨h1, h2, h3, h4, h5⟩
/-! the builtins' names -/
theorem bt_len : bootBuiltins "len" = some (.builtin "len") := by decide +kernel
theorem bt_abs : bootBuiltins "abs" = some (.builtin "abs") := by decide +kernel
theorem bt_max : bootBuiltins "max" = some (.builtin "max") := by decide +kernel
theorem bt_min : bootBuiltins "min" = some (.builtin "min") := by decide +kernel
theorem bt_all : bootBuiltins "all" = some (.builtin "all") := by decide +kernel
theorem bt_any : bootBuiltins "any" = some (.builtin "any") := by decide +kernel
theorem bt_sum : bootBuiltins "sum" = some (.builtin "sum") := by decide +kernel
theorem bt_isinstance : bootBuiltins "isinstance" = some (.builtin "isinstance") := by decide +kernel
theorem bt_sorted : bootBuiltins "sorted" = some (.builtin "sorted") := by decide +kernel
theorem bt_int : bootBuiltins "int" = some (.type "int") := by decide +kernel
theorem bt_str : bootBuiltins "str" = some (.type "str") := by decide +kernel
theorem bt_tuple : bootBuiltins "tuple" = some (.type "tuple") := by decide +kernel
theorem bt_bool : bootBuiltins "bool" = some (.type "bool") := by decide +kernel
theorem bt_list : bootBuiltins "list" = some (.type "list") := by decide +kernel
theorem bt_dict : bootBuiltins "dict" = some (.type "dict") := by decide +kernel
theorem bt_set : bootBuiltins "set" = some (.type "set") := by decide +kernel
/-- the members of a class's body -/
def clsBody (s : Stmt) : List Stmt := match s with
  | .ClassDef _ _ _ b _ _ _ _ _ _ _ => b
  | _ => []
end OfP
/-! Layer Z, part 14: a, b = x, y with plain local names. -/
namespace OfP
open PySem PySem.Spec L2
open PyProof.Rows hiding St
def sPar2 (i j : Nat) (as : DA) : DS := fun env ph => (as env ph).st env fun vs ph1 => match vs with
  | [v, w] => .nx ((env.set i (some v)).set j (some w)) ph1
  | _ => .bad
def sPar3 (i j l : Nat) (as : DA) : DS := fun env ph => (as env ph).st env fun vs ph1 => match vs with
  | [u, v, w] => .nx (((env.set i (some u)).set j (some v)).set l (some w)) ph1
  | _ => .bad
theorem OutS.ofA {K : PySem.W.Frag} {Wx : WX} {φ : Phi} {H : Hp} {σ : St} {env : ZEnv} {D : Ends} {r : Res (List PV)} {k : List PV → PH → SRes} {Q : List V → Hp → Prop} (rs : RepS K φ H σ env) (o : OutS K Wx φ H D (r.st env k))
    (h : ∀ v ph1 φ1 H1 u, Ext φ H φ1 H1 → SR K φ1 H1 ph1 → RepL K φ1 H1 v u → RepS K φ1 H1 σ env → OutS K Wx φ1 H1 D (k v ph1) → Q u H1) : OutG K (RepL K) Wx φ H σ Q r := by
  cases r with
  | ok v ph1 => exact fun φ1 H1 u e s r => h v ph1 φ1 H1 u e s r (rs.mono e) (OutS.mono o e)
  | err x ph1 => exact fun φ1 H1 c d e s r => o φ1 H1 σ c d e s (rs.mono e) r
  | bad => exact o
section
variable {X : Cx} {Wx : WX} {i j l : Nat} {x y z : Str} {a b c : Expr} {as : DA} {px py pz pt pos : Pos} {kt k2 pt2}
theorem z_par2 (hc : X.calm = true) (hN : X.N.Nodup) (hi : X.N[i]? = some x) (hj : X.N[j]? = some y) (hij : i ≠ j) (hx : X.env.scope.names.lookup x = some .local) (hy : X.env.scope.names.lookup y = some .local) (ha : PA X [a, b] (rA X.K Wx as))
    (hw : swappedStores [.Tuple [.Name x px, .Name y py] kt pt] (.Tuple [a, b] k2 pt2) X.env = pure (some [x, y])) (hs : swapsWithSole [.Tuple [.Name x px, .Name y py] kt pt] (.Tuple [a, b] k2 pt2) pos.line X.env = pure false := by rfl) :
    PS X (.Assign [.Tuple [.Name x px, .Name y py] kt pt] (.Tuple [a, b] k2 pt2) pos) (rS X.K Wx (sPar2 i j as)) := by
  refine psW (ps_par hc hN hi hj hij hx hy ha hw hs) fun D σ H h => ?_
  obtain ⟨φ, ph, env, sr, rs, o⟩ := h
  refine ⟨φ, ph, env, sr, rs, OutS.ofA rs o fun vs ph1 φ1 H1 us e1 s1 r1 rs1 o1 => ?_⟩
  split at o1
  · obtain ⟨v1, w1, rfl, t1⟩ := r1.inv
    obtain ⟨v2, w2, rfl, t2, t3⟩ := t1.2.inv
    rw [t3.inv0]
    exact ⟨v1, v2, rfl, o1 φ1 H1 _ Ext.refl s1 ((rs1.set t1.1).set t2)⟩
  · exact o1.elim
theorem z_par3 (hc : X.calm = true) (hN : X.N.Nodup) (hi : X.N[i]? = some x) (hj : X.N[j]? = some y) (hl : X.N[l]? = some z) (hij : i ≠ j) (hil : i ≠ l) (hjl : j ≠ l) (hx : X.env.scope.names.lookup x = some .local) (hy : X.env.scope.names.lookup y = some .local) (hz : X.env.scope.names.lookup z = some .local)
    (ha : PA X [a, b, c] (rA X.K Wx as)) (hw : swappedStores [.Tuple [.Name x px, .Name y py, .Name z pz] kt pt] (.Tuple [a, b, c] k2 pt2) X.env = pure (some [x, y, z]))
    (hs : swapsWithSole [.Tuple [.Name x px, .Name y py, .Name z pz] kt pt] (.Tuple [a, b, c] k2 pt2) pos.line X.env = pure false := by rfl) :
    PS X (.Assign [.Tuple [.Name x px, .Name y py, .Name z pz] kt pt] (.Tuple [a, b, c] k2 pt2) pos) (rS X.K Wx (sPar3 i j l as)) := by
  refine psW (ps_par3 hc hN hi hj hl hij hil hjl hx hy hz ha hw hs) fun D σ H h => ?_
  obtain ⟨φ, ph, env, sr, rs, o⟩ := h
  refine ⟨φ, ph, env, sr, rs, OutS.ofA rs o fun vs ph1 φ1 H1 us e1 s1 r1 rs1 o1 => ?_⟩
  split at o1
  · obtain ⟨v1, w1, rfl, q1, t1⟩ := r1.inv
    obtain ⟨v2, w2, rfl, q2, t2⟩ := t1.inv
    obtain ⟨v3, w3, rfl, q3, t3⟩ := t2.inv
    rw [t3.inv0]
    exact ⟨v1, v2, v3, rfl, o1 φ1 H1 _ Ext.refl s1 (((rs1.set q1).set q2).set q3)⟩
  · exact o1.elim
end
end OfP
/-! Layer Z, part 15: the end of a law. -/
namespace OfP
open PySem PySem.Spec L2
open PyProof.Rows hiding St
/-- a promise under which nothing is raised -/
def shutZ (sp : Sp) : Sp := fun vs H Q _ => sp vs H Q fun _ _ _ => False
theorem FnOk.shut {P : Program} {w : World} {K : PySem.W.Frag} {mg : Str → Option Value} {base : Heap} {k : Nat} {f : Addr} {fd : FuncData} {ps : List Str} {sp : Sp} (F : FnOk P w K mg base (L2.CX P w) k f fd ps sp) : FnOk P w K mg base CX0 k f fd ps (shutZ sp) := by
  refine ⟨fun vs H Q E h => F.len _ _ _ _ h, fun A outer s H args us vs Q E hr he hb hv hs => codeAny_mono (F.run A outer s H args us vs Q _ hr he hb hv hs) fun r s' h => ?_⟩
  cases r with
  | ok fl => cases fl <;> exact h
  | error e =>
    obtain ⟨a, B, H', cls, d, _, _, _, _, _, _, _, hE⟩ := h
    exact hE.elim
/-- the script's reading begins here -/
theorem law_sp {K : PySem.W.Frag} {m : DF} {H : Hp} {a : Addr} {ns : List Int} (hm : ∃ ph', m [.scr (ns.map .int)] [] = .ok (.bl true) ph') (hS : SqL K H a (ns.map V.int)) : shutZ (spZ K 1 m) [.ref a] H (fun v _ => v = .bl true) fun _ _ _ => False := by
  obtain ⟨ph', hm⟩ := hm
  refine ⟨rfl, ⟨[], [], fun _ h => h⟩, [], [.scr (ns.map .int)], ⟨rfl, List.nodup_nil, fun _ h => absurd h List.not_mem_nil, fun n b o h => by simp at h⟩, .cons ?_ .nil, ?_⟩
  · unfold Rep
    refine ⟨a, ns.map V.int, rfl, ?_, ?_⟩
    · rcases hS with h | h
      · exact .inl ⟨List.not_mem_nil, h⟩
      · exact .inr h
    · clear hm hS
      induction ns with
      | nil => exact .nil
      | cons n ns ih => exact .cons rep_int ih
  · rw [hm]
    exact fun φ' H' u e s r => r.bl'
end OfP
/-! Layer Z, part 16: how mirrors compute. -/
namespace OfP
open PySem L2
section
variable {α β : Type}
theorem ok_bind {a : α} {ph : PH} {f : α → PH → Res β} : (Res.ok a ph).bind f = f a ph := rfl
theorem bad_bind {f : α → PH → Res β} : (Res.bad : Res α).bind f = .bad := rfl
theorem ok_st {a : α} {ph : PH} {env : ZEnv} {k : α → PH → SRes} : (Res.ok a ph).st env k = k a ph := rfl
theorem nx_seq {e : ZEnv} {ph : PH} {k : ZEnv → PH → SRes} : (SRes.nx e ph).seq k = k e ph := rfl
theorem rt_seq {v : PV} {ph : PH} {k : ZEnv → PH → SRes} : (SRes.rt v ph).seq k = .rt v ph := rfl
theorem bk_seq {e : ZEnv} {ph : PH} {k : ZEnv → PH → SRes} : (SRes.bk e ph).seq k = .bk e ph := rfl
theorem ct_seq {e : ZEnv} {ph : PH} {k : ZEnv → PH → SRes} : (SRes.ct e ph).seq k = .ct e ph := rfl
theorem ofO_some {a : α} {ph : PH} : Res.ofO (some a) ph = .ok a ph := rfl
end
/-! operations on ints -/
section
variable {ph : PH} {i j : Int} {b : Bool}
theorem atI_0 {α : Type} {x : α} {xs : List α} : atI (x :: xs) 0 = some x := by
  unfold atI ixN
  rw [if_pos (by decide), if_pos (by simp)]
  rfl
theorem atI_1 {α : Type} {x y : α} {xs : List α} : atI (x :: y :: xs) 1 = some y := by
  unfold atI ixN
  rw [if_pos (by decide), if_pos (by simp; omega)]
  rfl
theorem atI_2 {α : Type} {x y z : α} {xs : List α} : atI (x :: y :: z :: xs) 2 = some z := by
  unfold atI ixN
  rw [if_pos (by decide), if_pos (by simp; omega)]
  rfl
theorem atI_3 {α : Type} {x y z u : α} {xs : List α} : atI (x :: y :: z :: u :: xs) 3 = some u := by
  unfold atI ixN
  rw [if_pos (by decide), if_pos (by simp; omega)]
  rfl
theorem atI_nat {α : Type} {xs : List α} {k : Nat} (h : k < xs.length) : atI xs (k : Int) = some xs[k] := by
  unfold atI ixN
  rw [if_pos (by omega), if_pos (by omega)]
  simp [h]
theorem eqb_int (i j : Int) : (i == j) = decide (i = j) := by by_cases h : i = j <;> simp [h]
theorem addZ_int : addZ ph (.int i) (.int j) = some (.int (i + j)) := rfl
theorem addI_int : addI ph (.int i) (.int j) = some (.int (i + j)) := rfl
theorem subZ_int : subZ ph (.int i) (.int j) = some (.int (i - j)) := rfl
theorem negZ_int : negZ ph (.int i) = some (.int (-i)) := rfl
theorem mulZ_int (h : mulOk i j = true) : mulZ ph (.int i) (.int j) = some (.int (i * j)) := if_pos h
theorem powZ_int (h : powOk i j = true) : powZ ph (.int i) (.int j) = some (.int (i ^ j.toNat)) := if_pos h
theorem fdivZ_int (h : divOk j = true) : fdivZ ph (.int i) (.int j) = some (.int (i / j)) := if_pos h
theorem modZ_int (h : 0 < j) : modZ ph (.int i) (.int j) = some (.int (i % j)) := if_pos h
theorem gtZ_int : gtZ ph (.int i) (.int j) = some (.bl (decide (j < i))) := rfl
theorem ltZ_int : ltZ ph (.int i) (.int j) = some (.bl (decide (i < j))) := rfl
theorem leZ_int : leZ ph (.int i) (.int j) = some (.bl (decide (i ≤ j))) := rfl
theorem geZ_int : geZ ph (.int i) (.int j) = some (.bl (decide (j ≤ i))) := rfl
theorem eqZ_int : eqZ false ph (.int i) (.int j) = some (.bl (decide (i = j))) := by
  show some (PV.bl (if false = true then _ else PyData.eqv (.int i) (.int j))) = _
  simp [PyData.eqv, eqb_int]
theorem neZ_int : eqZ true ph (.int i) (.int j) = some (.bl (!decide (i = j))) := by
  show some (PV.bl (if true = true then !PyData.eqv (.int i) (.int j) else _)) = _
  simp [PyData.eqv, eqb_int]
theorem intTyZ_int : intTyZ ph [.int i] = some (.int i) := rfl
theorem maxZ_int : maxZ ph [.int i, .int j] = some (.int (if j > i then j else i)) := rfl
theorem minZ_int : minZ ph [.int i, .int j] = some (.int (if j < i then j else i)) := rfl
theorem truZ_bl : truZ ph (.bl b) = some b := rfl
theorem rb_bl {k : Bool} {x : Res Bool} : (match some (PV.bl k) with | some (.bl k) => Res.ok k ph | _ => x) = Res.ok k ph := rfl
theorem ixZ_loc {l : Nat} {xs : List PV} (h : ph[l]? = some (.lst xs)) : ixZ ph (.loc l) (.int i) = atI xs i := by
  have e : rz ph (.loc l) = .lst xs := by
    unfold rz
    simp only [h]
  unfold ixZ
  simp only [e]
theorem ixZ_lst {xs : List PV} : ixZ ph (.lst xs) (.int i) = atI xs i := rfl
theorem ixZ_tup {xs : List PV} : ixZ ph (.tup xs) (.int i) = atI xs i := rfl
theorem ixZ_scr {xs : List PV} : ixZ ph (.scr xs) (.int i) = atI xs i := rfl
/-- sizes of ints -/
theorem bits_le {i : Int} {n : Nat} (h : i.natAbs < 2 ^ n) : Builtin.Int.intBits i ≤ n := by
  unfold Builtin.Int.intBits
  split
  · exact Nat.zero_le _
  · rename_i hz
    have : i.natAbs ≠ 0 := fun e => hz (by simpa using e)
    exact Nat.succ_le_of_lt ((Nat.log2_lt this).mpr h)
theorem mulOk_of {i j : Int} {n m : Nat} (h1 : i.natAbs < 2 ^ n) (h2 : j.natAbs < 2 ^ m) (h : n + m ≤ 134217728) : mulOk i j = true := by
  unfold mulOk
  have := bits_le h1
  have := bits_le h2
  exact decide_eq_true (by omega)
theorem powOk_of {i : Int} {n k : Nat} (h1 : i.natAbs < 2 ^ n) (h : n * k ≤ 2 ^ 27) : powOk i (k : Int) = true := by
  unfold powOk
  rw [Bool.and_eq_true]
  refine ⟨decide_eq_true (by omega), decide_eq_true ?_⟩
  have h3 : Builtin.Int.intBits i * k ≤ n * k := Nat.mul_le_mul_right _ (bits_le h1)
  have : ((Builtin.Int.intBits i * k : Nat) : Int) ≤ ((2 ^ 27 : Nat) : Int) := Int.ofNat_le.mpr (Nat.le_trans h3 h)
  simpa using this
end
/-! what a call leaves -/
theorem dFn_rt {n : Nat} {b : DS} {args : List PV} {ph : PH} {v : PV} (h : b (envZ n args) ph = .rt v ph) : dFn n b args ph = .ok v ph := by
  unfold dFn finZ
  rw [h]
  show gc ph v ph = _
  unfold gc
  rw [if_pos (Nat.le_refl _)]
theorem dFn_nx {n : Nat} {b : DS} {args : List PV} {ph : PH} {e : ZEnv} (h : b (envZ n args) ph = .nx e ph) : dFn n b args ph = .ok .non ph := by
  unfold dFn finZ
  rw [h]
  show gc ph .non ph = _
  unfold gc
  rw [if_pos (Nat.le_refl _)]
theorem dFn_rtS {n : Nat} {b : DS} {args : List PV} {ph ph' : PH} {v : PV} (h : b (envZ n args) ph = .rt v ph') (hl : ph'.length = ph.length) : dFn n b args ph = .ok v ph' := by
  unfold dFn finZ
  rw [h]
  show gc ph v ph' = _
  unfold gc
  rw [if_pos (Nat.le_of_eq hl)]
theorem dFn_nxS {n : Nat} {b : DS} {args : List PV} {ph ph' : PH} {e : ZEnv} (h : b (envZ n args) ph = .nx e ph') (hl : ph'.length = ph.length) : dFn n b args ph = .ok .non ph' := by
  unfold dFn finZ
  rw [h]
  show gc ph .non ph' = _
  unfold gc
  rw [if_pos (Nat.le_of_eq hl)]
/-- the call's own objects go; the caller's keep to themselves -/
theorem sSetIx_ok {mo mi mv : DE} {env : ZEnv} {ph ph1 ph2 ph3 : PH} {v : PV} {l j : Nat} {k : Int} {xs : List PV} (hv : mv env ph = .ok v ph1) (ho : mo env ph1 = .ok (.loc l) ph2) (hi : mi env ph2 = .ok (.int k) ph3) (h : ph3[l]? = some (.lst xs)) (hj : ixN xs.length k = some j) :
    sSetIx mo mi mv env ph = .nx env (ph3.set l (.lst (xs.set j v))) := by
  unfold sSetIx
  simp only [hv, ok_st, ho, hi, h, hj]
theorem gc_take {ph ph' : PH} {v : PV} (hv : (unl ph.length ph' v).cl ph.length = true) (ho : ∀ i o, i < ph.length → ph'[i]? = some o → ph[i]? = some o ∨ o.cl ph.length = true) (hl : ph.length < ph'.length) : gc ph v ph' = .ok (unl ph.length ph' v) (ph'.take ph.length) := by
  unfold gc
  rw [if_neg (by omega), if_pos ⟨hv, ho⟩]
theorem unl_plain {n : Nat} {ph : PH} {v : PV} (h : ∀ k, v ≠ .loc k) : unl n ph v = v := by
  unfold unl
  split
  · rename_i k; exact absurd rfl (h k)
  · rfl
/-! loops -/
theorem lc_inv {it : ItV} {g : DGt} {t : DT} {e : DE} {w : ZEnv} {J : Nat → PH → Prop} {P : PV → Prop} (hc : it.gd = []) : ∀ (items acc : List PV) (n : Nat) (ph : PH),
    (∀ k p, items[k]? = some p → ∀ ph, J (n + k) ph → ∃ l v ph', g p = some l ∧ t (setsE w l) ph = .ok true ph ∧ e (setsE w l) ph = .ok v ph' ∧ P v ∧ J (n + k + 1) ph') → J n ph →
    ∃ vs ph', lcZ it g t e w items acc ph = .ok (.lst (acc ++ vs)) ph' ∧ vs.length = items.length ∧ (∀ v ∈ vs, P v) ∧ J (n + items.length) ph' := by
  have ck : ∀ ph, it.chk ph := fun ph q hq => by rw [hc] at hq; exact absurd hq List.not_mem_nil
  intro items
  induction items with
  | nil =>
    intro acc n ph _ j
    refine ⟨[], ph, ?_, rfl, fun v h => absurd h List.not_mem_nil, j⟩
    unfold lcZ
    rw [if_pos (ck ph), List.append_nil]
  | cons p items ih =>
    intro acc n ph h j
    obtain ⟨l, v, ph1, h1, h2, h3, h4, h5⟩ := h 0 p rfl ph j
    obtain ⟨vs, ph2, k1, k2, k3, k4⟩ := ih (acc ++ [v]) (n + 1) ph1 (fun k q hq ph j => by
      have z := h (k + 1) q (by simpa using hq) ph (by rw [show n + (k + 1) = n + 1 + k from by omega]; exact j)
      rw [show n + (k + 1) + 1 = n + 1 + k + 1 from by omega] at z
      exact z) h5
    refine ⟨v :: vs, ph2, ?_, by simp [k2], fun x hx => ?_, ?_⟩
    · unfold lcZ
      rw [if_pos (ck ph)]
      simp only [h1, h2, h3]
      rw [k1, List.append_assoc]
      rfl
    · rcases List.mem_cons.mp hx with rfl | hx
      · exact h4
      · exact k3 x hx
    · have : n + (p :: items).length = n + 1 + items.length := by simp only [List.length_cons]; omega
      rw [this]; exact k4
theorem lc_map {it : ItV} {g : DGt} {e : DE} {w : ZEnv} {ph : PH} {f : PV → PV} (hc : it.chk ph) : ∀ (items acc : List PV), (∀ p ∈ items, ∃ l, g p = some l ∧ e (setsE w l) ph = .ok (f p) ph) → lcZ it g tYesZ e w items acc ph = .ok (.lst (acc ++ items.map f)) ph := by
  intro items
  induction items with
  | nil =>
    intro acc _
    unfold lcZ
    rw [if_pos hc, List.map_nil, List.append_nil]
  | cons p items ih =>
    intro acc h
    obtain ⟨l, h1, h2⟩ := h p List.mem_cons_self
    unfold lcZ
    rw [if_pos hc]
    simp only [h1, tYesZ, h2]
    rw [ih (acc ++ [f p]) fun q hq => h q (List.mem_cons_of_mem _ hq), List.append_assoc]
    rfl
theorem lc_map0 {it : ItV} {g : DGt} {e : DE} {w : ZEnv} {ph : PH} {f : PV → PV} (hc : it.chk ph) (h : ∀ p ∈ it.items, ∃ l, g p = some l ∧ e (setsE w l) ph = .ok (f p) ph) : lcZ it g tYesZ e w it.items [] ph = .ok (.lst (it.items.map f)) ph := by
  rw [lc_map hc _ _ h, List.nil_append]
theorem lc_inv0 {it : ItV} {g : DGt} {t : DT} {e : DE} {w : ZEnv} {ph : PH} {J : Nat → PH → Prop} {P : PV → Prop} (hc : it.gd = []) (j : J 0 ph)
    (h : ∀ k p, it.items[k]? = some p → ∀ ph, J k ph → ∃ l v ph', g p = some l ∧ t (setsE w l) ph = .ok true ph ∧ e (setsE w l) ph = .ok v ph' ∧ P v ∧ J (k + 1) ph') :
    ∃ vs ph', lcZ it g t e w it.items [] ph = .ok (.lst vs) ph' ∧ vs.length = it.items.length ∧ (∀ v ∈ vs, P v) ∧ J it.items.length ph' := by
  obtain ⟨vs, ph', h1, h2, h3, h4⟩ := lc_inv (J := J) (P := P) hc it.items [] 0 ph (fun k p hp ph j => by simpa using h k p hp ph (by simpa using j)) j
  rw [List.nil_append] at h1
  rw [Nat.zero_add] at h4
  exact ⟨vs, ph', h1, h2, h3, h4⟩
theorem for_inv {it : ItV} {g : DGt} {b : DS} {J : Nat → ZEnv → PH → Prop} : ∀ (items : List PV) (n : Nat) (env : ZEnv) (ph : PH),
    (∀ k p, items[k]? = some p → ∀ env ph, J (n + k) env ph → it.chk ph ∧ ∃ l env' ph', g p = some l ∧ (b (setsE env l) ph = .nx env' ph' ∨ b (setsE env l) ph = .ct env' ph') ∧ J (n + k + 1) env' ph') → (∀ env ph, J (n + items.length) env ph → it.chk ph) → J n env ph →
    ∃ env' ph', forZ it g b items env ph = .nx env' ph' ∧ J (n + items.length) env' ph' := by
  intro items
  induction items with
  | nil =>
    intro n env ph _ hc j
    refine ⟨env, ph, ?_, j⟩
    unfold forZ
    rw [if_pos (hc env ph j)]
  | cons p items ih =>
    intro n env ph h hc j
    obtain ⟨c, l, e1, ph1, h1, h2, h3⟩ := h 0 p rfl env ph j
    obtain ⟨e2, ph2, k1, k2⟩ := ih (n + 1) e1 ph1 (fun k q hq e ph j => by
      have z := h (k + 1) q (by simpa using hq) e ph (by rw [show n + (k + 1) = n + 1 + k from by omega]; exact j)
      rw [show n + (k + 1) + 1 = n + 1 + k + 1 from by omega] at z
      exact z) (fun e ph j => hc e ph (by rw [show n + (p :: items).length = n + 1 + items.length from by simp only [List.length_cons]; omega]; exact j)) h3
    refine ⟨e2, ph2, ?_, by rw [show n + (p :: items).length = n + 1 + items.length from by simp only [List.length_cons]; omega]; exact k2⟩
    unfold forZ
    rw [if_pos c]
    rcases h2 with h2 | h2
    · simp only [h1, h2]; exact k1
    · simp only [h1, h2]; exact k1
/-! texts -/
open SX (S)
theorem shaped_str {a : List Nat} (h : ∀ c ∈ a, c < 0x110000) : SeqAt.shaped (.str (S a)) = true := by
  unfold SeqAt.shaped PyData.canLay0
  rw [Bool.and_eq_true]
  refine ⟨?_, by simp [PyData.depth]⟩
  unfold PyData.strOk
  rw [← Array.all_toList, List.all_eq_true]
  exact fun c hc => decide_eq_true (h c hc)
theorem eqZ_str {ph : PH} {a b : List Nat} (ha : ∀ c ∈ a, c < 0x110000) (hb : ∀ c ∈ b, c < 0x110000) : eqZ false ph (.str (S a)) (.str (S b)) = some (.bl (decide (a = b))) := by
  have e : eqZ false ph (.str (S a)) (.str (S b)) = if SeqAt.shaped (.str (S a)) && SeqAt.shaped (.str (S b)) then some (.bl (PyData.eqv (.str (S a)) (.str (S b)))) else none := rfl
  rw [e, shaped_str ha, shaped_str hb, if_pos (show (true && true) = true from rfl), PyData.eqv, SX.S_beq_eq]
theorem neZ_str {ph : PH} {a b : List Nat} (ha : ∀ c ∈ a, c < 0x110000) (hb : ∀ c ∈ b, c < 0x110000) : eqZ true ph (.str (S a)) (.str (S b)) = some (.bl (!decide (a = b))) := by
  have e : eqZ true ph (.str (S a)) (.str (S b)) = if SeqAt.shaped (.str (S a)) && SeqAt.shaped (.str (S b)) then some (.bl (!PyData.eqv (.str (S a)) (.str (S b)))) else none := rfl
  rw [e, shaped_str ha, shaped_str hb, if_pos (show (true && true) = true from rfl), PyData.eqv, SX.S_beq_eq]
theorem inZ_sign {ph : PH} {c : Nat} {b : List Nat} : inZ false ph (.str (S [c])) (.str (S b)) = some (.bl (decide (c ∈ b))) := by
  have e : inZ false ph (.str (S [c])) (.str (S b)) = some (.bl (decide (c ∈ (S b).cps.toList))) := rfl
  rw [e]
theorem ninZ_sign {ph : PH} {c : Nat} {b : List Nat} : inZ true ph (.str (S [c])) (.str (S b)) = some (.bl (!decide (c ∈ b))) := by
  have e : inZ true ph (.str (S [c])) (.str (S b)) = some (.bl (!decide (c ∈ (S b).cps.toList))) := rfl
  rw [e]
theorem addZ_str {ph : PH} {a b : List Nat} (h : a.length + b.length ≤ 10000) : addZ ph (.str (S a)) (.str (S b)) = some (.str (S (a ++ b))) := by
  have e : addZ ph (.str (S a)) (.str (S b)) = if (S a).length + (S b).length ≤ sizeLine then some (.str (S a ++ S b)) else none := rfl
  rw [e, if_pos (by rw [SX.S_len, SX.S_len, sizeLine_eq]; omega), SX.S_cat]
theorem lenZ_str {ph : PH} {a : List Nat} (h : a.length ≤ 10000) : lenZ ph [.str (S a)] = some (.int a.length) := by
  have e : lenZ ph [.str (S a)] = if (S a).length ≤ sizeLine then some (.int (S a).length) else none := rfl
  rw [e, if_pos (by rw [SX.S_len, sizeLine_eq]; omega), SX.S_len]
theorem lenZ_tup {ph : PH} {xs : List PV} : lenZ ph [.tup xs] = some (.int xs.length) := rfl
theorem lenZ_lst {ph : PH} {xs : List PV} : lenZ ph [.lst xs] = some (.int xs.length) := rfl
theorem lenZ_scr {ph : PH} {xs : List PV} : lenZ ph [.scr xs] = some (.int xs.length) := rfl
theorem lenZ_loc {ph : PH} {l : Nat} {xs : List PV} (h : ph[l]? = some (.lst xs)) : lenZ ph [.loc l] = some (.int xs.length) := by
  have e : rz ph (.loc l) = .lst xs := by
    unfold rz
    simp only [h]
  unfold lenZ
  simp only [e]
theorem strsOf_map : ∀ ws : List (List Nat), strsOf (ws.map fun w => PV.str (S w)) = some (ws.map S)
  | [] => rfl
  | w :: ws => by
    have ih := strsOf_map ws
    show (strsOf (ws.map fun w => PV.str (S w))).map (S w :: ·) = _
    rw [ih]; rfl
theorem joinZ_S {ph : PH} {a : List Nat} {q : PV} {ws : List (List Nat)} (h : seqA ph q = some (ws.map fun w => PV.str (S w))) (hl : (ws.map (·.length)).sum + ws.length * a.length ≤ 16777216) : joinZ ph (.str (S a)) [q] = some (.str (S (TL.joinL a ws)), ph) := by
  have e : joinZ ph (.str (S a)) [q] = (match (seqA ph q).bind strsOf with
    | some ys => if (ys.map (·.length)).sum + ys.length * (S a).length ≤ 16777216 then some (.str (Txt.join (S a) ys), ph) else none
    | none => none) := rfl
  rw [e, h]
  simp only [Option.bind_some, strsOf_map]
  rw [if_pos (by rw [SX.lens, List.length_map, SX.S_len]; exact hl), SX.join_S]
theorem splitZ_S {ph : PH} {a b : List Nat} (hb : b ≠ []) (hk : b.all (· < 256) = true) (hl : a.length ≤ 100000) : splitZ ph (.str (S a)) [.str (S b)] = some (.lst ((TL.spl b 0 [] a).map fun w => PV.str (S w)), ph) := by
  have e : splitZ ph (.str (S a)) [.str (S b)] = if ((S b).length == 0) = false ∧ (S a).length + 2 ≤ sizeLine then some (.lst ((Txt.split (S a) (S b)).map .str), ph) else none := rfl
  rw [e, if_pos ⟨by rw [SX.S_len]; cases b with | nil => exact absurd rfl hb | cons => rfl, by rw [SX.S_len, sizeLine_eq]; omega⟩, SX.split_S hb hk, List.map_map]
  rfl
theorem slZ_str {ph : PH} {a : List Nat} {lo hi : Option Int} (h : a.length ≤ 10000) : slZ ph (.str (S a)) lo hi = some (.str (Txt.slice (S a) lo hi)) := by
  have e : slZ ph (.str (S a)) lo hi = if (S a).length ≤ sizeLine then some (.str (Txt.slice (S a) lo hi)) else none := rfl
  rw [e, if_pos (by rw [SX.S_len, sizeLine_eq]; omega)]
theorem ixZ_str {ph : PH} {a : List Nat} {k : Nat} (hk : k < a.length) (h : a.length ≤ 10000) : ixZ ph (.str (S a)) (.int (k : Int)) = some (.str (S [a[k]])) := by
  have e : ixZ ph (.str (S a)) (.int (k : Int)) = if (S a).length ≤ sizeLine then (atI (S a).cps.toList (k : Int)).map fun c => .str ⟨#[c]⟩ else none := rfl
  rw [e, if_pos (by rw [SX.S_len, sizeLine_eq]; omega)]
  have e2 : (S a).cps.toList = a := rfl
  rw [e2, atI_nat hk]
  rfl
/-! isinstance -/
section
variable {ph : PH} {i : Int} {b : Bool} {x : Str} {xs : List PV}
theorem is_non_int : isinstZ ph [.non, .ty "int"] = some (.bl false) := rfl
theorem is_non_bool : isinstZ ph [.non, .ty "bool"] = some (.bl false) := rfl
theorem is_non_str : isinstZ ph [.non, .ty "str"] = some (.bl false) := rfl
theorem is_non_tuple : isinstZ ph [.non, .ty "tuple"] = some (.bl false) := rfl
theorem is_non_list : isinstZ ph [.non, .ty "list"] = some (.bl false) := rfl
theorem is_bl_int : isinstZ ph [.bl b, .ty "int"] = some (.bl true) := rfl
theorem is_bl_bool : isinstZ ph [.bl b, .ty "bool"] = some (.bl true) := rfl
theorem is_bl_str : isinstZ ph [.bl b, .ty "str"] = some (.bl false) := rfl
theorem is_bl_tuple : isinstZ ph [.bl b, .ty "tuple"] = some (.bl false) := rfl
theorem is_bl_list : isinstZ ph [.bl b, .ty "list"] = some (.bl false) := rfl
theorem is_int_int : isinstZ ph [.int i, .ty "int"] = some (.bl true) := rfl
theorem is_int_bool : isinstZ ph [.int i, .ty "bool"] = some (.bl false) := rfl
theorem is_int_str : isinstZ ph [.int i, .ty "str"] = some (.bl false) := rfl
theorem is_int_tuple : isinstZ ph [.int i, .ty "tuple"] = some (.bl false) := rfl
theorem is_int_list : isinstZ ph [.int i, .ty "list"] = some (.bl false) := rfl
theorem is_str_int : isinstZ ph [.str x, .ty "int"] = some (.bl false) := rfl
theorem is_str_bool : isinstZ ph [.str x, .ty "bool"] = some (.bl false) := rfl
theorem is_str_str : isinstZ ph [.str x, .ty "str"] = some (.bl true) := rfl
theorem is_str_tuple : isinstZ ph [.str x, .ty "tuple"] = some (.bl false) := rfl
theorem is_str_list : isinstZ ph [.str x, .ty "list"] = some (.bl false) := rfl
theorem is_tup_int : isinstZ ph [.tup xs, .ty "int"] = some (.bl false) := rfl
theorem is_tup_bool : isinstZ ph [.tup xs, .ty "bool"] = some (.bl false) := rfl
theorem is_tup_str : isinstZ ph [.tup xs, .ty "str"] = some (.bl false) := rfl
theorem is_tup_tuple : isinstZ ph [.tup xs, .ty "tuple"] = some (.bl true) := rfl
theorem is_tup_list : isinstZ ph [.tup xs, .ty "list"] = some (.bl false) := rfl
theorem is_lst_int : isinstZ ph [.lst xs, .ty "int"] = some (.bl false) := rfl
theorem is_lst_bool : isinstZ ph [.lst xs, .ty "bool"] = some (.bl false) := rfl
theorem is_lst_str : isinstZ ph [.lst xs, .ty "str"] = some (.bl false) := rfl
theorem is_lst_tuple : isinstZ ph [.lst xs, .ty "tuple"] = some (.bl false) := rfl
theorem is_lst_list : isinstZ ph [.lst xs, .ty "list"] = some (.bl true) := rfl
end
/-! all -/
theorem blsOf_true : ∀ {vs : List PV}, (∀ v ∈ vs, v = .bl true) → blsOf vs = some (vs.map fun _ => true)
  | [], _ => rfl
  | v :: vs, h => by
    have e := h v List.mem_cons_self
    subst e
    have ih := blsOf_true fun x hx => h x (List.mem_cons_of_mem _ hx)
    show (blsOf vs).map (true :: ·) = _
    rw [ih]; rfl
theorem allZ_true {ph : PH} {vs : List PV} (h : ∀ v ∈ vs, v = .bl true) : allZ ph [.lst vs] = some (.bl true) := by
  have e : allZ ph [.lst vs] = (blsOf vs).map fun bs => .bl (bs.all id) := rfl
  rw [e, blsOf_true h]
  simp
theorem zipP_self : ∀ xs : List PV, zipP xs xs = xs.map fun x => .tup [x, x]
  | [] => rfl
  | x :: xs => congrArg (PV.tup [x, x] :: ·) (zipP_self xs)
theorem iZip_tup {as : DA} {env : ZEnv} {ph ph1 : PH} {xs ys : List PV} (h : as env ph = .ok [.tup xs, .tup ys] ph1) : iZipZ as env ph = .ok ⟨zipP xs ys, []⟩ ph1 := by
  unfold iZipZ
  rw [h]
  rfl
theorem iRange1_ok {as : DA} {env : ZEnv} {ph ph1 : PH} {j : Int} (h : as env ph = .ok [.int j] ph1) (h1 : 0 ≤ j) (h2 : j < 2 ^ 62) : iRange1 as env ph = .ok ⟨rngI 0 j, []⟩ ph1 := by
  unfold iRange1
  rw [h]
  have : rngOk j = true := by unfold rngOk; rw [Bool.and_eq_true]; exact ⟨decide_eq_true (by omega), decide_eq_true h2⟩
  show (if rngOk j = true then _ else _) = _
  rw [if_pos this]
theorem rngI_len {j : Int} : (rngI 0 j).length = j.toNat := by simp [rngI]
theorem iSeq_tup {m : DE} {env : ZEnv} {ph ph1 : PH} {xs : List PV} (h : m env ph = .ok (.tup xs) ph1) : iSeq m env ph = .ok ⟨xs, []⟩ ph1 := by
  unfold iSeq
  rw [h]; rfl
theorem iSeq_lst {m : DE} {env : ZEnv} {ph ph1 : PH} {xs : List PV} (h : m env ph = .ok (.lst xs) ph1) : iSeq m env ph = .ok ⟨xs, []⟩ ph1 := by
  unfold iSeq
  rw [h]; rfl
theorem iText_S {m : DE} {env : ZEnv} {ph ph1 : PH} {a : List Nat} (h : m env ph = .ok (.str (S a)) ph1) : iText m env ph = .ok ⟨a.map fun c => .str (S [c]), []⟩ ph1 := by
  unfold iText
  rw [h]; rfl
theorem mLC_ok {vs : List Nat} {mi : DI} {g : DGt} {t : DT} {e : DE} {env : ZEnv} {ph ph1 : PH} {it : ItV} (h : mi env ph = .ok it ph1) (hl : it.items.length < 10000) : mLC vs mi g t e env ph = lcZ it g t e (wipeE env vs) it.items [] ph1 := by
  unfold mLC
  rw [h]
  show (if it.items.length < sizeLine then _ else _) = _
  rw [if_pos (by rw [sizeLine_eq]; omega)]
theorem sFor_ok {mi : DI} {g : DGt} {b : DS} {env : ZEnv} {ph ph1 : PH} {it : ItV} (h : mi env ph = .ok it ph1) : sFor mi g b env ph = forZ it g b it.items env ph1 := by
  unfold sFor
  rw [h]; rfl
theorem tupTyZ_lst {ph : PH} {xs : List PV} : tupTyZ ph [.lst xs] = some (.tup xs) := rfl
theorem tupTyZ_tup {ph : PH} {xs : List PV} : tupTyZ ph [.tup xs] = some (.tup xs) := rfl
theorem chk0 {xs : List PV} {ph : PH} : (ItV.mk xs []).chk ph := fun q hq => absurd hq List.not_mem_nil
theorem sz0 : (0 ≤ sizeLine) = True := eq_true (by rw [sizeLine_eq]; omega)
theorem sz1 : (1 ≤ sizeLine) = True := eq_true (by rw [sizeLine_eq]; omega)
theorem sz2 : (2 ≤ sizeLine) = True := eq_true (by rw [sizeLine_eq]; omega)
theorem sz3 : (3 ≤ sizeLine) = True := eq_true (by rw [sizeLine_eq]; omega)
theorem sz4 : (4 ≤ sizeLine) = True := eq_true (by rw [sizeLine_eq]; omega)
theorem sz5 : (5 ≤ sizeLine) = True := eq_true (by rw [sizeLine_eq]; omega)
theorem sz6 : (6 ≤ sizeLine) = True := eq_true (by rw [sizeLine_eq]; omega)
theorem sz7 : (7 ≤ sizeLine) = True := eq_true (by rw [sizeLine_eq]; omega)
theorem sz8 : (8 ≤ sizeLine) = True := eq_true (by rw [sizeLine_eq]; omega)
theorem sz9 : (9 ≤ sizeLine) = True := eq_true (by rw [sizeLine_eq]; omega)
theorem sz10 : (10 ≤ sizeLine) = True := eq_true (by rw [sizeLine_eq]; omega)
theorem sz11 : (11 ≤ sizeLine) = True := eq_true (by rw [sizeLine_eq]; omega)
theorem sz12 : (12 ≤ sizeLine) = True := eq_true (by rw [sizeLine_eq]; omega)
/-! digits -/
theorem ten {d : Int} (h0 : 0 ≤ d) (h1 : d < 10) : d = 0 ∨ d = 1 ∨ d = 2 ∨ d = 3 ∨ d = 4 ∨ d = 5 ∨ d = 6 ∨ d = 7 ∨ d = 8 ∨ d = 9 := by omega
theorem dig_txt {d : Int} (h0 : 0 ≤ d) (h1 : d < 10) : (Str.ofString (toString d) = S [48 + d.toNat]) ∧ d.natAbs.log2 < 1920 := by
  rcases ten h0 h1 with rfl | rfl | rfl | rfl | rfl | rfl | rfl | rfl | rfl | rfl <;> exact ⟨by decide +kernel, by decide +kernel⟩
theorem strTyZ_dig {ph : PH} {d : Int} (h0 : 0 ≤ d) (h1 : d < 10) : strTyZ ph [.int d] = some (.str (S [48 + d.toNat])) := by
  obtain ⟨e, l⟩ := dig_txt h0 h1
  have q : strTyZ ph [.int d] = if d.natAbs.log2 < 1920 then some (.str (Str.ofString (toString d))) else none := rfl
  rw [q, if_pos l, e]
theorem intTyZ_dig {ph : PH} {d : Int} (h0 : 0 ≤ d) (h1 : d < 10) : intTyZ ph [.str (S [48 + d.toNat])] = some (.int d) := by
  have q : intTyZ ph [.str (S [48 + d.toNat])] = if (S [48 + d.toNat]).length ≤ 640 then (PySem.intText? (S [48 + d.toNat])).map .int else none := rfl
  have e : PySem.intText? (S [48 + d.toNat]) = some d := by
    rcases ten h0 h1 with rfl | rfl | rfl | rfl | rfl | rfl | rfl | rfl | rfl | rfl <;> decide +kernel
  rw [q, if_pos (by rw [SX.S_len]; simp), e]
  rfl
theorem joinL_nil : ∀ ws : List (List Nat), TL.joinL [] ws = ws.flatten
  | [] => rfl
  | [w] => by simp [TL.joinL]
  | w :: v :: r => by
    show w ++ ([] ++ TL.joinL [] (v :: r)) = _
    rw [joinL_nil (v :: r)]
    simp
theorem joinL_cons (a w : List Nat) : ∀ ws : List (List Nat), TL.joinL a (w :: ws) = w ++ ws.flatMap (a ++ ·)
  | [] => by simp [TL.joinL]
  | v :: r => by
    show w ++ (a ++ TL.joinL a (v :: r)) = _
    rw [joinL_cons a v r]
    simp
theorem sum_ones (cs : List Nat) : ((cs.map fun c => [c]).map (·.length)).sum = cs.length := by
  induction cs with
  | nil => rfl
  | cons c cs ih => simp only [List.map_cons, List.sum_cons, List.length_cons, ih, List.length_nil]; omega
theorem flat_ones (cs : List Nat) : (cs.map fun c => [c]).flatten = cs := by
  induction cs with
  | nil => rfl
  | cons c cs ih => simp only [List.map_cons, List.flatten_cons, ih, List.cons_append, List.nil_append]
theorem joinZ_signs {ph : PH} {q : PV} {cs : List Nat} (h : seqA ph q = some (cs.map fun c => PV.str (S [c]))) (hl : cs.length ≤ 10000) : joinZ ph (.str (S [])) [q] = some (.str (S cs), ph) := by
  rw [joinZ_S (ws := cs.map fun c => [c]) (by rw [h, List.map_map]; rfl) (by rw [sum_ones]; simp; omega), joinL_nil, flat_ones]
theorem cst0 : ((0 : Nat) : Int) = 0 := rfl
theorem cst1 : ((1 : Nat) : Int) = 1 := rfl
theorem cst2 : ((2 : Nat) : Int) = 2 := rfl
theorem cst3 : ((3 : Nat) : Int) = 3 := rfl
theorem cst4 : ((4 : Nat) : Int) = 4 := rfl
theorem cst5 : ((5 : Nat) : Int) = 5 := rfl
theorem cst6 : ((6 : Nat) : Int) = 6 := rfl
theorem cst7 : ((7 : Nat) : Int) = 7 := rfl
theorem cst8 : ((8 : Nat) : Int) = 8 := rfl
theorem cst9 : ((9 : Nat) : Int) = 9 := rfl
theorem cst10 : ((10 : Nat) : Int) = 10 := rfl
theorem cst11 : ((11 : Nat) : Int) = 11 := rfl
theorem cst12 : ((12 : Nat) : Int) = 12 := rfl
theorem enumP_get {xs : List PV} {k : Nat} {p : PV} (h : (enumP xs)[k]? = some p) : ∃ x, xs[k]? = some x ∧ p = .tup [.int (k : Nat), x] := by
  unfold enumP at h
  rw [List.getElem?_map, List.getElem?_zipIdx] at h
  cases q : xs[k]? with
  | none => rw [q] at h; cases h
  | some x =>
    rw [q] at h
    simp at h
    exact ⟨x, rfl, h.symm⟩
theorem enumP_len {xs : List PV} : (enumP xs).length = xs.length := by simp [enumP]
theorem iEnum_S {as : DA} {env : ZEnv} {ph ph1 : PH} {a : List Nat} (h : as env ph = .ok [.str (S a)] ph1) : iEnumZ as env ph = .ok ⟨enumP (a.map fun c => .str (S [c])), []⟩ ph1 := by
  unfold iEnumZ
  rw [h]
  rfl
theorem insV_at {c : Str} {ph : PH} {n : Nat} {fs : List (Str × PV)} (h : ph[n]? = some (.ins c fs)) : insV c ph (.loc n) = some (n, fs) := by
  unfold insV
  simp only [h, if_true]
theorem put_get {l : Nat} {ph : PH} {o p : PO} (h : ph[l]? = some p) : (ph.set l o)[l]? = some o := by
  have := (List.getElem?_eq_some_iff.mp h).1
  simp [this]
theorem set_twice {l : Nat} {ph : PH} {o p : PO} : (ph.set l o).set l p = ph.set l p := by simp
theorem lk0 : (0 < 1000) = True := eq_true (by omega)
theorem lk1 : (1 < 1000) = True := eq_true (by omega)
theorem lk2 : (2 < 1000) = True := eq_true (by omega)
theorem lk3 : (3 < 1000) = True := eq_true (by omega)
theorem lk4 : (4 < 1000) = True := eq_true (by omega)
theorem lk5 : (5 < 1000) = True := eq_true (by omega)
theorem lk6 : (6 < 1000) = True := eq_true (by omega)
theorem lk7 : (7 < 1000) = True := eq_true (by omega)
theorem lk8 : (8 < 1000) = True := eq_true (by omega)
theorem lk9 : (9 < 1000) = True := eq_true (by omega)
theorem lk10 : (10 < 1000) = True := eq_true (by omega)
theorem lk11 : (11 < 1000) = True := eq_true (by omega)
theorem lk12 : (12 < 1000) = True := eq_true (by omega)
/-! tuples of texts -/
def OkT (w : List Nat) : Prop := ∀ c ∈ w, c < 0x110000
def dS (w : List Nat) : PyData := .str (S w)
theorem toDL_strs : ∀ ws : List (List Nat), PV.toDL (ws.map fun w => PV.str (S w)) = some (ws.map dS)
  | [] => by simp [PV.toDL]
  | w :: ws => by
    have ih := toDL_strs ws
    simp only [List.map_cons, PV.toDL, PV.toD, ih]
    rfl
theorem shaped_strs {ws : List (List Nat)} (h : ∀ w ∈ ws, OkT w) : SeqAt.shaped (.tuple (ws.map dS)) = true ∧ SeqAt.shaped (.list (ws.map dS)) = true := by
  have h1 : PyData.canLayAll0 (ws.map dS) = true := by
    induction ws with
    | nil => simp [PyData.canLayAll0]
    | cons w ws ih =>
      rw [List.map_cons, PyData.canLayAll0, Bool.and_eq_true]
      exact ⟨(Bool.and_eq_true_iff.mp (shaped_str (h w List.mem_cons_self))).1, ih fun x hx => h x (List.mem_cons_of_mem _ hx)⟩
  have h2 : PyData.depthAll (ws.map dS) = 0 := by
    clear h h1
    induction ws with
    | nil => simp [PyData.depthAll]
    | cons w ws ih => rw [List.map_cons, PyData.depthAll, ih]; simp [dS, PyData.depth]
  unfold SeqAt.shaped
  refine ⟨?_, ?_⟩
  · rw [PyData.canLay0, h1, PyData.depth, h2]; rfl
  · rw [PyData.canLay0, h1, PyData.depth, h2]; rfl
theorem eqv_dS (a b : List Nat) : PyData.eqv (dS a) (dS b) = decide (a = b) := by
  unfold dS
  rw [PyData.eqv, SX.S_beq_eq]
theorem any_dS {w : List Nat} (ws : List (List Nat)) : ((ws.map dS).any fun z => PyData.eqv z (dS w)) = decide (w ∈ ws) := by
  induction ws with
  | nil => rfl
  | cons v ws ih =>
    rw [List.map_cons, List.any_cons, ih, eqv_dS]
    by_cases h1 : v = w
    · subst h1; simp
    · have : ¬ w = v := fun e => h1 e.symm
      simp [h1, this]
theorem dOf_strs {ph : PH} {ws : List (List Nat)} : dOf ph (.tup (ws.map fun w => PV.str (S w))) = some (.tuple (ws.map dS)) := by
  show (PV.tup _).toD = _
  rw [PV.toD, toDL_strs]
  rfl
theorem inZ_strs {ph : PH} {neg : Bool} {w : List Nat} {ws : List (List Nat)} (hw : OkT w) (h : ∀ w ∈ ws, OkT w) : inZ neg ph (.str (S w)) (.tup (ws.map fun w => PV.str (S w))) = some (.bl (if neg then !decide (w ∈ ws) else decide (w ∈ ws))) := by
  have e : inZ neg ph (.str (S w)) (.tup (ws.map fun w => PV.str (S w))) = match dOf ph (.str (S w)), dOf ph (.tup (ws.map fun w => PV.str (S w))) with
    | some d, some c => (inDat d c).map fun k => .bl (if neg then !k else k)
    | _, _ => none := rfl
  rw [e, dOf_strs]
  show (inDat (dS w) (.tuple (ws.map dS))).map _ = _
  unfold inDat
  rw [show SeqAt.shaped (dS w) = true from shaped_str hw, (shaped_strs h).1]
  simp only [Bool.and_self, if_true, Option.map_some, any_dS]
theorem inZ_non {ph : PH} {neg : Bool} {ws : List (List Nat)} (h : ∀ w ∈ ws, OkT w) : inZ neg ph .non (.tup (ws.map fun w => PV.str (S w))) = some (.bl neg) := by
  have e : inZ neg ph .non (.tup (ws.map fun w => PV.str (S w))) = match dOf ph .non, dOf ph (.tup (ws.map fun w => PV.str (S w))) with
    | some d, some c => (inDat d c).map fun k => .bl (if neg then !k else k)
    | _, _ => none := rfl
  rw [e, dOf_strs]
  show (inDat .none (.tuple (ws.map dS))).map _ = _
  unfold inDat
  have e3 : ((ws.map dS).any fun z => PyData.eqv z .none) = false := by
    rw [List.any_eq_false]
    intro x hx
    obtain ⟨w, _, rfl⟩ := List.mem_map.mp hx
    simp [dS, PyData.eqv]
  rw [show SeqAt.shaped .none = true from by simp [SeqAt.shaped, PyData.canLay0, PyData.depth], (shaped_strs h).1]
  simp only [Bool.and_self, if_true, Option.map_some, e3]
  cases neg <;> rfl
theorem eqvAll_dS : ∀ (ws vs : List (List Nat)), PyData.eqvAll (ws.map dS) (vs.map dS) = decide (ws = vs)
  | [], [] => by simp [PyData.eqvAll]
  | [], _ :: _ => by simp [PyData.eqvAll]
  | _ :: _, [] => by simp [PyData.eqvAll]
  | w :: ws, v :: vs => by
    rw [List.map_cons, List.map_cons, PyData.eqvAll, eqv_dS, eqvAll_dS ws vs]
    by_cases h1 : w = v <;> by_cases h2 : ws = vs <;> simp [h1, h2]
theorem eqZ_strs {ph : PH} {neg : Bool} {ws vs : List (List Nat)} (h : ∀ w ∈ ws, OkT w) (h2 : ∀ w ∈ vs, OkT w) : eqZ neg ph (.tup (ws.map fun w => PV.str (S w))) (.tup (vs.map fun w => PV.str (S w))) = some (.bl (if neg then !decide (ws = vs) else decide (ws = vs))) := by
  unfold eqZ
  rw [dOf_strs, dOf_strs]
  show (if SeqAt.shaped (.tuple (ws.map dS)) && SeqAt.shaped (.tuple (vs.map dS)) then _ else _) = _
  rw [(shaped_strs h).1, (shaped_strs h2).1, if_pos (show (true && true) = true from rfl), PyData.eqv, eqvAll_dS]
theorem eqZ_non_str {ph : PH} {neg : Bool} {a : List Nat} (h : OkT a) : eqZ neg ph .non (.str (S a)) = some (.bl neg) := by
  have e : eqZ neg ph .non (.str (S a)) = if SeqAt.shaped .none && SeqAt.shaped (.str (S a)) then some (.bl (if neg then !PyData.eqv .none (.str (S a)) else PyData.eqv .none (.str (S a)))) else none := rfl
  rw [e, show SeqAt.shaped .none = true from by simp [SeqAt.shaped, PyData.canLay0, PyData.depth], shaped_str h, if_pos (show (true && true) = true from rfl)]
  cases neg <;> simp [PyData.eqv]
/-! the heap's end -/
theorem app_r {ph : PH} {o : PO} : (ph ++ [o])[ph.length]? = some o := by simp
theorem app_l {ph : PH} {o p : PO} {n : Nat} (h : ph[n]? = some p) : (ph ++ [o])[n]? = some p := by
  rw [List.getElem?_append_left (List.getElem?_eq_some_iff.mp h).1]; exact h
theorem app_setr {ph : PH} {o p : PO} : (ph ++ [o]).set ph.length p = ph ++ [p] := by
  rw [List.set_append_right _ _ (Nat.le_refl _)]; simp
theorem app_setl {ph : PH} {o p q : PO} {n : Nat} (h : ph[n]? = some q) : (ph ++ [o]).set n p = ph.set n p ++ [o] := List.set_append_left _ _ (List.getElem?_eq_some_iff.mp h).1
theorem clL_strs (n : Nat) : ∀ ws : List (List Nat), PV.clL n (ws.map fun w => .str (S w)) = true
  | [] => by simp [PV.clL]
  | w :: ws => by
    rw [List.map_cons, PV.clL, clL_strs n ws]
    simp [PV.cl]
theorem clL_ints (n : Nat) : ∀ ws : List Int, PV.clL n (ws.map .int) = true
  | [] => by simp [PV.clL]
  | w :: ws => by
    rw [List.map_cons, PV.clL, clL_ints n ws]
    simp [PV.cl]
theorem dFn_tail {n : Nat} {b : DS} {args : List PV} {ph ph1 tl : PH} {v : PV} (h : b (envZ n args) ph = .rt v (ph1 ++ tl)) (hl : ph1.length = ph.length) (hn : ∀ k, v ≠ .loc k) (hv : v.cl ph.length = true) (ho : ∀ (i : Nat) (o : PO), ph1[i]? = some o → ph[i]? = some o ∨ o.cl ph.length = true) : dFn n b args ph = .ok v ph1 := by
  cases tl with
  | nil =>
    rw [List.append_nil] at h
    exact dFn_rtS h hl
  | cons t ts =>
    unfold dFn finZ
    rw [h]
    show gc ph v (ph1 ++ t :: ts) = _
    rw [gc_take (by rw [unl_plain hn]; exact hv) (fun i o hi e => ho i o (by rw [List.getElem?_append_left (by omega)] at e; exact e)) (by simp; omega), unl_plain hn, ← hl, List.take_left]
theorem ho_same {ph : PH} : ∀ (i : Nat) (o : PO), ph[i]? = some o → ph[i]? = some o ∨ o.cl ph.length = true := fun _ _ h => .inl h
theorem ho_set {ph : PH} {n : Nat} {x : PO} (h : x.cl ph.length = true) : ∀ (i : Nat) (o : PO), (ph.set n x)[i]? = some o → ph[i]? = some o ∨ o.cl ph.length = true := fun i o e => by
  by_cases hi : n = i
  · subst hi
    rw [List.getElem?_set] at e
    split at e
    · split at e
      · cases e; exact .inr h
      · cases e
    · exact .inl e
  · rw [List.getElem?_set_ne hi] at e
    exact .inl e
theorem wh_stop {c : DT} {b : DS} {n : Nat} {env : ZEnv} {ph ph1 : PH} (h : c env ph = .ok false ph1) : whZ c b (n + 1) env ph = .nx env ph1 := by
  unfold whZ
  rw [h]; rfl
theorem wh_go {c : DT} {b : DS} {n : Nat} {env e : ZEnv} {ph ph1 ph2 : PH} (h : c env ph = .ok true ph1) (h2 : b env ph1 = .nx e ph2) : whZ c b (n + 1) env ph = whZ c b n e ph2 := by
  rw [whZ]
  rw [h]
  simp only [ok_st, if_true, h2]
theorem appendZ_at {ph : PH} {n : Nat} {xs : List PV} {v : PV} (h : ph[n]? = some (.lst xs)) (hl : xs.length < 10000) : appendZ ph (.loc n) [v] = some (.non, ph.set n (.lst (xs ++ [v]))) := by
  unfold appendZ
  simp only [h]
  rw [if_pos (by rw [sizeLine_eq]; omega)]
theorem tyOk_str {ph : PH} {x : Str} : tyOk "str" ph (.str x) = true := rfl
theorem tyOk_lst {ph : PH} {n : Nat} {xs : List PV} (h : ph[n]? = some (.lst xs)) : tyOk "list" ph (.loc n) = true := by
  unfold tyOk
  simp only [h]
  rfl
theorem tupTyZ_loc {ph : PH} {n : Nat} {xs : List PV} (h : ph[n]? = some (.lst xs)) : tupTyZ ph [.loc n] = some (.tup xs) := by
  have e : rz ph (.loc n) = .lst xs := by
    unfold rz
    simp only [h]
  unfold tupTyZ seqA
  simp only [e]
  rfl
theorem tupStrZ_S {ph : PH} {a : List Nat} (h : a.length ≤ 1000) : tupStrZ ph [.str (S a)] = some (.tup (a.map fun c => .str (S [c]))) := by
  have e : tupStrZ ph [.str (S a)] = if (S a).cps.size ≤ 1000 then some (.tup (signsP (S a))) else none := rfl
  rw [e, if_pos (by simpa using h)]
  rfl
theorem addZ_tup {ph : PH} {xs ys : List PV} (h : xs.length + ys.length ≤ 10000) : addZ ph (.tup xs) (.tup ys) = some (.tup (xs ++ ys)) := if_pos (by rw [sizeLine_eq]; omega)
/-! pairs of ints -/
theorem msort2 {α : Type} (le : α → α → Bool) (x y : α) : List.mergeSort [x, y] le = if le x y then [x, y] else [y, x] := by
  unfold List.mergeSort
  simp [List.MergeSort.Internal.splitInTwo, List.merge]
theorem msort1 {α : Type} (le : α → α → Bool) (x : α) : List.mergeSort [x] le = [x] := by simp
theorem msort0 {α : Type} (le : α → α → Bool) : List.mergeSort ([] : List α) le = [] := by simp
abbrev spanP (p : Int × Int) : PV := .tup [.int p.1, .int p.2]
abbrev spanD (p : Int × Int) : PyData := .tuple [.int p.1, .int p.2]
theorem le_span (p q : Int × Int) : PySem.W.dataLe false encD (spanP p) (spanP q) = !(decide (q.1 < p.1) || (!decide (p.1 < q.1) && decide (q.2 < p.2))) := by
  have e1 : encD (spanP p) = .tuple [.int p.1, .int p.2] := by simp [encD, PV.toD, PV.toDL]
  have e2 : encD (spanP q) = .tuple [.int q.1, .int q.2] := by simp [encD, PV.toD, PV.toDL]
  show (!PyProof.Rows.lexLt PyProof.Rows.itemOrd (PySem.W.keyToks (encD (spanP q))) (PySem.W.keyToks (encD (spanP p)))) = _
  rw [e1, e2]
  simp [PySem.W.keyToks, PySem.W.keyToksAll, PyProof.Rows.lexLt, PyProof.Rows.itemLt]
theorem toD_span (p : Int × Int) : (spanP p).toD = some (spanD p) := by simp [PV.toD, PV.toDL]
theorem toDL_spans : ∀ xs : List (Int × Int), PV.toDL (xs.map spanP) = some (xs.map spanD)
  | [] => by simp [PV.toDL]
  | x :: xs => by
    have ih := toDL_spans xs
    simp only [List.map_cons, PV.toDL, toD_span, ih]
theorem shaped_span (p : Int × Int) : SeqAt.shaped (spanD p) = true := by simp [SeqAt.shaped, PyData.canLay0, PyData.canLayAll0, PyData.depth, PyData.depthAll]
theorem shaped_spans (xs : List (Int × Int)) : PyData.canLayAll0 (xs.map spanD) = true ∧ PyData.depthAll (xs.map spanD) ≤ 1 := by
  induction xs with
  | nil => simp [PyData.canLayAll0, PyData.depthAll]
  | cons x xs ih =>
    rw [List.map_cons, PyData.canLayAll0, PyData.depthAll, ih.1]
    refine ⟨by simp [PyData.canLay0, PyData.canLayAll0], ?_⟩
    have : (spanD x).depth = 1 := by simp [PyData.depth, PyData.depthAll]
    have := ih.2
    omega
theorem shaped_spansL (xs : List (Int × Int)) : SeqAt.shaped (.list (xs.map spanD)) = true ∧ SeqAt.shaped (.tuple (xs.map spanD)) = true := by
  obtain ⟨h1, h2⟩ := shaped_spans xs
  unfold SeqAt.shaped
  rw [PyData.canLay0, PyData.canLay0, h1, PyData.depth, PyData.depth]
  exact ⟨by simp; omega, by simp; omega⟩
theorem eqv_span (p q : Int × Int) : PyData.eqv (spanD p) (spanD q) = decide (p = q) := by
  obtain ⟨a, b⟩ := p
  obtain ⟨c, d⟩ := q
  simp only [PyData.eqv, PyData.eqvAll, Bool.and_true, eqb_int, Prod.mk.injEq]
  by_cases h1 : a = c <;> by_cases h2 : b = d <;> simp [h1, h2]
theorem any_span {p : Int × Int} (xs : List (Int × Int)) : ((xs.map spanD).any fun z => PyData.eqv z (spanD p)) = decide (p ∈ xs) := by
  induction xs with
  | nil => rfl
  | cons v xs ih =>
    rw [List.map_cons, List.any_cons, ih, eqv_span]
    by_cases h1 : v = p
    · subst h1; simp
    · have : ¬ p = v := fun e => h1 e.symm
      simp [h1, this]
theorem inZ_spans {ph : PH} {neg : Bool} {p : Int × Int} {xs : List (Int × Int)} {f : Nat} (h : ph[f]? = some (.lst (xs.map spanP))) : inZ neg ph (spanP p) (.loc f) = some (.bl (if neg then !decide (p ∈ xs) else decide (p ∈ xs))) := by
  have e : inZ neg ph (spanP p) (.loc f) = match dOf ph (spanP p), dOf ph (.loc f) with
    | some d, some c => (inDat d c).map fun k => .bl (if neg then !k else k)
    | _, _ => none := rfl
  have e2 : dOf ph (.loc f) = some (.list (xs.map spanD)) := by
    unfold dOf rz
    simp only [h]
    rw [PV.toD, toDL_spans]
    rfl
  have e3 : dOf ph (spanP p) = some (spanD p) := toD_span p
  rw [e, e2, e3]
  simp only
  unfold inDat
  simp only [shaped_span, (shaped_spansL xs).1, Bool.and_self, if_true, Option.map_some, any_span]
theorem eqZ_spans_nil {ph : PH} {neg : Bool} {xs : List (Int × Int)} {f : Nat} (h : ph[f]? = some (.lst (xs.map spanP))) : eqZ neg ph (.loc f) (.lst []) = some (.bl (if neg then !decide (xs = []) else decide (xs = []))) := by
  have e2 : dOf ph (.loc f) = some (.list (xs.map spanD)) := by
    unfold dOf rz
    simp only [h]
    rw [PV.toD, toDL_spans]
    rfl
  have e3 : dOf ph (.lst []) = some (.list []) := by show (PV.lst []).toD = _; simp [PV.toD, PV.toDL]
  unfold eqZ
  rw [e2, e3]
  simp only [(shaped_spansL xs).1, show SeqAt.shaped (.list []) = true from (shaped_spansL []).1, Bool.and_self, if_true]
  cases xs with
  | nil => simp [PyData.eqv, PyData.eqvAll]
  | cons x xs => simp [PyData.eqv, PyData.eqvAll]
theorem sortZ_spans {ph : PH} {xs : List (Int × Int)} {f : Nat} (h : ph[f]? = some (.lst (xs.map spanP))) : sortZ ph [.loc f] = some (.lst ((xs.map spanP).mergeSort (PySem.W.dataLe false encD))) := by
  have e : seqL ph (.loc f) = some (xs.map spanP) := by
    unfold seqL rz
    simp only [h]
  have em : (xs.map spanP).map encD = xs.map spanD := by
    rw [List.map_map]
    refine List.map_congr_left fun p _ => ?_
    simp [encD, PV.toD, PV.toDL]
  unfold sortZ
  simp only [e]
  rw [if_pos]
  refine ⟨fun x hx => ?_, ?_, ?_⟩
  · obtain ⟨p, _, rfl⟩ := List.mem_map.mp hx
    have e3 : encD (spanP p) = spanD p := by simp [encD, PV.toD, PV.toDL]
    rw [toD_span, e3]
    refine ⟨(fun z => nomatch z), ?_⟩
    simp [PyData.depth, PyData.depthAll]
  · rw [em]
    intro d hd d' hd'
    obtain ⟨p, _, rfl⟩ := List.mem_map.mp hd
    obtain ⟨q, _, rfl⟩ := List.mem_map.mp hd'
    simp [PySem.W.alike, PySem.W.alikeAll]
  · rw [em]
    refine .inl fun d hd => ?_
    obtain ⟨p, _, rfl⟩ := List.mem_map.mp hd
    exact ⟨_, _, rfl⟩
theorem slZ_to {ph : PH} {a : List Nat} {i : Int} (h : 0 ≤ i) (hl : a.length ≤ 10000) : slZ ph (.str (S a)) none (some i) = some (.str (S (a.take i.toNat))) := by rw [slZ_str hl, SX.slice_to h]
theorem slZ_from {ph : PH} {a : List Nat} {i : Int} (h : 0 ≤ i) (hl : a.length ≤ 10000) : slZ ph (.str (S a)) (some i) none = some (.str (S (a.drop i.toNat))) := by rw [slZ_str hl, SX.slice_from h]
theorem for_cons {it : ItV} {g : DGt} {b : DS} {p : PV} {ps : List PV} {env e : ZEnv} {ph ph1 : PH} {l : List (Nat × PV)} (hc : it.chk ph) (hg : g p = some l) (hb : b (setsE env l) ph = .nx e ph1) : forZ it g b (p :: ps) env ph = forZ it g b ps e ph1 := by
  rw [forZ]
  rw [if_pos hc]
  simp only [hg, hb]
theorem for_nil {it : ItV} {g : DGt} {b : DS} {env : ZEnv} {ph : PH} (hc : it.chk ph) : forZ it g b [] env ph = .nx env ph := by
  rw [forZ, if_pos hc]
theorem extendZ_at {ph : PH} {n : Nat} {xs ys : List PV} (h : ph[n]? = some (.lst xs)) (hl : xs.length + ys.length < 10000) : extendZ ph (.loc n) [.lst ys] = some (.non, ph.set n (.lst (xs ++ ys))) := by
  unfold extendZ
  simp only [h]
  rw [if_pos (by rw [sizeLine_eq]; omega)]
/-! texts of small ints -/
def iT (i : Int) : List Nat := (Str.ofString (toString i)).cps.toList
def chkI (i : Int) : Bool :=
  (iT i).all (fun c => decide (c < 128) && decide (c ≠ 32)) && decide ((iT i).length ≤ 3) && decide (iT i ≠ []) && decide (i.natAbs.log2 < 1920) && decide (PySem.intText? (S (iT i)) = some i) &&
    (decide ((if (iT i).take 1 = [45] then (iT i).drop 1 else iT i) ≠ []) && (if (iT i).take 1 = [45] then (iT i).drop 1 else iT i).all (fun c => decide (48 ≤ c) && decide (c ≤ 57)) && (decide ((if (iT i).take 1 = [45] then (iT i).drop 1 else iT i).head? ≠ some 48) || decide (iT i = [48])))
theorem chkI_all : ∀ k ∈ List.range 61, chkI ((k : Int) - 30) = true := by decide +kernel
theorem chkI_ok {i : Int} (h0 : -30 ≤ i) (h1 : i ≤ 30) : chkI i = true := by
  have := chkI_all (i + 30).toNat (by simp; omega)
  rw [show (((i + 30).toNat : Nat) : Int) - 30 = i from by omega] at this
  exact this
structure IT (i : Int) : Prop where
  ch : ∀ c ∈ iT i, c < 128 ∧ c ≠ 32
  len : (iT i).length ≤ 3
  ne : iT i ≠ []
  lg : i.natAbs.log2 < 1920
  back : PySem.intText? (S (iT i)) = some i
  dne : (if (iT i).take 1 = [45] then (iT i).drop 1 else iT i) ≠ []
  dch : ∀ c ∈ (if (iT i).take 1 = [45] then (iT i).drop 1 else iT i), 48 ≤ c ∧ c ≤ 57
  d0 : (if (iT i).take 1 = [45] then (iT i).drop 1 else iT i).head? ≠ some 48 ∨ iT i = [48]
theorem iT_ok {i : Int} (h0 : -30 ≤ i) (h1 : i ≤ 30) : IT i := by
  have h := chkI_ok h0 h1
  unfold chkI at h
  simp only [Bool.and_eq_true, Bool.or_eq_true, decide_eq_true_eq, List.all_eq_true] at h
  obtain ⟨⟨⟨⟨⟨a, b⟩, c⟩, d⟩, e⟩, ⟨f, g⟩, k⟩ := h
  exact ⟨a, b, c, d, e, f, g, k⟩
theorem strTyZ_iT {ph : PH} {i : Int} (h : IT i) : strTyZ ph [.int i] = some (.str (S (iT i))) := by
  have q : strTyZ ph [.int i] = if i.natAbs.log2 < 1920 then some (.str (Str.ofString (toString i))) else none := rfl
  rw [q, if_pos h.lg, iT, SX.S_tl]
theorem intTyZ_iT {ph : PH} {i : Int} (h : IT i) : intTyZ ph [.str (S (iT i))] = some (.int i) := by
  have q : intTyZ ph [.str (S (iT i))] = if (S (iT i)).length ≤ 640 then (PySem.intText? (S (iT i))).map .int else none := rfl
  rw [q, if_pos (by rw [SX.S_len]; have := h.len; omega), h.back]
  rfl
theorem dFnR_rt {n : Nat} {b : DS} {args : List PV} {ph ph' : PH} {v : PV} (h : b (envZ n args) ph = .rt v ph') : dFnR n b args ph = .ok v ph' := by
  unfold dFnR finR
  rw [h]
theorem dFn_any {n : Nat} {b : DS} {args : List PV} {ph ph' : PH} {v : PV} (h : b (envZ n args) ph = .rt v ph') (hn : ∀ k, v ≠ .loc k) : ∃ q, dFn n b args ph = .ok v q := by
  unfold dFn finZ
  rw [h]
  show ∃ q, gc ph v ph' = _
  unfold gc
  split
  · exact ⟨_, rfl⟩
  · split
    · exact ⟨_, by rw [unl_plain hn]⟩
    · exact ⟨_, rfl⟩
theorem rngI_get {j : Int} {k : Nat} {p : PV} (h : (rngI 0 j)[k]? = some p) : p = .int (k : Int) ∧ k < j.toNat := by
  unfold rngI at h
  rw [List.getElem?_map] at h
  have hk : k < j.toNat := by
    cases e : (List.range (j - 0).toNat)[k]? with
    | none => rw [e] at h; cases h
    | some x => have := (List.getElem?_eq_some_iff.mp e).1; simpa using this
  rw [List.getElem?_range (by simpa using hk)] at h
  simp at h
  exact ⟨h.symm, hk⟩
end OfP
namespace OfP.K89
open PySem PySem.Spec L2 OfP
open PyProof.Rows hiding St
/-! printed by gen.py: the mirrors and their derivations -/
def top (i : Nat) : Stmt := PySem.Challenge.pw_officepapers_k89_calendars_routes_and_co.main.body.getD i (.Pass ⟨0, 0, 0, 0⟩)
abbrev clsSt (i j : Nat) : Stmt := (clsBody (top i)).getD j (.Pass ⟨0, 0, 0, 0⟩)

/-- is_integer: 0 thing, 1 low, 2 high -/
noncomputable def b_is_integer : DS := sSeq (sIf (mOrT (mNotT (mTru (mCB isinstZ (mCons (eVar 0) (mCons (eC (.ty "int")) (mNil)))))) (mTru (mCB isinstZ (mCons (eVar 0) (mCons (eC (.ty "bool")) (mNil)))))) (sRet (eC (.bl false))) (sNil)) (sRet (mAndV (mOrV (mBin (isNZ false) (eVar 1) (eC .non)) (mBin leZ (eVar 1) (eVar 0))) (mOrV (mBin (isNZ false) (eVar 2) (eC .non)) (mBin leZ (eVar 0) (eVar 2)))))
noncomputable def m_is_integer : DF := dFn 3 b_is_integer
/-- is_scheme: 0 thing, 1 base, 2 modulus, 3 weights, 4 rest, 5 weight -/
noncomputable def lc_is_scheme_0 : DE := mLC [5] (iSeq (eVar 3)) (tgName 5) (tYesZ) (mCall 3 (m_is_integer) [] (mCons (eVar 5) (mCons (eC (.int 0)) (mCons (mBin subZ (eVar 2) (eC (.int 1))) (mNil)))))
noncomputable def b_is_scheme : DS := sSeq (sIf (mOrT (mNotT (mTru (mCB isinstZ (mCons (eVar 0) (mCons (eC (.ty "tuple")) (mNil)))))) (mBinT (eqZ true) (mCB lenZ (mCons (eVar 0) (mNil))) (eC (.int 4)))) (sRet (eC (.bl false))) (sNil)) (sSeq (sUnp (tgTup 4 (tgCons (tgName 1) (tgCons (tgName 2) (tgCons (tgName 3) (tgCons (tgName 4) (tgNil)))))) (eVar 0)) (sSeq (sIf (mOrT (mNotT (mTru (mCall 3 (m_is_integer) [] (mCons (eVar 1) (mCons (eC (.int 2)) (mCons (eC (.int 10)) (mNil))))))) (mNotT (mTru (mCall 3 (m_is_integer) [] (mCons (eVar 2) (mCons (eC (.int 2)) (mCons (eC (.int 30)) (mNil)))))))) (sRet (eC (.bl false))) (sNil)) (sSeq (sIf (mOrT (mNotT (mTru (mCB isinstZ (mCons (eVar 3) (mCons (eC (.ty "tuple")) (mNil)))))) (mNotT (mChainT leZ leZ (eC (.int 2)) (mCB lenZ (mCons (eVar 3) (mNil))) (eC (.int 6))))) (sRet (eC (.bl false))) (sNil)) (sRet (mAndV (mCall 3 (m_is_integer) [] (mCons (eVar 4) (mCons (eC (.int 0)) (mCons (mBin subZ (eVar 2) (eC (.int 1))) (mNil))))) (mCB allZ (mCons (lc_is_scheme_0) (mNil))))))))
noncomputable def m_is_scheme : DF := dFn 6 b_is_scheme
/-- need_scheme: 0 thing -/
noncomputable def b_need_scheme : DS := sIf (mNotT (mTru (mCall 1 (m_is_scheme) [] (mCons (eVar 0) (mNil))))) (sBad) (sNil)
noncomputable def m_need_scheme : DF := dFn 1 b_need_scheme
/-- integer_in: 0 word, 1 digits, 2 sign -/
noncomputable def lc_integer_in_0 : DE := mLC [2] (iText (eVar 1)) (tgName 2) (tYesZ) (mBin (inZ false) (eVar 2) (eC (.str "0123456789")))
noncomputable def b_integer_in : DS := sSeq (sSet 1 (mIf (mBinT (eqZ false) (mSl (eVar 0) (oNone) (oSome (eC (.int 1)))) (eC (.str "-"))) (mSl (eVar 0) (oSome (eC (.int 1))) (oNone)) (eVar 0))) (sSeq (sIf (mOrT (mBinT (eqZ false) (eVar 1) (eC (.str ""))) (mOrT (mBinT gtZ (mCB lenZ (mCons (eVar 1) (mNil))) (eC (.int 30))) (mNotT (mTru (mCB allZ (mCons (lc_integer_in_0) (mNil))))))) (sRet (eC .non)) (sNil)) (sSeq (sIf (mAndT (mBinT (eqZ false) (mBin ixZ (eVar 1) (eC (.int 0))) (eC (.str "0"))) (mBinT (eqZ true) (eVar 0) (eC (.str "0")))) (sRet (eC .non)) (sNil)) (sRet (mCB intTyZ (mCons (eVar 0) (mNil))))))
noncomputable def m_integer_in : DF := dFn 3 b_integer_in
/-- Words.__init__: 0 self, 1 text -/
noncomputable def b_Words___init__ : DS := sSeq (sIf (mNotT (mTru (mCB isinstZ (mCons (eVar 1) (mCons (eC (.ty "str")) (mNil)))))) (sBad) (sNil)) (sSeq (sSetFld "Words" "all_words" (eVar 0) (mBM "str" splitZ (eVar 1) (mCons (eC (.str " ")) (mNil)))) (sSetFld "Words" "next_index" (eVar 0) (eC (.int 0))))
noncomputable def m_Words___init__ : DF := dFn 2 b_Words___init__
/-- Words.peek: 0 self -/
noncomputable def b_Words_peek : DS := sSeq (sIf (mBinT ltZ (mFld "Words" "next_index" (eVar 0)) (mCB lenZ (mCons (mFld "Words" "all_words" (eVar 0)) (mNil)))) (sRet (mBin ixZ (mFld "Words" "all_words" (eVar 0)) (mFld "Words" "next_index" (eVar 0)))) (sNil)) (sRet (eC .non))
noncomputable def m_Words_peek : DF := dFn 1 b_Words_peek
/-- Words.skip: 0 self -/
noncomputable def b_Words_skip : DS := sAugFld addI "Words" "next_index" (eVar 0) (eC (.int 1))
noncomputable def m_Words_skip : DF := dFn 1 b_Words_skip
/-- Words.one_of: 0 self, 1 choices, 2 word -/
noncomputable def b_Words_one_of : DS := sSeq (sSet 2 (mMeth "Words" "peek" 1 (m_Words_peek) [] (eVar 0) mNil)) (sSeq (sIf (mOrT (mBinT (isNZ false) (eVar 2) (eC .non)) (mBinT (inZ true) (eVar 2) (eVar 1))) (sBad) (sNil)) (sSeq (sExpr (mMeth "Words" "skip" 1 (m_Words_skip) [] (eVar 0) mNil)) (sRet (eVar 2))))
noncomputable def m_Words_one_of : DF := dFn 3 b_Words_one_of
/-- Words.integer: 0 self, 1 least, 2 most, 3 word, 4 value -/
noncomputable def b_Words_integer : DS := sSeq (sSet 3 (mMeth "Words" "peek" 1 (m_Words_peek) [] (eVar 0) mNil)) (sSeq (sSet 4 (mIf (mBinT (isNZ true) (eVar 3) (eC .non)) (mCall 1 (m_integer_in) [] (mCons (eVar 3) (mNil))) (eC .non))) (sSeq (sIf (mOrT (mBinT (isNZ false) (eVar 4) (eC .non)) (mNotT (mChainT leZ leZ (eVar 1) (eVar 4) (eVar 2)))) (sBad) (sNil)) (sSeq (sExpr (mMeth "Words" "skip" 1 (m_Words_skip) [] (eVar 0) mNil)) (sRet (eVar 4)))))
noncomputable def m_Words_integer : DF := dFn 5 b_Words_integer
/-- Words.end: 0 self -/
noncomputable def b_Words_end : DS := sIf (mBinT (isNZ true) (mMeth "Words" "peek" 1 (m_Words_peek) [] (eVar 0) mNil) (eC .non)) (sBad) (sNil)
noncomputable def m_Words_end : DF := dFn 1 b_Words_end
/-- show_calendar: 0 calendar, 1 words, 2 pattern, 3 closed, 4 opened, 5 name, 6 spans, 7 first, 8 last -/
noncomputable def fo_show_calendar_0 : DS := sFor (iSeq (eVar 6)) (tgTup 2 (tgCons (tgName 7) (tgCons (tgName 8) (tgNil)))) (sExpr (mBM "list" extendZ (eVar 1) (mCons (mLst (mCons (eVar 5) (mCons (mCB strTyZ (mCons (eVar 7) (mNil))) (mCons (mCB strTyZ (mCons (eVar 8) (mNil))) (mNil))))) (mNil))))
noncomputable def fo_show_calendar_1 : DS := sFor (iSeq (mTup (mCons (mTup (mCons (eC (.str "closed")) (mCons (eVar 3) (mNil)))) (mCons (mTup (mCons (eC (.str "opened")) (mCons (eVar 4) (mNil)))) (mNil))))) (tgTup 2 (tgCons (tgName 5) (tgCons (tgName 6) (tgNil)))) (fo_show_calendar_0)
noncomputable def b_show_calendar : DS := sSeq (sUnp (tgTup 3 (tgCons (tgName 2) (tgCons (tgName 3) (tgCons (tgName 4) (tgNil))))) (eVar 0)) (sSeq (sSetL 1 (mLst (mCons (eVar 2) (mNil)))) (sSeq (fo_show_calendar_1) (sRet (mBM "str" joinZ (eC (.str " ")) (mCons (eVar 1) (mNil))))))
noncomputable def m_show_calendar : DF := dFn 9 b_show_calendar
/-- show_route: 0 route -/
noncomputable def b_show_route : DS := sRet (mIf (mBinT (eqZ true) (eVar 0) (mTup (mNil))) (mBM "str" joinZ (eC (.str " ")) (mCons (eVar 0) (mNil))) (eC (.str ".")))
noncomputable def m_show_route : DF := dFn 1 b_show_route
/-- show_code: 0 code, 1 digit -/
noncomputable def lc_show_code_0 : DE := mLC [1] (iSeq (eVar 0)) (tgName 1) (tYesZ) (mCB strTyZ (mCons (eVar 1) (mNil)))
noncomputable def b_show_code : DS := sRet (mBM "str" joinZ (eC (.str "")) (mCons (lc_show_code_0) (mNil)))
noncomputable def m_show_code : DF := dFn 2 b_show_code
/-- is_pattern: 0 word, 1 sign -/
noncomputable def lc_is_pattern_0 : DE := mLC [1] (iText (eVar 0)) (tgName 1) (tYesZ) (mBin (inZ false) (eVar 1) (eC (.str "o-")))
noncomputable def b_is_pattern : DS := sRet (mAndV (mChain leZ leZ (eC (.int 1)) (mCB lenZ (mCons (eVar 0) (mNil))) (eC (.int 4))) (mAndV (mBin (inZ false) (eC (.str "o")) (eVar 0)) (mCB allZ (mCons (lc_is_pattern_0) (mNil)))))
noncomputable def m_is_pattern : DF := dFn 2 b_is_pattern
/-- next_spans: 0 words, 1 name, 2 found, 3 first, 4 least -/
noncomputable def wh_next_spans_0 : DS := sWhile 4 (mAndT (mBinT (eqZ false) (mMeth "Words" "peek" 1 (m_Words_peek) [] (eVar 0) mNil) (eVar 1)) (mBinT ltZ (mCB lenZ (mCons (eVar 2) (mNil))) (eC (.int 2)))) (sSeq (sExpr (mMeth "Words" "skip" 1 (m_Words_skip) [] (eVar 0) mNil)) (sSeq (sSet 3 (mMeth "Words" "integer" 3 (m_Words_integer) [] (eVar 0) (mCons (eC (.int (-30))) (mCons (eC (.int 30)) (mNil))))) (sSeq (sSet 4 (eVar 3)) (sSeq (sIf (mAndT (mBinT (eqZ true) (eVar 2) (mLst (mNil))) (mBinT leZ (eVar 3) (mBin ixZ (mBin ixZ (eVar 2) (mUn negZ (eC (.int 1)))) (eC (.int 0))))) (sSet 4 (mIf (mBinT (eqZ false) (eVar 3) (mBin ixZ (mBin ixZ (eVar 2) (mUn negZ (eC (.int 1)))) (eC (.int 0)))) (mBin addZ (mBin ixZ (mBin ixZ (eVar 2) (mUn negZ (eC (.int 1)))) (eC (.int 1))) (eC (.int 1))) (mBin addZ (eC (.int 30)) (eC (.int 1))))) (sNil)) (sExpr (mBM "list" appendZ (eVar 2) (mCons (mTup (mCons (eVar 3) (mCons (mMeth "Words" "integer" 3 (m_Words_integer) [] (eVar 0) (mCons (eVar 4) (mCons (eC (.int 30)) (mNil)))) (mNil)))) (mNil))))))))
noncomputable def b_next_spans : DS := sSeq (sSetL 2 (mLst (mNil))) (sSeq (wh_next_spans_0) (sRet (mCB tupTyZ (mCons (eVar 2) (mNil)))))
noncomputable def m_next_spans : DF := dFn 5 b_next_spans
/-- read_calendar: 0 text, 1 words, 2 pattern, 3 closed, 4 opened -/
noncomputable def b_read_calendar : DS := sSeq (sSet 1 (mMake "Words" 2 (m_Words___init__) [] (mCons (eVar 0) (mNil)))) (sSeq (sSet 2 (mMeth "Words" "peek" 1 (m_Words_peek) [] (eVar 1) mNil)) (sSeq (sIf (mNotT (mTru (mCall 1 (m_is_pattern) [] (mCons (eVar 2) (mNil))))) (sBad) (sNil)) (sSeq (sExpr (mMeth "Words" "skip" 1 (m_Words_skip) [] (eVar 1) mNil)) (sSeq (sSet 3 (mCall 2 (m_next_spans) [] (mCons (eVar 1) (mCons (eC (.str "closed")) (mNil))))) (sSeq (sSet 4 (mCall 2 (m_next_spans) [] (mCons (eVar 1) (mCons (eC (.str "opened")) (mNil))))) (sSeq (sExpr (mMeth "Words" "end" 1 (m_Words_end) [] (eVar 1) mNil)) (sRet (mTup (mCons (eVar 2) (mCons (eVar 3) (mCons (eVar 4) (mNil))))))))))))
noncomputable def m_read_calendar : DF := dFn 5 b_read_calendar
/-- next_route: 0 words, 1 letters, 2 found -/
noncomputable def wh_next_route_0 : DS := sWhile 12 (mAndT (mBinT (inZ false) (mMeth "Words" "peek" 1 (m_Words_peek) [] (eVar 0) mNil) (eVar 1)) (mBinT ltZ (mCB lenZ (mCons (eVar 2) (mNil))) (eC (.int 8)))) (sExpr (mBM "list" appendZ (eVar 2) (mCons (mMeth "Words" "one_of" 2 (m_Words_one_of) [] (eVar 0) (mCons (eVar 1) (mNil))) (mNil))))
noncomputable def b_next_route : DS := sSeq (sIf (mBinT (eqZ false) (mMeth "Words" "peek" 1 (m_Words_peek) [] (eVar 0) mNil) (eC (.str "."))) (sSeq (sExpr (mMeth "Words" "skip" 1 (m_Words_skip) [] (eVar 0) mNil)) (sRet (mTup (mNil)))) (sNil)) (sSeq (sSetL 2 (mLst (mCons (mMeth "Words" "one_of" 2 (m_Words_one_of) [] (eVar 0) (mCons (eVar 1) (mNil))) (mNil)))) (sSeq (wh_next_route_0) (sRet (mCB tupTyZ (mCons (eVar 2) (mNil))))))
noncomputable def m_next_route : DF := dFn 3 b_next_route
/-- read_route: 0 text, 1 words, 2 found -/
noncomputable def b_read_route : DS := sSeq (sSet 1 (mMake "Words" 2 (m_Words___init__) [] (mCons (eVar 0) (mNil)))) (sSeq (sSet 2 (mCall 2 (m_next_route) [] (mCons (eVar 1) (mCons (mBin addZ (mCB tupStrZ (mCons (eC (.str "abcdefghijklmnopqrstuvwxyz")) (mNil))) (mTup (mCons (eC (.str "+")) (mNil)))) (mNil))))) (sSeq (sExpr (mMeth "Words" "end" 1 (m_Words_end) [] (eVar 1) mNil)) (sRet (eVar 2))))
noncomputable def m_read_route : DF := dFn 3 b_read_route
/-- read_code: 0 scheme, 1 text, 2 size, 3 digits, 4 place, 5 sign -/
noncomputable def fo_read_code_0 : DS := sFor (iEnumZ (mCons (eVar 1) (mNil))) (tgTup 2 (tgCons (tgName 4) (tgCons (tgName 5) (tgNil)))) (sIf (mOrT (mBinT geZ (eVar 4) (eVar 2)) (mBinT (inZ true) (eVar 5) (eVar 3))) (sBad) (sNil))
noncomputable def lc_read_code_0 : DE := mLC [5] (iText (eVar 1)) (tgName 5) (tYesZ) (mCB intTyZ (mCons (eVar 5) (mNil)))
noncomputable def b_read_code : DS := sSeq (sExpr (mCall 1 (m_need_scheme) [] (mCons (eVar 0) (mNil)))) (sSeq (sIf (mNotT (mTru (mCB isinstZ (mCons (eVar 1) (mCons (eC (.ty "str")) (mNil)))))) (sBad) (sNil)) (sSeq (sSet 2 (mCB lenZ (mCons (mBin ixZ (eVar 0) (eC (.int 2))) (mNil)))) (sSeq (sSet 3 (mSl (eC (.str "0123456789")) (oNone) (oSome (mBin ixZ (eVar 0) (eC (.int 0)))))) (sSeq (fo_read_code_0) (sSeq (sIf (mBinT ltZ (mCB lenZ (mCons (eVar 1) (mNil))) (eVar 2)) (sBad) (sNil)) (sRet (mCB tupTyZ (mCons (lc_read_code_0) (mNil)))))))))
noncomputable def m_read_code : DF := dFn 6 b_read_code
/-- _law_urn: 0 _law_script, 1 _law_k, 2 _law_cell -/
noncomputable def b_law_urn : DS := sSeq (sSet 2 (eC (.int 0))) (sSeq (sIf (mBinT ltZ (eVar 1) (mCB lenZ (mCons (eVar 0) (mNil)))) (sSet 2 (mBin ixZ (eVar 0) (eVar 1))) (sNil)) (sRetL (mLst (mCons (mCB maxZ (mCons (eC (.int 0)) (mCons (mBin subZ (eVar 2) (mBin powZ (eC (.int 10)) (eC (.int 18)))) (mNil)))) (mCons (mBin addZ (mBin addZ (mBin modZ (mCB intTyZ (mCons (eVar 2) (mNil))) (mBin addZ (mBin powZ (eC (.int 10)) (eC (.int 39))) (eC (.int 3)))) (mBin mulZ (mBin mulZ (eC (.int 977)) (eVar 1)) (eVar 1))) (eC (.int 13))) (mCons (eC (.int 0)) (mNil)))))))
noncomputable def m_law_urn : DF := dFnR 3 b_law_urn
/-- _law_draw: 0 _law_urn_here, 1 _law_many, 2 _law_mixed, 3 _law_found -/
noncomputable def b_law_draw : DS := sSeq (sIf (mBinT gtZ (mBin ixZ (eVar 0) (eC (.int 0))) (eC (.int 0))) (sSeq (sSet 3 (mBin modZ (mCB intTyZ (mCons (mBin ixZ (eVar 0) (eC (.int 0))) (mNil))) (eVar 1))) (sSeq (sSetIx (eVar 0) (eC (.int 0)) (mBin fdivZ (mBin ixZ (eVar 0) (eC (.int 0))) (eVar 1))) (sRet (eVar 3)))) (sNil)) (sSeq (sSetIx (eVar 0) (eC (.int 2)) (mBin addZ (mBin ixZ (eVar 0) (eC (.int 2))) (eC (.int 1)))) (sSeq (sSet 2 (mBin modZ (mCB intTyZ (mCons (mBin powZ (mBin addZ (mBin ixZ (eVar 0) (eC (.int 1))) (mBin mulZ (eC (.int 314159265358979)) (mBin ixZ (eVar 0) (eC (.int 2))))) (eC (.int 3))) (mNil))) (mBin addZ (mBin powZ (eC (.int 10)) (eC (.int 43))) (eC (.int 57))))) (sSeq (sSet 2 (mBin modZ (mCB intTyZ (mCons (mBin addZ (mBin mulZ (eVar 2) (eVar 2)) (mBin mulZ (eC (.int 271828182845904)) (mBin ixZ (eVar 0) (eC (.int 2))))) (mNil))) (mBin addZ (mBin powZ (eC (.int 10)) (eC (.int 42))) (eC (.int 63))))) (sRet (mBin modZ (mBin fdivZ (eVar 2) (mBin powZ (eC (.int 10)) (eC (.int 9)))) (eVar 1))))))
noncomputable def m_law_draw : DF := dFn 4 b_law_draw
/-- _law_same: 0 _law_found, 1 _law_due, 2 _law_one, 3 _law_other -/
noncomputable def lc_law_same_0 (r : DF) : DE := mLC [2, 3] (iZipZ (mCons (eVar 0) (mCons (eVar 1) (mNil)))) (tgTup 2 (tgCons (tgName 2) (tgCons (tgName 3) (tgNil)))) (tYesZ) (mCall 2 r [] (mCons (eVar 2) (mCons (eVar 3) (mNil))))
noncomputable def b_law_same (r : DF) : DS := sSeq (sIf (mTru (mCB isinstZ (mCons (eVar 1) (mCons (eC (.ty "tuple")) (mNil))))) (sSeq (sIf (mOrT (mNotT (mTru (mCB isinstZ (mCons (eVar 0) (mCons (eC (.ty "tuple")) (mNil)))))) (mBinT (eqZ true) (mCB lenZ (mCons (eVar 0) (mNil))) (mCB lenZ (mCons (eVar 1) (mNil))))) (sRet (eC (.bl false))) (sNil)) (sRet (mCB allZ (mCons (lc_law_same_0 r) (mNil))))) (sNil)) (sSeq (sIf (mTru (mCB isinstZ (mCons (eVar 1) (mCons (eC (.ty "int")) (mNil))))) (sRet (mAndV (mCB isinstZ (mCons (eVar 0) (mCons (eC (.ty "int")) (mNil)))) (mAndV (mNotV (mCB isinstZ (mCons (eVar 0) (mCons (eC (.ty "bool")) (mNil))))) (mBin (eqZ false) (eVar 0) (eVar 1))))) (sNil)) (sRet (mAndV (mCB isinstZ (mCons (eVar 0) (mCons (eC (.ty "str")) (mNil)))) (mBin (eqZ false) (eVar 0) (eVar 1)))))
noncomputable def m_law_same : Nat → DF
  | 0 => dFn 4 sBad
  | k + 1 => dFn 4 (b_law_same (m_law_same k))
/-- _law_spans: 0 _law_urn_here, 1 _law_found, 2 _law_turn, 3 _law_first, 4 _law_span -/
noncomputable def fo_law_spans_0 : DS := sFor (iRange1 (mCons (mCall 2 (m_law_draw) [] (mCons (eVar 0) (mCons (eC (.int 3)) (mNil)))) (mNil))) (tgName 2) (sSeq (sSet 3 (mBin subZ (mCall 2 (m_law_draw) [] (mCons (eVar 0) (mCons (eC (.int 61)) (mNil)))) (eC (.int 30)))) (sSeq (sSet 4 (mTup (mCons (eVar 3) (mCons (mCB minZ (mCons (eC (.int 30)) (mCons (mBin addZ (eVar 3) (mCall 2 (m_law_draw) [] (mCons (eVar 0) (mCons (mBin ixZ (mLst (mCons (eC (.int 61)) (mCons (eC (.int 3)) (mNil)))) (mCall 2 (m_law_draw) [] (mCons (eVar 0) (mCons (eC (.int 2)) (mNil))))) (mNil))))) (mNil)))) (mNil))))) (sIf (mBinT (inZ true) (eVar 4) (eVar 1)) (sExpr (mBM "list" appendZ (eVar 1) (mCons (eVar 4) (mNil)))) (sNil))))
noncomputable def b_law_spans : DS := sSeq (sSetL 1 (mLst (mNil))) (sSeq (fo_law_spans_0) (sRet (mCB tupTyZ (mCons (mCB sortZ (mCons (eVar 1) (mNil))) (mNil)))))
noncomputable def m_law_spans : DF := dFn 5 b_law_spans
/-- _law_calendar: 0 _law_urn_here, 1 _law_size, 2 _law_pattern, 3 _law_at, 4 _law_k -/
noncomputable def lc_law_calendar_0 : DE := mLC [4] (iRange1 (mCons (eVar 1) (mNil))) (tgName 4) (tYesZ) (mBin ixZ (eC (.str "o-")) (mCall 2 (m_law_draw) [] (mCons (eVar 0) (mCons (eC (.int 2)) (mNil)))))
noncomputable def b_law_calendar : DS := sSeq (sSet 1 (mBin addZ (eC (.int 1)) (mCall 2 (m_law_draw) [] (mCons (eVar 0) (mCons (eC (.int 4)) (mNil)))))) (sSeq (sSet 2 (mBM "str" joinZ (eC (.str "")) (mCons (lc_law_calendar_0) (mNil)))) (sSeq (sIf (mBinT (inZ true) (eC (.str "o")) (eVar 2)) (sSeq (sSet 3 (mCall 2 (m_law_draw) [] (mCons (eVar 0) (mCons (eVar 1) (mNil))))) (sSet 2 (mBin addZ (mBin addZ (mSl (eVar 2) (oNone) (oSome (eVar 3))) (eC (.str "o"))) (mSl (eVar 2) (oSome (mBin addZ (eVar 3) (eC (.int 1)))) (oNone))))) (sNil)) (sRet (mTup (mCons (eVar 2) (mCons (mCall 1 (m_law_spans) [] (mCons (eVar 0) (mNil))) (mCons (mCall 1 (m_law_spans) [] (mCons (eVar 0) (mNil))) (mNil))))))))
noncomputable def m_law_calendar : DF := dFn 5 b_law_calendar
/-- _law_route: 0 _law_urn_here, 1 _law_letters, 2 _law_few, 3 _law_k -/
noncomputable def lc_law_route_0 : DE := mLC [3] (iRange1 (mCons (mCall 2 (m_law_draw) [] (mCons (eVar 0) (mCons (eC (.int 9)) (mNil)))) (mNil))) (tgName 3) (tYesZ) (mBin ixZ (eVar 2) (mCall 2 (m_law_draw) [] (mCons (eVar 0) (mCons (mCB lenZ (mCons (eVar 2) (mNil))) (mNil)))))
noncomputable def b_law_route : DS := sSeq (sSet 1 (eC (.str "+abcdefghijklmnopqrstuvwxyz"))) (sSeq (sSet 2 (mBin ixZ (mLst (mCons (eVar 1) (mCons (eC (.str "+az")) (mNil)))) (mCall 2 (m_law_draw) [] (mCons (eVar 0) (mCons (eC (.int 2)) (mNil)))))) (sRet (mCB tupTyZ (mCons (lc_law_route_0) (mNil)))))
noncomputable def m_law_route : DF := dFn 4 b_law_route
/-- _law_scheme: 0 _law_urn_here, 1 _law_weights, 2 _law_base, 3 _law_modulus, 4 _law_k -/
noncomputable def lc_law_scheme_0 : DE := mLC [4] (iRange1 (mCons (mBin addZ (eC (.int 2)) (mCall 2 (m_law_draw) [] (mCons (eVar 0) (mCons (eC (.int 5)) (mNil))))) (mNil))) (tgName 4) (tYesZ) (mCall 2 (m_law_draw) [] (mCons (eVar 0) (mCons (eVar 3) (mNil))))
noncomputable def b_law_scheme : DS := sSeq (sUnp (tgTup 2 (tgCons (tgName 2) (tgCons (tgName 3) (tgNil)))) (mTup (mCons (mBin addZ (eC (.int 2)) (mCall 2 (m_law_draw) [] (mCons (eVar 0) (mCons (eC (.int 9)) (mNil))))) (mCons (mBin addZ (eC (.int 2)) (mCall 2 (m_law_draw) [] (mCons (eVar 0) (mCons (eC (.int 29)) (mNil))))) (mNil))))) (sSeq (sSet 1 (mCB tupTyZ (mCons (lc_law_scheme_0) (mNil)))) (sRet (mTup (mCons (eVar 2) (mCons (eVar 3) (mCons (eVar 1) (mCons (mCall 2 (m_law_draw) [] (mCons (eVar 0) (mCons (eVar 3) (mNil)))) (mNil))))))))
noncomputable def m_law_scheme : DF := dFn 5 b_law_scheme
/-- _law_written: 0 _law_calendar_here, 1 _law_text, 2 _law_first, 3 _law_last -/
noncomputable def fo_law_written_0 : DS := sFor (iSeq (mBin ixZ (eVar 0) (eC (.int 1)))) (tgTup 2 (tgCons (tgName 2) (tgCons (tgName 3) (tgNil)))) (sSet 1 (mBin addZ (mBin addZ (mBin addZ (mBin addZ (eVar 1) (eC (.str " closed "))) (mCB strTyZ (mCons (eVar 2) (mNil)))) (eC (.str " "))) (mCB strTyZ (mCons (eVar 3) (mNil)))))
noncomputable def fo_law_written_1 : DS := sFor (iSeq (mBin ixZ (eVar 0) (eC (.int 2)))) (tgTup 2 (tgCons (tgName 2) (tgCons (tgName 3) (tgNil)))) (sSet 1 (mBin addZ (mBin addZ (mBin addZ (mBin addZ (eVar 1) (eC (.str " opened "))) (mCB strTyZ (mCons (eVar 2) (mNil)))) (eC (.str " "))) (mCB strTyZ (mCons (eVar 3) (mNil)))))
noncomputable def b_law_written : DS := sSeq (sSet 1 (mBin ixZ (eVar 0) (eC (.int 0)))) (sSeq (fo_law_written_0) (sSeq (fo_law_written_1) (sRet (eVar 1))))
noncomputable def m_law_written : DF := dFn 4 b_law_written
/-- _law_calendars_right: 0 _law_urn_here, 1 _law_one, 2 _law_calendar_here, 3 _law_other -/
noncomputable def fo_law_calendars_right_0 : DS := sFor (iSeq (mLst (mCons (eVar 2) (mCons (eVar 3) (mCons (eVar 2) (mNil)))))) (tgName 1) (sIf (mOrT (mNotT (mTru (mCall 2 (m_law_same 6) [] (mCons (mCall 1 (m_show_calendar) [] (mCons (eVar 1) (mNil))) (mCons (mCall 1 (m_law_written) [] (mCons (eVar 1) (mNil))) (mNil)))))) (mNotT (mTru (mCall 2 (m_law_same 6) [] (mCons (mCall 1 (m_read_calendar) [] (mCons (mCall 1 (m_law_written) [] (mCons (eVar 1) (mNil))) (mNil))) (mCons (eVar 1) (mNil))))))) (sRet (eC (.bl false))) (sNil))
noncomputable def b_law_calendars_right : DS := sSeq (sPar2 2 3 (mCons (mCall 1 (m_law_calendar) [] (mCons (eVar 0) (mNil))) (mCons (mCall 1 (m_law_calendar) [] (mCons (eVar 0) (mNil))) (mNil)))) (sSeq (fo_law_calendars_right_0) (sSeq (sIf (mOrT (mNotT (mTru (mCall 2 (m_law_same 6) [] (mCons (mCallK 0 1 1 (m_read_calendar) [0] mNil (mCons (mCall 1 (m_law_written) [] (mCons (eVar 3) (mNil))) (mNil))) (mCons (eVar 3) (mNil)))))) (mBinT (eqZ true) (mCallK 0 1 1 (m_show_calendar) [0] mNil (mCons (eVar 3) (mNil))) (mCall 1 (m_law_written) [] (mCons (eVar 3) (mNil))))) (sRet (eC (.bl false))) (sNil)) (sRet (mBin (eqZ false) (mBin (eqZ false) (mCall 1 (m_show_calendar) [] (mCons (eVar 2) (mNil))) (mCall 1 (m_show_calendar) [] (mCons (eVar 3) (mNil)))) (mBin (eqZ false) (eVar 2) (eVar 3))))))
noncomputable def m_law_calendars_right : DF := dFn 4 b_law_calendars_right
/-- _law_routes_right: 0 _law_urn_here, 1 _law_route_here, 2 _law_text -/
noncomputable def b_law_routes_right : DS := sSeq (sSet 1 (mCall 1 (m_law_route) [] (mCons (eVar 0) (mNil)))) (sSeq (sSet 2 (mBM "str" joinZ (eC (.str " ")) (mCons (eVar 1) (mNil)))) (sSeq (sIf (mBinT (eqZ false) (eVar 1) (mTup (mNil))) (sSet 2 (eC (.str "."))) (sNil)) (sSeq (sIf (mOrT (mBinT (eqZ true) (mCallK 0 1 1 (m_show_route) [0] mNil (mCons (eVar 1) (mNil))) (eVar 2)) (mNotT (mTru (mCall 2 (m_law_same 6) [] (mCons (mCallK 0 1 1 (m_read_route) [0] mNil (mCons (eVar 2) (mNil))) (mCons (eVar 1) (mNil))))))) (sRet (eC (.bl false))) (sNil)) (sRet (mAndV (mCall 2 (m_law_same 6) [] (mCons (mCall 1 (m_show_route) [] (mCons (eVar 1) (mNil))) (mCons (eVar 2) (mNil)))) (mCall 2 (m_law_same 6) [] (mCons (mCall 1 (m_read_route) [] (mCons (eVar 2) (mNil))) (mCons (eVar 1) (mNil)))))))))
noncomputable def m_law_routes_right : DF := dFn 3 b_law_routes_right
/-- _law_codes_right: 0 _law_urn_here, 1 _law_scheme_here, 2 _law_code, 3 _law_text, 4 _law_weight, 5 _law_digit -/
noncomputable def lc_law_codes_right_0 : DE := mLC [4] (iSeq (mBin ixZ (eVar 1) (eC (.int 2)))) (tgName 4) (tYesZ) (mCall 2 (m_law_draw) [] (mCons (eVar 0) (mCons (mBin ixZ (eVar 1) (eC (.int 0))) (mNil))))
noncomputable def lc_law_codes_right_1 : DE := mLC [5] (iSeq (eVar 2)) (tgName 5) (tYesZ) (mBin ixZ (eC (.str "0123456789")) (eVar 5))
noncomputable def b_law_codes_right : DS := sSeq (sSet 1 (mCall 1 (m_law_scheme) [] (mCons (eVar 0) (mNil)))) (sSeq (sSet 2 (mCB tupTyZ (mCons (lc_law_codes_right_0) (mNil)))) (sSeq (sSet 3 (mBM "str" joinZ (eC (.str "")) (mCons (lc_law_codes_right_1) (mNil)))) (sSeq (sIf (mOrT (mBinT (eqZ true) (mCallK 0 1 1 (m_show_code) [0] mNil (mCons (eVar 2) (mNil))) (eVar 3)) (mNotT (mTru (mCall 2 (m_law_same 6) [] (mCons (mCallK 0 2 2 (m_read_code) [1, 0] mNil (mCons (eVar 3) (mCons (eVar 1) (mNil)))) (mCons (eVar 2) (mNil))))))) (sRet (eC (.bl false))) (sNil)) (sRet (mAndV (mCall 2 (m_law_same 6) [] (mCons (mCall 1 (m_show_code) [] (mCons (eVar 2) (mNil))) (mCons (eVar 3) (mNil)))) (mCall 2 (m_law_same 6) [] (mCons (mCall 2 (m_read_code) [] (mCons (eVar 1) (mCons (eVar 3) (mNil)))) (mCons (eVar 2) (mNil)))))))))
noncomputable def m_law_codes_right : DF := dFn 6 b_law_codes_right
/-- law: 0 _law_script, 1 _law_k, 2 _law_urn_here, 3 _law_turn -/
noncomputable def fo_law_0 : DS := sFor (iRange1 (mCons (eC (.int 3)) (mNil))) (tgName 3) (sIf (mOrT (mNotT (mTru (mCall 1 (m_law_calendars_right) [] (mCons (eVar 2) (mNil))))) (mOrT (mNotT (mTru (mCall 1 (m_law_routes_right) [] (mCons (eVar 2) (mNil))))) (mNotT (mTru (mCall 1 (m_law_codes_right) [] (mCons (eVar 2) (mNil))))))) (sRet (eC (.bl false))) (sNil))
noncomputable def fo_law_1 : DS := sFor (iRange1 (mCons (mCB maxZ (mCons (eC (.int 1)) (mCons (mCB minZ (mCons (eC (.int 4)) (mCons (mBin addZ (mCB lenZ (mCons (eVar 0) (mNil))) (eC (.int 1))) (mNil)))) (mNil)))) (mNil))) (tgName 1) (sSeq (sSet 2 (mCall 2 (m_law_urn) [] (mCons (eVar 0) (mCons (eVar 1) (mNil))))) (fo_law_0))
noncomputable def b_law : DS := sSeq (fo_law_1) (sRet (eC (.bl true)))
noncomputable def m_law : DF := dFn 4 b_law
theorem lit_0 : Str.ofString "" = SX.S [] := by first | rfl | decide +kernel
theorem lit_1 : Str.ofString " " = SX.S [32] := by first | rfl | decide +kernel
theorem lit_2 : Str.ofString " closed " = SX.S [32, 99, 108, 111, 115, 101, 100, 32] := by first | rfl | decide +kernel
theorem lit_3 : Str.ofString " opened " = SX.S [32, 111, 112, 101, 110, 101, 100, 32] := by first | rfl | decide +kernel
theorem lit_4 : Str.ofString "+" = SX.S [43] := by first | rfl | decide +kernel
theorem lit_5 : Str.ofString "+abcdefghijklmnopqrstuvwxyz" = SX.S [43, 97, 98, 99, 100, 101, 102, 103, 104, 105, 106, 107, 108, 109, 110, 111, 112, 113, 114, 115, 116, 117, 118, 119, 120, 121, 122] := by first | rfl | decide +kernel
theorem lit_6 : Str.ofString "+az" = SX.S [43, 97, 122] := by first | rfl | decide +kernel
theorem lit_7 : Str.ofString "-" = SX.S [45] := by first | rfl | decide +kernel
theorem lit_8 : Str.ofString "." = SX.S [46] := by first | rfl | decide +kernel
theorem lit_9 : Str.ofString "0" = SX.S [48] := by first | rfl | decide +kernel
theorem lit_10 : Str.ofString "0123456789" = SX.S [48, 49, 50, 51, 52, 53, 54, 55, 56, 57] := by first | rfl | decide +kernel
theorem lit_11 : Str.ofString "abcdefghijklmnopqrstuvwxyz" = SX.S [97, 98, 99, 100, 101, 102, 103, 104, 105, 106, 107, 108, 109, 110, 111, 112, 113, 114, 115, 116, 117, 118, 119, 120, 121, 122] := by first | rfl | decide +kernel
theorem lit_12 : Str.ofString "closed" = SX.S [99, 108, 111, 115, 101, 100] := by first | rfl | decide +kernel
theorem lit_13 : Str.ofString "o" = SX.S [111] := by first | rfl | decide +kernel
theorem lit_14 : Str.ofString "o-" = SX.S [111, 45] := by first | rfl | decide +kernel
theorem lit_15 : Str.ofString "opened" = SX.S [111, 112, 101, 110, 101, 100] := by first | rfl | decide +kernel
end OfP.K89
namespace OfP.K89
open PySem PySem.Spec L2 OfP
open PyProof.Rows hiding St
/-- what the module's names stand for -/
structure GF (K : PySem.W.Frag) (mg : Str → Option Value) : Prop where
  f_bool : mg "bool" = none
  f_isinstance : mg "isinstance" = none
  f_int : mg "int" = none
  f_len : mg "len" = none
  f_tuple : mg "tuple" = none
  i_MOST_MODULUS : ∃ t, mg "MOST_MODULUS" = some (.int (30) t)
  i_MOST_BASE : ∃ t, mg "MOST_BASE" = some (.int (10) t)
  i_FEWEST_PLACES : ∃ t, mg "FEWEST_PLACES" = some (.int (2) t)
  i_MOST_PLACES : ∃ t, mg "MOST_PLACES" = some (.int (6) t)
  f_all : mg "all" = none
  s_DIGITS_words : ∃ t, mg "DIGITS_words" = some (.str "0123456789" t)
  i_MOST_DIGITS : ∃ t, mg "MOST_DIGITS" = some (.int (30) t)
  f_str : mg "str" = none
  cls_Words : Cls K (He.ga K "Words")
  na_Words_all_words : NoAttr K (He.ga K "Words") "all_words"
  na_Words_next_index : NoAttr K (He.ga K "Words") "next_index"
  s_NO_LETTERS : ∃ t, mg "NO_LETTERS" = some (.str "." t)
  i_MOST_SIGNS : ∃ t, mg "MOST_SIGNS" = some (.int (4) t)
  i_MOST_SPANS : ∃ t, mg "MOST_SPANS" = some (.int (2) t)
  i_MOST_SPAN : ∃ t, mg "MOST_SPAN" = some (.int (30) t)
  i_LEAST_SPAN : ∃ t, mg "LEAST_SPAN" = some (.int (-30) t)
  i_MOST_LETTERS : ∃ t, mg "MOST_LETTERS" = some (.int (8) t)
  s_LETTERS : ∃ t, mg "LETTERS" = some (.str "abcdefghijklmnopqrstuvwxyz" t)
  s_DAY_ON : ∃ t, mg "DAY_ON" = some (.str "+" t)
  s_DIGITS_texts : ∃ t, mg "DIGITS_texts" = some (.str "0123456789" t)
  f_enumerate : mg "enumerate" = none
  f_max : mg "max" = none
  f_zip : mg "zip" = none
  f_range : mg "range" = none
  f_min : mg "min" = none
  f_sorted : mg "sorted" = none
section
variable {P : Program} {w : World} {K : PySem.W.Frag} {mg : Str → Option Value} {base : Heap}
theorem sc_is_integer : FnScope ["thing", "low", "high"] ["thing", "low", "high"] (defScope (top 5)) := ⟨rfl, rfl, rfl, by decide +kernel, rfl, by decide +kernel, by decide +kernel⟩
theorem bd_is_integer (g : GF K mg)  {f : Addr} : BodyZ P w K mg base ["thing", "low", "high"] "is_integer" (defBody (top 5)) (defScope (top 5)) f 0 (b_is_integer) := by
  intro cdv A outer s H E hr
  have nd := sc_is_integer.nd
  exact zs_cons (z_if ((z_or (z_not (z_tru (z_cb (cz_isinstance) (by rfl) g.f_isinstance bt_isinstance (z_cons (z_var 0) (z_cons (z_ty (by rfl) g.f_int bt_int) (z_nil)))))) (z_or1 (z_tru (z_cb (cz_isinstance) (by rfl) g.f_isinstance bt_isinstance (z_cons (z_var 0) (z_cons (z_ty (by rfl) g.f_bool bt_bool) (z_nil))))))).pt) (zs_one (z_ret (z_bl))) (zs_nil)) (zs_one (z_ret (z_andV (z_orV (z_cmp (opz_is) (z_var 1) (z_non) (by rfl)) (z_one (z_cmp (opz_le (Room.u64 hr)) (z_var 1) (z_var 0) (by rfl)))) (z_one (z_orV (z_cmp (opz_is) (z_var 2) (z_non) (by rfl)) (z_one (z_cmp (opz_le (Room.u64 hr)) (z_var 0) (z_var 2) (by rfl))))))))
theorem cal_is_integer (g : GF K mg)  {f : Addr} {fd : FuncData} (F : FunD K "is_integer" "is_integer" (defArgs (top 5)) (defBody (top 5)) (defScope (top 5)) [.non, .non] [] f fd) (gm : mg "is_integer" = some (.ref f)) : Cal P w K mg base 1 "is_integer" [] 3 m_is_integer :=
  cal_of F gm sc_is_integer (bd_is_integer g ) (FunD.bindsD F 3 (by simp) rfl fun _ _ _ _ _ _ _ us its hl hl2 => match us, its, hl, hl2 with | [_, _, _], [_, _], _, _ => ⟨_, rfl, rfl⟩) rfl
theorem sc_is_scheme : FnScope ["thing", "base", "modulus", "weights", "rest", "weight"] ["thing"] (defScope (top 11)) := ⟨rfl, rfl, rfl, by decide +kernel, rfl, by decide +kernel, by decide +kernel⟩
theorem bd_is_scheme (g : GF K mg) (c_is_integer : Cal P w K mg base 1 "is_integer" [] 3 (m_is_integer)) {f : Addr} : BodyZ P w K mg base ["thing", "base", "modulus", "weights", "rest", "weight"] "is_scheme" (defBody (top 11)) (defScope (top 11)) f 1 (b_is_scheme) := by
  intro cdv A outer s H E hr
  have nd := sc_is_scheme.nd
  exact zs_cons (z_if ((z_or (z_not (z_tru (z_cb (cz_isinstance) (by rfl) g.f_isinstance bt_isinstance (z_cons (z_var 0) (z_cons (z_ty (by rfl) g.f_tuple bt_tuple) (z_nil)))))) (z_or1 (z_cmpT (opz_ne (Room.u64 hr)) (z_cb (cz_len) (by rfl) g.f_len bt_len (z_cons (z_var 0) (z_nil))) (z_int) (by rfl)))).pt) (zs_one (z_ret (z_bl))) (zs_nil)) (zs_cons (z_unp (z_var 0) (z_gtup rfl (z_gcons (z_gname (i := 1) nd rfl (by first | exact Or.inl rfl | exact Or.inr rfl)) (z_gcons (z_gname (i := 2) nd rfl (by first | exact Or.inl rfl | exact Or.inr rfl)) (z_gcons (z_gname (i := 3) nd rfl (by first | exact Or.inl rfl | exact Or.inr rfl)) (z_gcons (z_gname (i := 4) nd rfl (by first | exact Or.inl rfl | exact Or.inr rfl)) (z_gnil))))))) (zs_cons (z_if ((z_or (z_not (z_tru (z_call c_is_integer (hr.mono (by decide)) (takes_of rfl rfl rfl rfl) (by rfl) (z_cons (z_var 1) (z_cons (z_int) (z_cons (z_gint (by rfl) g.i_MOST_BASE) (z_nil))))))) (z_or1 (z_not (z_tru (z_call c_is_integer (hr.mono (by decide)) (takes_of rfl rfl rfl rfl) (by rfl) (z_cons (z_var 2) (z_cons (z_int) (z_cons (z_gint (by rfl) g.i_MOST_MODULUS) (z_nil))))))))).pt) (zs_one (z_ret (z_bl))) (zs_nil)) (zs_cons (z_if ((z_or (z_not (z_tru (z_cb (cz_isinstance) (by rfl) g.f_isinstance bt_isinstance (z_cons (z_var 3) (z_cons (z_ty (by rfl) g.f_tuple bt_tuple) (z_nil)))))) (z_or1 (z_not (z_chainT (opz_le (Room.u64 hr)) (opz_le (Room.u64 hr)) (z_gint (by rfl) g.i_FEWEST_PLACES) (z_cb (cz_len) (by rfl) g.f_len bt_len (z_cons (z_var 3) (z_nil))) (z_gint (by rfl) g.i_MOST_PLACES))))).pt) (zs_one (z_ret (z_bl))) (zs_nil)) (zs_one (z_ret (z_andV (z_call c_is_integer (hr.mono (by decide)) (takes_of rfl rfl rfl rfl) (by rfl) (z_cons (z_var 4) (z_cons (z_int) (z_cons (z_bin opz_sub (z_var 2) (z_int)) (z_nil))))) (z_one (z_cb (cz_all rfl) (by rfl) g.f_all bt_all (z_cons (z_fr onlyL_lc (fr_lc rfl nd (z_iseq (z_var 3)) (own := [("weight", 5)]) (blk_ok (by kernel_rfl)) (inSl_name (by decide)) (fun _ _ _ _ _ => z_gname (i := 5) nd rfl (by first | exact Or.inl rfl | exact Or.inr rfl)) (fun _ _ _ _ _ => z_ifs0) (fun _ _ _ _ _ => z_call c_is_integer (hr.mono (by decide)) tk0 (by rfl) (z_cons (z_var 5) (z_cons (z_int) (z_cons (z_bin opz_sub (z_var 2) (z_int)) (z_nil))))))) (z_nil))))))))))
theorem cal_is_scheme (g : GF K mg) (c_is_integer : Cal P w K mg base 1 "is_integer" [] 3 (m_is_integer)) {f : Addr} {fd : FuncData} (F : FunD K "is_scheme" "is_scheme" (defArgs (top 11)) (defBody (top 11)) (defScope (top 11)) [] [] f fd) (gm : mg "is_scheme" = some (.ref f)) : Cal P w K mg base 2 "is_scheme" [] 1 m_is_scheme :=
  cal_of F gm sc_is_scheme (bd_is_scheme g c_is_integer) (F.bindsN fun _ _ _ _ _ _ us hl => match us, hl with | [_], _ => rfl) rfl
theorem sc_need_scheme : FnScope ["thing"] ["thing"] (defScope (top 12)) := ⟨rfl, rfl, rfl, by decide +kernel, rfl, by decide +kernel, by decide +kernel⟩
theorem bd_need_scheme (g : GF K mg) (c_is_scheme : Cal P w K mg base 2 "is_scheme" [] 1 (m_is_scheme)) {f : Addr} : BodyZ P w K mg base ["thing"] "need_scheme" (defBody (top 12)) (defScope (top 12)) f 2 (b_need_scheme) := by
  intro cdv A outer s H E hr
  have nd := sc_need_scheme.nd
  exact zs_one (z_if (z_not (z_tru (z_call c_is_scheme (hr.mono (by decide)) (takes_of rfl rfl rfl rfl) (by rfl) (z_cons (z_var 0) (z_nil))))) (zs_one (z_bad)) (zs_nil))
theorem cal_need_scheme (g : GF K mg) (c_is_scheme : Cal P w K mg base 2 "is_scheme" [] 1 (m_is_scheme)) {f : Addr} {fd : FuncData} (F : FunD K "need_scheme" "need_scheme" (defArgs (top 12)) (defBody (top 12)) (defScope (top 12)) [] [] f fd) (gm : mg "need_scheme" = some (.ref f)) : Cal P w K mg base 3 "need_scheme" [] 1 m_need_scheme :=
  cal_of F gm sc_need_scheme (bd_need_scheme g c_is_scheme) (F.bindsN fun _ _ _ _ _ _ us hl => match us, hl with | [_], _ => rfl) rfl
theorem sc_integer_in : FnScope ["word", "digits", "sign"] ["word"] (defScope (top 17)) := ⟨rfl, rfl, rfl, by decide +kernel, rfl, by decide +kernel, by decide +kernel⟩
theorem bd_integer_in (g : GF K mg)  {f : Addr} : BodyZ P w K mg base ["word", "digits", "sign"] "integer_in" (defBody (top 17)) (defScope (top 17)) f 0 (b_integer_in) := by
  intro cdv A outer s H E hr
  have nd := sc_integer_in.nd
  exact zs_cons (z_set (i := 1) nd rfl (by first | exact Or.inl rfl | exact Or.inr rfl) (z_ifE (z_cmpT (opz_eq (Room.u64 hr)) (z_sl (z_var 0) (z_onone) (z_osome (z_int))) (z_str) (by rfl)) (z_sl (z_var 0) (z_osome (z_int)) (z_onone)) (z_var 0))) (zs_cons (z_if ((z_or (z_cmpT (opz_eq (Room.u64 hr)) (z_var 1) (z_str) (by rfl)) (z_or (z_cmpT (opz_gt (Room.u64 hr)) (z_cb (cz_len) (by rfl) g.f_len bt_len (z_cons (z_var 1) (z_nil))) (z_gint (by rfl) g.i_MOST_DIGITS) (by rfl)) (z_or1 (z_not (z_tru (z_cb (cz_all rfl) (by rfl) g.f_all bt_all (z_cons (z_fr onlyL_lc (fr_lc rfl nd (z_itext (z_var 1)) (own := [("sign", 2)]) (blk_ok (by kernel_rfl)) (inSl_name (by decide)) (fun _ _ _ _ _ => z_gname (i := 2) nd rfl (by first | exact Or.inl rfl | exact Or.inr rfl)) (fun _ _ _ _ _ => z_ifs0) (fun _ _ _ _ _ => z_cmp (opz_in (Room.u65 hr)) (z_var 2) (z_gstr (by rfl) g.s_DIGITS_words) (by rfl)))) (z_nil)))))))).pt) (zs_one (z_ret (z_non))) (zs_nil)) (zs_cons (z_if ((z_and (z_cmpT (opz_eq (Room.u64 hr)) (z_ix (z_var 1) (z_int) (fun _ _ => rfl)) (z_str) (by rfl)) (z_and1 (z_cmpT (opz_ne (Room.u64 hr)) (z_var 0) (z_str) (by rfl)))).pt) (zs_one (z_ret (z_non))) (zs_nil)) (zs_one (z_ret (z_ct cz_int (by rfl) g.f_int bt_int (z_cons (z_var 0) (z_nil)))))))
theorem cal_integer_in (g : GF K mg)  {f : Addr} {fd : FuncData} (F : FunD K "integer_in" "integer_in" (defArgs (top 17)) (defBody (top 17)) (defScope (top 17)) [] [] f fd) (gm : mg "integer_in" = some (.ref f)) : Cal P w K mg base 1 "integer_in" [] 1 m_integer_in :=
  cal_of F gm sc_integer_in (bd_integer_in g ) (F.bindsN fun _ _ _ _ _ _ us hl => match us, hl with | [_], _ => rfl) rfl
theorem sc_Words___init__ : FnScope ["self", "text"] ["self", "text"] (defScope ((clsBody (top 18)).getD 0 (.Pass ⟨0, 0, 0, 0⟩))) := ⟨rfl, rfl, rfl, by decide +kernel, rfl, by decide +kernel, by decide +kernel⟩
theorem bd_Words___init__ (g : GF K mg)  {f : Addr} : BodyZ P w K mg base ["self", "text"] "Words.__init__" (defBody ((clsBody (top 18)).getD 0 (.Pass ⟨0, 0, 0, 0⟩))) (defScope ((clsBody (top 18)).getD 0 (.Pass ⟨0, 0, 0, 0⟩))) f 0 (b_Words___init__) := by
  intro cdv A outer s H E hr
  have nd := sc_Words___init__.nd
  exact zs_cons (z_if (z_not (z_tru (z_cb (cz_isinstance) (by rfl) g.f_isinstance bt_isinstance (z_cons (z_var 1) (z_cons (z_ty (by rfl) g.f_str bt_str) (z_nil)))))) (zs_one (z_bad)) (zs_nil)) (zs_cons (z_setFld g.cls_Words g.na_Words_all_words (z_var 0) (z_bm PySem.F.plainAttrs_str PySem.F.slot_str_split PySem.F.type_str_split mz_split (z_var 1) (z_cons (z_str) (z_nil)))) (zs_one (z_setFld g.cls_Words g.na_Words_next_index (z_var 0) (z_int))))
theorem cal_Words___init__ (g : GF K mg)  {f : Addr} {fd : FuncData} (F : FunD K "__init__" "Words.__init__" (defArgs ((clsBody (top 18)).getD 0 (.Pass ⟨0, 0, 0, 0⟩))) (defBody ((clsBody (top 18)).getD 0 (.Pass ⟨0, 0, 0, 0⟩))) (defScope ((clsBody (top 18)).getD 0 (.Pass ⟨0, 0, 0, 0⟩))) [] [] f fd) (gm : mg "Words" = some (.ref (He.ga K "Words"))) (mk : Mk K (He.ga K "Words") f) : CalC P w K mg base 1 "Words" [] 2 m_Words___init__ :=
  calC_of gm F mk sc_Words___init__ (bd_Words___init__ g ) (F.bindsN fun _ _ _ _ _ _ us hl => match us, hl with | [_, _], _ => rfl) rfl
theorem sc_Words_peek : FnScope ["self"] ["self"] (defScope ((clsBody (top 18)).getD 1 (.Pass ⟨0, 0, 0, 0⟩))) := ⟨rfl, rfl, rfl, by decide +kernel, rfl, by decide +kernel, by decide +kernel⟩
theorem bd_Words_peek (g : GF K mg)  {f : Addr} : BodyZ P w K mg base ["self"] "Words.peek" (defBody ((clsBody (top 18)).getD 1 (.Pass ⟨0, 0, 0, 0⟩))) (defScope ((clsBody (top 18)).getD 1 (.Pass ⟨0, 0, 0, 0⟩))) f 0 (b_Words_peek) := by
  intro cdv A outer s H E hr
  have nd := sc_Words_peek.nd
  exact zs_cons (z_if (z_cmpT (opz_lt (Room.u64 hr)) (z_fld g.cls_Words g.na_Words_next_index (z_var 0)) (z_cb (cz_len) (by rfl) g.f_len bt_len (z_cons (z_fld g.cls_Words g.na_Words_all_words (z_var 0)) (z_nil))) (by rfl)) (zs_one (z_ret (z_ix (z_fld g.cls_Words g.na_Words_all_words (z_var 0)) (z_fld g.cls_Words g.na_Words_next_index (z_var 0)) (fun _ _ => rfl)))) (zs_nil)) (zs_one (z_ret (z_non)))
theorem cal_Words_peek (g : GF K mg)  {f : Addr} {fd : FuncData} (F : FunD K "peek" "Words.peek" (defArgs ((clsBody (top 18)).getD 1 (.Pass ⟨0, 0, 0, 0⟩))) (defBody ((clsBody (top 18)).getD 1 (.Pass ⟨0, 0, 0, 0⟩))) (defScope ((clsBody (top 18)).getD 1 (.Pass ⟨0, 0, 0, 0⟩))) [] [] f fd) (hm : Meth K (He.ga K "Words") "peek" f) : CalM P w K mg base 1 "Words" "peek" [] 1 m_Words_peek :=
  calM_of g.cls_Words F hm sc_Words_peek (bd_Words_peek g ) (F.bindsN fun _ _ _ _ _ _ us hl => match us, hl with | [_], _ => rfl) rfl
theorem sc_Words_skip : FnScope ["self"] ["self"] (defScope ((clsBody (top 18)).getD 3 (.Pass ⟨0, 0, 0, 0⟩))) := ⟨rfl, rfl, rfl, by decide +kernel, rfl, by decide +kernel, by decide +kernel⟩
theorem bd_Words_skip (g : GF K mg)  {f : Addr} : BodyZ P w K mg base ["self"] "Words.skip" (defBody ((clsBody (top 18)).getD 3 (.Pass ⟨0, 0, 0, 0⟩))) (defScope ((clsBody (top 18)).getD 3 (.Pass ⟨0, 0, 0, 0⟩))) f 0 (b_Words_skip) := by
  intro cdv A outer s H E hr
  have nd := sc_Words_skip.nd
  exact zs_one (z_augFld (inop_add fun _ _ _ _ h => h) rd_add g.cls_Words g.na_Words_next_index (z_var 0) (z_int))
theorem cal_Words_skip (g : GF K mg)  {f : Addr} {fd : FuncData} (F : FunD K "skip" "Words.skip" (defArgs ((clsBody (top 18)).getD 3 (.Pass ⟨0, 0, 0, 0⟩))) (defBody ((clsBody (top 18)).getD 3 (.Pass ⟨0, 0, 0, 0⟩))) (defScope ((clsBody (top 18)).getD 3 (.Pass ⟨0, 0, 0, 0⟩))) [] [] f fd) (hm : Meth K (He.ga K "Words") "skip" f) : CalM P w K mg base 1 "Words" "skip" [] 1 m_Words_skip :=
  calM_of g.cls_Words F hm sc_Words_skip (bd_Words_skip g ) (F.bindsN fun _ _ _ _ _ _ us hl => match us, hl with | [_], _ => rfl) rfl
theorem sc_Words_one_of : FnScope ["self", "choices", "word"] ["self", "choices"] (defScope ((clsBody (top 18)).getD 4 (.Pass ⟨0, 0, 0, 0⟩))) := ⟨rfl, rfl, rfl, by decide +kernel, rfl, by decide +kernel, by decide +kernel⟩
theorem bd_Words_one_of (g : GF K mg) (c_Words_peek : CalM P w K mg base 1 "Words" "peek" [] 1 m_Words_peek) (c_Words_skip : CalM P w K mg base 1 "Words" "skip" [] 1 m_Words_skip) {f : Addr} : BodyZ P w K mg base ["self", "choices", "word"] "Words.one_of" (defBody ((clsBody (top 18)).getD 4 (.Pass ⟨0, 0, 0, 0⟩))) (defScope ((clsBody (top 18)).getD 4 (.Pass ⟨0, 0, 0, 0⟩))) f 1 (b_Words_one_of) := by
  intro cdv A outer s H E hr
  have nd := sc_Words_one_of.nd
  exact zs_cons (z_set (i := 2) nd rfl (by first | exact Or.inl rfl | exact Or.inr rfl) (z_meth0 c_Words_peek (hr.mono (by decide)) (takes_of rfl rfl rfl rfl) (z_var 0))) (zs_cons (z_if ((z_or (z_cmpT (opz_is) (z_var 2) (z_non) (by rfl)) (z_or1 (z_cmpT (opz_notIn (Room.u65 hr)) (z_var 2) (z_var 1) (by rfl)))).pt) (zs_one (z_bad)) (zs_nil)) (zs_cons (z_expr (z_meth0 c_Words_skip (hr.mono (by decide)) (takes_of rfl rfl rfl rfl) (z_var 0))) (zs_one (z_ret (z_var 2)))))
theorem cal_Words_one_of (g : GF K mg) (c_Words_peek : CalM P w K mg base 1 "Words" "peek" [] 1 m_Words_peek) (c_Words_skip : CalM P w K mg base 1 "Words" "skip" [] 1 m_Words_skip) {f : Addr} {fd : FuncData} (F : FunD K "one_of" "Words.one_of" (defArgs ((clsBody (top 18)).getD 4 (.Pass ⟨0, 0, 0, 0⟩))) (defBody ((clsBody (top 18)).getD 4 (.Pass ⟨0, 0, 0, 0⟩))) (defScope ((clsBody (top 18)).getD 4 (.Pass ⟨0, 0, 0, 0⟩))) [] [] f fd) (hm : Meth K (He.ga K "Words") "one_of" f) : CalM P w K mg base 2 "Words" "one_of" [] 2 m_Words_one_of :=
  calM_of g.cls_Words F hm sc_Words_one_of (bd_Words_one_of g c_Words_peek c_Words_skip) (F.bindsN fun _ _ _ _ _ _ us hl => match us, hl with | [_, _], _ => rfl) rfl
theorem sc_Words_integer : FnScope ["self", "least", "most", "word", "value"] ["self", "least", "most"] (defScope ((clsBody (top 18)).getD 5 (.Pass ⟨0, 0, 0, 0⟩))) := ⟨rfl, rfl, rfl, by decide +kernel, rfl, by decide +kernel, by decide +kernel⟩
theorem bd_Words_integer (g : GF K mg) (c_Words_peek : CalM P w K mg base 1 "Words" "peek" [] 1 m_Words_peek) (c_integer_in : Cal P w K mg base 1 "integer_in" [] 1 (m_integer_in)) (c_Words_skip : CalM P w K mg base 1 "Words" "skip" [] 1 m_Words_skip) {f : Addr} : BodyZ P w K mg base ["self", "least", "most", "word", "value"] "Words.integer" (defBody ((clsBody (top 18)).getD 5 (.Pass ⟨0, 0, 0, 0⟩))) (defScope ((clsBody (top 18)).getD 5 (.Pass ⟨0, 0, 0, 0⟩))) f 1 (b_Words_integer) := by
  intro cdv A outer s H E hr
  have nd := sc_Words_integer.nd
  exact zs_cons (z_set (i := 3) nd rfl (by first | exact Or.inl rfl | exact Or.inr rfl) (z_meth0 c_Words_peek (hr.mono (by decide)) (takes_of rfl rfl rfl rfl) (z_var 0))) (zs_cons (z_set (i := 4) nd rfl (by first | exact Or.inl rfl | exact Or.inr rfl) (z_ifE (z_cmpT (opz_isNot) (z_var 3) (z_non) (by rfl)) (z_call c_integer_in (hr.mono (by decide)) (takes_of rfl rfl rfl rfl) (by rfl) (z_cons (z_var 3) (z_nil))) (z_non))) (zs_cons (z_if ((z_or (z_cmpT (opz_is) (z_var 4) (z_non) (by rfl)) (z_or1 (z_not (z_chainT (opz_le (Room.u64 hr)) (opz_le (Room.u64 hr)) (z_var 1) (z_var 4) (z_var 2))))).pt) (zs_one (z_bad)) (zs_nil)) (zs_cons (z_expr (z_meth0 c_Words_skip (hr.mono (by decide)) (takes_of rfl rfl rfl rfl) (z_var 0))) (zs_one (z_ret (z_var 4))))))
theorem cal_Words_integer (g : GF K mg) (c_Words_peek : CalM P w K mg base 1 "Words" "peek" [] 1 m_Words_peek) (c_integer_in : Cal P w K mg base 1 "integer_in" [] 1 (m_integer_in)) (c_Words_skip : CalM P w K mg base 1 "Words" "skip" [] 1 m_Words_skip) {f : Addr} {fd : FuncData} (F : FunD K "integer" "Words.integer" (defArgs ((clsBody (top 18)).getD 5 (.Pass ⟨0, 0, 0, 0⟩))) (defBody ((clsBody (top 18)).getD 5 (.Pass ⟨0, 0, 0, 0⟩))) (defScope ((clsBody (top 18)).getD 5 (.Pass ⟨0, 0, 0, 0⟩))) [] [] f fd) (hm : Meth K (He.ga K "Words") "integer" f) : CalM P w K mg base 2 "Words" "integer" [] 3 m_Words_integer :=
  calM_of g.cls_Words F hm sc_Words_integer (bd_Words_integer g c_Words_peek c_integer_in c_Words_skip) (F.bindsN fun _ _ _ _ _ _ us hl => match us, hl with | [_, _, _], _ => rfl) rfl
theorem sc_Words_end : FnScope ["self"] ["self"] (defScope ((clsBody (top 18)).getD 6 (.Pass ⟨0, 0, 0, 0⟩))) := ⟨rfl, rfl, rfl, by decide +kernel, rfl, by decide +kernel, by decide +kernel⟩
theorem bd_Words_end (g : GF K mg) (c_Words_peek : CalM P w K mg base 1 "Words" "peek" [] 1 m_Words_peek) {f : Addr} : BodyZ P w K mg base ["self"] "Words.end" (defBody ((clsBody (top 18)).getD 6 (.Pass ⟨0, 0, 0, 0⟩))) (defScope ((clsBody (top 18)).getD 6 (.Pass ⟨0, 0, 0, 0⟩))) f 1 (b_Words_end) := by
  intro cdv A outer s H E hr
  have nd := sc_Words_end.nd
  exact zs_one (z_if (z_cmpT (opz_isNot) (z_meth0 c_Words_peek (hr.mono (by decide)) (takes_of rfl rfl rfl rfl) (z_var 0)) (z_non) (by rfl)) (zs_one (z_bad)) (zs_nil))
theorem cal_Words_end (g : GF K mg) (c_Words_peek : CalM P w K mg base 1 "Words" "peek" [] 1 m_Words_peek) {f : Addr} {fd : FuncData} (F : FunD K "end" "Words.end" (defArgs ((clsBody (top 18)).getD 6 (.Pass ⟨0, 0, 0, 0⟩))) (defBody ((clsBody (top 18)).getD 6 (.Pass ⟨0, 0, 0, 0⟩))) (defScope ((clsBody (top 18)).getD 6 (.Pass ⟨0, 0, 0, 0⟩))) [] [] f fd) (hm : Meth K (He.ga K "Words") "end" f) : CalM P w K mg base 2 "Words" "end" [] 1 m_Words_end :=
  calM_of g.cls_Words F hm sc_Words_end (bd_Words_end g c_Words_peek) (F.bindsN fun _ _ _ _ _ _ us hl => match us, hl with | [_], _ => rfl) rfl
theorem sc_show_calendar : FnScope ["calendar", "words", "pattern", "closed", "opened", "name", "spans", "first", "last"] ["calendar"] (defScope (top 29)) := ⟨rfl, rfl, rfl, by decide +kernel, rfl, by decide +kernel, by decide +kernel⟩
theorem bd_show_calendar (g : GF K mg)  {f : Addr} : BodyZ P w K mg base ["calendar", "words", "pattern", "closed", "opened", "name", "spans", "first", "last"] "show_calendar" (defBody (top 29)) (defScope (top 29)) f 0 (b_show_calendar) := by
  intro cdv A outer s H E hr
  have nd := sc_show_calendar.nd
  exact zs_cons (z_unp (z_var 0) (z_gtup rfl (z_gcons (z_gname (i := 2) nd rfl (by first | exact Or.inl rfl | exact Or.inr rfl)) (z_gcons (z_gname (i := 3) nd rfl (by first | exact Or.inl rfl | exact Or.inr rfl)) (z_gcons (z_gname (i := 4) nd rfl (by first | exact Or.inl rfl | exact Or.inr rfl)) (z_gnil)))))) (zs_cons (z_setL (i := 1) onlyL_lst nd rfl (by first | exact Or.inl rfl | exact Or.inr rfl) (fr_lst (z_cons (z_var 2) (z_nil)))) (zs_cons (z_for (passes_of rfl) rfl (z_iseq (z_tup (z_cons (z_tup (z_cons (z_str) (z_cons (z_var 3) (z_nil)))) (z_cons (z_tup (z_cons (z_str) (z_cons (z_var 4) (z_nil)))) (z_nil))))) (z_gtup rfl (z_gcons (z_gname (i := 5) nd rfl (by first | exact Or.inl rfl | exact Or.inr rfl)) (z_gcons (z_gname (i := 6) nd rfl (by first | exact Or.inl rfl | exact Or.inr rfl)) (z_gnil)))) (zs_one (z_for (passes_of rfl) rfl (z_iseq (z_var 6)) (z_gtup rfl (z_gcons (z_gname (i := 7) nd rfl (by first | exact Or.inl rfl | exact Or.inr rfl)) (z_gcons (z_gname (i := 8) nd rfl (by first | exact Or.inl rfl | exact Or.inr rfl)) (z_gnil)))) (zs_one (z_expr (z_bm PySem.F.plainAttrs_list PySem.F.slot_list_extend PySem.F.type_list_extend mz_extend (z_var 1) (z_cons (z_fr onlyL_lst (fr_lst (z_cons (z_var 5) (z_cons (z_ct cz_str (by rfl) g.f_str bt_str (z_cons (z_var 7) (z_nil))) (z_cons (z_ct cz_str (by rfl) g.f_str bt_str (z_cons (z_var 8) (z_nil))) (z_nil)))))) (z_nil)))))))) (zs_one (z_ret (z_bm PySem.F.plainAttrs_str PySem.F.slot_str_join PySem.F.type_str_join mz_join (z_str) (z_cons (z_var 1) (z_nil)))))))
theorem cal_show_calendar (g : GF K mg)  {f : Addr} {fd : FuncData} (F : FunD K "show_calendar" "show_calendar" (defArgs (top 29)) (defBody (top 29)) (defScope (top 29)) [] [] f fd) (gm : mg "show_calendar" = some (.ref f)) : Cal P w K mg base 1 "show_calendar" [] 1 m_show_calendar :=
  cal_of F gm sc_show_calendar (bd_show_calendar g ) (F.bindsN fun _ _ _ _ _ _ us hl => match us, hl with | [_], _ => rfl) rfl
theorem cal_show_calendar_kw0 (g : GF K mg)  {f : Addr} {fd : FuncData} (F : FunD K "show_calendar" "show_calendar" (defArgs (top 29)) (defBody (top 29)) (defScope (top 29)) [] [] f fd) (gm : mg "show_calendar" = some (.ref f)) : CalK P w K mg base 1 "show_calendar" 0 ["calendar"] [0] 1 m_show_calendar :=
  calK_of F gm sc_show_calendar (bd_show_calendar g ) rfl fun _ _ _ _ _ _ us ws h1 h2 => match us, ws, h1, h2 with | [], [_], _, _ => rfl
theorem sc_show_route : FnScope ["route"] ["route"] (defScope (top 30)) := ⟨rfl, rfl, rfl, by decide +kernel, rfl, by decide +kernel, by decide +kernel⟩
theorem bd_show_route (g : GF K mg)  {f : Addr} : BodyZ P w K mg base ["route"] "show_route" (defBody (top 30)) (defScope (top 30)) f 0 (b_show_route) := by
  intro cdv A outer s H E hr
  have nd := sc_show_route.nd
  exact zs_one (z_ret (z_ifE (z_cmpT (opz_ne (Room.u64 hr)) (z_var 0) (z_tup (z_nil)) (by rfl)) (z_bm PySem.F.plainAttrs_str PySem.F.slot_str_join PySem.F.type_str_join mz_join (z_str) (z_cons (z_var 0) (z_nil))) (z_gstr (by rfl) g.s_NO_LETTERS)))
theorem cal_show_route (g : GF K mg)  {f : Addr} {fd : FuncData} (F : FunD K "show_route" "show_route" (defArgs (top 30)) (defBody (top 30)) (defScope (top 30)) [] [] f fd) (gm : mg "show_route" = some (.ref f)) : Cal P w K mg base 1 "show_route" [] 1 m_show_route :=
  cal_of F gm sc_show_route (bd_show_route g ) (F.bindsN fun _ _ _ _ _ _ us hl => match us, hl with | [_], _ => rfl) rfl
theorem cal_show_route_kw0 (g : GF K mg)  {f : Addr} {fd : FuncData} (F : FunD K "show_route" "show_route" (defArgs (top 30)) (defBody (top 30)) (defScope (top 30)) [] [] f fd) (gm : mg "show_route" = some (.ref f)) : CalK P w K mg base 1 "show_route" 0 ["route"] [0] 1 m_show_route :=
  calK_of F gm sc_show_route (bd_show_route g ) rfl fun _ _ _ _ _ _ us ws h1 h2 => match us, ws, h1, h2 with | [], [_], _, _ => rfl
theorem sc_show_code : FnScope ["code", "digit"] ["code"] (defScope (top 31)) := ⟨rfl, rfl, rfl, by decide +kernel, rfl, by decide +kernel, by decide +kernel⟩
theorem bd_show_code (g : GF K mg)  {f : Addr} : BodyZ P w K mg base ["code", "digit"] "show_code" (defBody (top 31)) (defScope (top 31)) f 0 (b_show_code) := by
  intro cdv A outer s H E hr
  have nd := sc_show_code.nd
  exact zs_one (z_ret (z_bm PySem.F.plainAttrs_str PySem.F.slot_str_join PySem.F.type_str_join mz_join (z_str) (z_cons (z_fr onlyL_lc (fr_lc rfl nd (z_iseq (z_var 0)) (own := [("digit", 1)]) (blk_ok (by kernel_rfl)) (inSl_name (by decide)) (fun _ _ _ _ _ => z_gname (i := 1) nd rfl (by first | exact Or.inl rfl | exact Or.inr rfl)) (fun _ _ _ _ _ => z_ifs0) (fun _ _ _ _ _ => z_ct cz_str (by rfl) g.f_str bt_str (z_cons (z_var 1) (z_nil))))) (z_nil))))
theorem cal_show_code (g : GF K mg)  {f : Addr} {fd : FuncData} (F : FunD K "show_code" "show_code" (defArgs (top 31)) (defBody (top 31)) (defScope (top 31)) [] [] f fd) (gm : mg "show_code" = some (.ref f)) : Cal P w K mg base 1 "show_code" [] 1 m_show_code :=
  cal_of F gm sc_show_code (bd_show_code g ) (F.bindsN fun _ _ _ _ _ _ us hl => match us, hl with | [_], _ => rfl) rfl
theorem cal_show_code_kw0 (g : GF K mg)  {f : Addr} {fd : FuncData} (F : FunD K "show_code" "show_code" (defArgs (top 31)) (defBody (top 31)) (defScope (top 31)) [] [] f fd) (gm : mg "show_code" = some (.ref f)) : CalK P w K mg base 1 "show_code" 0 ["code"] [0] 1 m_show_code :=
  calK_of F gm sc_show_code (bd_show_code g ) rfl fun _ _ _ _ _ _ us ws h1 h2 => match us, ws, h1, h2 with | [], [_], _, _ => rfl
theorem sc_is_pattern : FnScope ["word", "sign"] ["word"] (defScope (top 32)) := ⟨rfl, rfl, rfl, by decide +kernel, rfl, by decide +kernel, by decide +kernel⟩
theorem bd_is_pattern (g : GF K mg)  {f : Addr} : BodyZ P w K mg base ["word", "sign"] "is_pattern" (defBody (top 32)) (defScope (top 32)) f 0 (b_is_pattern) := by
  intro cdv A outer s H E hr
  have nd := sc_is_pattern.nd
  exact zs_one (z_ret (z_andV (z_chain (opz_le (Room.u64 hr)) (opz_le (Room.u64 hr)) (z_int) (z_cb (cz_len) (by rfl) g.f_len bt_len (z_cons (z_var 0) (z_nil))) (z_gint (by rfl) g.i_MOST_SIGNS)) (z_andV (z_cmp (opz_in (Room.u65 hr)) (z_str) (z_var 0) (by rfl)) (z_one (z_cb (cz_all rfl) (by rfl) g.f_all bt_all (z_cons (z_fr onlyL_lc (fr_lc rfl nd (z_itext (z_var 0)) (own := [("sign", 1)]) (blk_ok (by kernel_rfl)) (inSl_name (by decide)) (fun _ _ _ _ _ => z_gname (i := 1) nd rfl (by first | exact Or.inl rfl | exact Or.inr rfl)) (fun _ _ _ _ _ => z_ifs0) (fun _ _ _ _ _ => z_cmp (opz_in (Room.u65 hr)) (z_var 1) (z_str) (by rfl)))) (z_nil)))))))
theorem cal_is_pattern (g : GF K mg)  {f : Addr} {fd : FuncData} (F : FunD K "is_pattern" "is_pattern" (defArgs (top 32)) (defBody (top 32)) (defScope (top 32)) [] [] f fd) (gm : mg "is_pattern" = some (.ref f)) : Cal P w K mg base 1 "is_pattern" [] 1 m_is_pattern :=
  cal_of F gm sc_is_pattern (bd_is_pattern g ) (F.bindsN fun _ _ _ _ _ _ us hl => match us, hl with | [_], _ => rfl) rfl
theorem sc_next_spans : FnScope ["words", "name", "found", "first", "least"] ["words", "name"] (defScope (top 33)) := ⟨rfl, rfl, rfl, by decide +kernel, rfl, by decide +kernel, by decide +kernel⟩
theorem bd_next_spans (g : GF K mg) (c_Words_peek : CalM P w K mg base 1 "Words" "peek" [] 1 m_Words_peek) (c_Words_skip : CalM P w K mg base 1 "Words" "skip" [] 1 m_Words_skip) (c_Words_integer : CalM P w K mg base 2 "Words" "integer" [] 3 m_Words_integer) {f : Addr} : BodyZ P w K mg base ["words", "name", "found", "first", "least"] "next_spans" (defBody (top 33)) (defScope (top 33)) f 2 (b_next_spans) := by
  intro cdv A outer s H E hr
  have nd := sc_next_spans.nd
  exact zs_cons (z_setL (i := 2) onlyL_lst nd rfl (by first | exact Or.inl rfl | exact Or.inr rfl) (fr_lst (z_nil))) (zs_cons (z_while 4 (passes_of rfl) ((z_and (z_cmpT (opz_eq (Room.u64 hr)) (z_meth0 c_Words_peek (hr.mono (by decide)) (takes_of rfl rfl rfl rfl) (z_var 0)) (z_var 1) (by rfl)) (z_and1 (z_cmpT (opz_lt (Room.u64 hr)) (z_cb (cz_len) (by rfl) g.f_len bt_len (z_cons (z_var 2) (z_nil))) (z_gint (by rfl) g.i_MOST_SPANS) (by rfl)))).pt) (zs_cons (z_expr (z_meth0 c_Words_skip (hr.mono (by decide)) (takes_of rfl rfl rfl rfl) (z_var 0))) (zs_cons (z_set (i := 3) nd rfl (by first | exact Or.inl rfl | exact Or.inr rfl) (z_meth c_Words_integer (hr.mono (by decide)) (takes_of rfl rfl rfl rfl) (z_var 0) (z_cons (z_gint (by rfl) g.i_LEAST_SPAN) (z_cons (z_gint (by rfl) g.i_MOST_SPAN) (z_nil))))) (zs_cons (z_set (i := 4) nd rfl (by first | exact Or.inl rfl | exact Or.inr rfl) (z_var 3)) (zs_cons (z_if ((z_and (z_cmpT (opz_ne (Room.u64 hr)) (z_var 2) (z_fr onlyL_lst (fr_lst (z_nil))) (by rfl)) (z_and1 (z_cmpT (opz_le (Room.u64 hr)) (z_var 3) (z_ix (z_ix (z_var 2) (z_un unz_neg (z_int)) (fun _ _ => rfl)) (z_int) (fun _ _ => rfl)) (by rfl)))).pt) (zs_one (z_set (i := 4) nd rfl (by first | exact Or.inl rfl | exact Or.inr rfl) (z_ifE (z_cmpT (opz_eq (Room.u64 hr)) (z_var 3) (z_ix (z_ix (z_var 2) (z_un unz_neg (z_int)) (fun _ _ => rfl)) (z_int) (fun _ _ => rfl)) (by rfl)) (z_bin opz_add (z_ix (z_ix (z_var 2) (z_un unz_neg (z_int)) (fun _ _ => rfl)) (z_int) (fun _ _ => rfl)) (z_int)) (z_bin opz_add (z_gint (by rfl) g.i_MOST_SPAN) (z_int))))) (zs_nil)) (zs_one (z_expr (z_bm PySem.F.plainAttrs_list PySem.F.slot_list_append PySem.F.type_list_append mz_append (z_var 2) (z_cons (z_tup (z_cons (z_var 3) (z_cons (z_meth c_Words_integer (hr.mono (by decide)) (takes_of rfl rfl rfl rfl) (z_var 0) (z_cons (z_var 4) (z_cons (z_gint (by rfl) g.i_MOST_SPAN) (z_nil)))) (z_nil)))) (z_nil)))))))))) (zs_one (z_ret (z_ct cz_tuple (by rfl) g.f_tuple bt_tuple (z_cons (z_var 2) (z_nil))))))
theorem cal_next_spans (g : GF K mg) (c_Words_peek : CalM P w K mg base 1 "Words" "peek" [] 1 m_Words_peek) (c_Words_skip : CalM P w K mg base 1 "Words" "skip" [] 1 m_Words_skip) (c_Words_integer : CalM P w K mg base 2 "Words" "integer" [] 3 m_Words_integer) {f : Addr} {fd : FuncData} (F : FunD K "next_spans" "next_spans" (defArgs (top 33)) (defBody (top 33)) (defScope (top 33)) [] [] f fd) (gm : mg "next_spans" = some (.ref f)) : Cal P w K mg base 3 "next_spans" [] 2 m_next_spans :=
  cal_of F gm sc_next_spans (bd_next_spans g c_Words_peek c_Words_skip c_Words_integer) (F.bindsN fun _ _ _ _ _ _ us hl => match us, hl with | [_, _], _ => rfl) rfl
theorem sc_read_calendar : FnScope ["text", "words", "pattern", "closed", "opened"] ["text"] (defScope (top 34)) := ⟨rfl, rfl, rfl, by decide +kernel, rfl, by decide +kernel, by decide +kernel⟩
theorem bd_read_calendar (g : GF K mg) (c_Words___init__ : CalC P w K mg base 1 "Words" [] 2 m_Words___init__) (c_Words_peek : CalM P w K mg base 1 "Words" "peek" [] 1 m_Words_peek) (c_is_pattern : Cal P w K mg base 1 "is_pattern" [] 1 (m_is_pattern)) (c_Words_skip : CalM P w K mg base 1 "Words" "skip" [] 1 m_Words_skip) (c_next_spans : Cal P w K mg base 3 "next_spans" [] 2 (m_next_spans)) (c_Words_end : CalM P w K mg base 2 "Words" "end" [] 1 m_Words_end) {f : Addr} : BodyZ P w K mg base ["text", "words", "pattern", "closed", "opened"] "read_calendar" (defBody (top 34)) (defScope (top 34)) f 3 (b_read_calendar) := by
  intro cdv A outer s H E hr
  have nd := sc_read_calendar.nd
  exact zs_cons (z_set (i := 1) nd rfl (by first | exact Or.inl rfl | exact Or.inr rfl) (z_make c_Words___init__ (hr.mono (by decide)) (takes_of rfl rfl rfl rfl) (by rfl) (z_cons (z_var 0) (z_nil)))) (zs_cons (z_set (i := 2) nd rfl (by first | exact Or.inl rfl | exact Or.inr rfl) (z_meth0 c_Words_peek (hr.mono (by decide)) (takes_of rfl rfl rfl rfl) (z_var 1))) (zs_cons (z_if (z_not (z_tru (z_call c_is_pattern (hr.mono (by decide)) (takes_of rfl rfl rfl rfl) (by rfl) (z_cons (z_var 2) (z_nil))))) (zs_one (z_bad)) (zs_nil)) (zs_cons (z_expr (z_meth0 c_Words_skip (hr.mono (by decide)) (takes_of rfl rfl rfl rfl) (z_var 1))) (zs_cons (z_set (i := 3) nd rfl (by first | exact Or.inl rfl | exact Or.inr rfl) (z_call c_next_spans (hr.mono (by decide)) (takes_of rfl rfl rfl rfl) (by rfl) (z_cons (z_var 1) (z_cons (z_str) (z_nil))))) (zs_cons (z_set (i := 4) nd rfl (by first | exact Or.inl rfl | exact Or.inr rfl) (z_call c_next_spans (hr.mono (by decide)) (takes_of rfl rfl rfl rfl) (by rfl) (z_cons (z_var 1) (z_cons (z_str) (z_nil))))) (zs_cons (z_expr (z_meth0 c_Words_end (hr.mono (by decide)) (takes_of rfl rfl rfl rfl) (z_var 1))) (zs_one (z_ret (z_tup (z_cons (z_var 2) (z_cons (z_var 3) (z_cons (z_var 4) (z_nil)))))))))))))
theorem cal_read_calendar (g : GF K mg) (c_Words___init__ : CalC P w K mg base 1 "Words" [] 2 m_Words___init__) (c_Words_peek : CalM P w K mg base 1 "Words" "peek" [] 1 m_Words_peek) (c_is_pattern : Cal P w K mg base 1 "is_pattern" [] 1 (m_is_pattern)) (c_Words_skip : CalM P w K mg base 1 "Words" "skip" [] 1 m_Words_skip) (c_next_spans : Cal P w K mg base 3 "next_spans" [] 2 (m_next_spans)) (c_Words_end : CalM P w K mg base 2 "Words" "end" [] 1 m_Words_end) {f : Addr} {fd : FuncData} (F : FunD K "read_calendar" "read_calendar" (defArgs (top 34)) (defBody (top 34)) (defScope (top 34)) [] [] f fd) (gm : mg "read_calendar" = some (.ref f)) : Cal P w K mg base 4 "read_calendar" [] 1 m_read_calendar :=
  cal_of F gm sc_read_calendar (bd_read_calendar g c_Words___init__ c_Words_peek c_is_pattern c_Words_skip c_next_spans c_Words_end) (F.bindsN fun _ _ _ _ _ _ us hl => match us, hl with | [_], _ => rfl) rfl
theorem cal_read_calendar_kw0 (g : GF K mg) (c_Words___init__ : CalC P w K mg base 1 "Words" [] 2 m_Words___init__) (c_Words_peek : CalM P w K mg base 1 "Words" "peek" [] 1 m_Words_peek) (c_is_pattern : Cal P w K mg base 1 "is_pattern" [] 1 (m_is_pattern)) (c_Words_skip : CalM P w K mg base 1 "Words" "skip" [] 1 m_Words_skip) (c_next_spans : Cal P w K mg base 3 "next_spans" [] 2 (m_next_spans)) (c_Words_end : CalM P w K mg base 2 "Words" "end" [] 1 m_Words_end) {f : Addr} {fd : FuncData} (F : FunD K "read_calendar" "read_calendar" (defArgs (top 34)) (defBody (top 34)) (defScope (top 34)) [] [] f fd) (gm : mg "read_calendar" = some (.ref f)) : CalK P w K mg base 4 "read_calendar" 0 ["text"] [0] 1 m_read_calendar :=
  calK_of F gm sc_read_calendar (bd_read_calendar g c_Words___init__ c_Words_peek c_is_pattern c_Words_skip c_next_spans c_Words_end) rfl fun _ _ _ _ _ _ us ws h1 h2 => match us, ws, h1, h2 with | [], [_], _, _ => rfl
theorem sc_next_route : FnScope ["words", "letters", "found"] ["words", "letters"] (defScope (top 35)) := ⟨rfl, rfl, rfl, by decide +kernel, rfl, by decide +kernel, by decide +kernel⟩
theorem bd_next_route (g : GF K mg) (c_Words_peek : CalM P w K mg base 1 "Words" "peek" [] 1 m_Words_peek) (c_Words_skip : CalM P w K mg base 1 "Words" "skip" [] 1 m_Words_skip) (c_Words_one_of : CalM P w K mg base 2 "Words" "one_of" [] 2 m_Words_one_of) {f : Addr} : BodyZ P w K mg base ["words", "letters", "found"] "next_route" (defBody (top 35)) (defScope (top 35)) f 2 (b_next_route) := by
  intro cdv A outer s H E hr
  have nd := sc_next_route.nd
  exact zs_cons (z_if (z_cmpT (opz_eq (Room.u64 hr)) (z_meth0 c_Words_peek (hr.mono (by decide)) (takes_of rfl rfl rfl rfl) (z_var 0)) (z_gstr (by rfl) g.s_NO_LETTERS) (by rfl)) (zs_cons (z_expr (z_meth0 c_Words_skip (hr.mono (by decide)) (takes_of rfl rfl rfl rfl) (z_var 0))) (zs_one (z_ret (z_tup (z_nil))))) (zs_nil)) (zs_cons (z_setL (i := 2) onlyL_lst nd rfl (by first | exact Or.inl rfl | exact Or.inr rfl) (fr_lst (z_cons (z_meth c_Words_one_of (hr.mono (by decide)) (takes_of rfl rfl rfl rfl) (z_var 0) (z_cons (z_var 1) (z_nil))) (z_nil)))) (zs_cons (z_while 12 (passes_of rfl) ((z_and (z_cmpT (opz_in (Room.u65 hr)) (z_meth0 c_Words_peek (hr.mono (by decide)) (takes_of rfl rfl rfl rfl) (z_var 0)) (z_var 1) (by rfl)) (z_and1 (z_cmpT (opz_lt (Room.u64 hr)) (z_cb (cz_len) (by rfl) g.f_len bt_len (z_cons (z_var 2) (z_nil))) (z_gint (by rfl) g.i_MOST_LETTERS) (by rfl)))).pt) (zs_one (z_expr (z_bm PySem.F.plainAttrs_list PySem.F.slot_list_append PySem.F.type_list_append mz_append (z_var 2) (z_cons (z_meth c_Words_one_of (hr.mono (by decide)) (takes_of rfl rfl rfl rfl) (z_var 0) (z_cons (z_var 1) (z_nil))) (z_nil)))))) (zs_one (z_ret (z_ct cz_tuple (by rfl) g.f_tuple bt_tuple (z_cons (z_var 2) (z_nil)))))))
theorem cal_next_route (g : GF K mg) (c_Words_peek : CalM P w K mg base 1 "Words" "peek" [] 1 m_Words_peek) (c_Words_skip : CalM P w K mg base 1 "Words" "skip" [] 1 m_Words_skip) (c_Words_one_of : CalM P w K mg base 2 "Words" "one_of" [] 2 m_Words_one_of) {f : Addr} {fd : FuncData} (F : FunD K "next_route" "next_route" (defArgs (top 35)) (defBody (top 35)) (defScope (top 35)) [] [] f fd) (gm : mg "next_route" = some (.ref f)) : Cal P w K mg base 3 "next_route" [] 2 m_next_route :=
  cal_of F gm sc_next_route (bd_next_route g c_Words_peek c_Words_skip c_Words_one_of) (F.bindsN fun _ _ _ _ _ _ us hl => match us, hl with | [_, _], _ => rfl) rfl
theorem sc_read_route : FnScope ["text", "words", "found"] ["text"] (defScope (top 36)) := ⟨rfl, rfl, rfl, by decide +kernel, rfl, by decide +kernel, by decide +kernel⟩
theorem bd_read_route (g : GF K mg) (c_Words___init__ : CalC P w K mg base 1 "Words" [] 2 m_Words___init__) (c_next_route : Cal P w K mg base 3 "next_route" [] 2 (m_next_route)) (c_Words_end : CalM P w K mg base 2 "Words" "end" [] 1 m_Words_end) {f : Addr} : BodyZ P w K mg base ["text", "words", "found"] "read_route" (defBody (top 36)) (defScope (top 36)) f 3 (b_read_route) := by
  intro cdv A outer s H E hr
  have nd := sc_read_route.nd
  exact zs_cons (z_set (i := 1) nd rfl (by first | exact Or.inl rfl | exact Or.inr rfl) (z_make c_Words___init__ (hr.mono (by decide)) (takes_of rfl rfl rfl rfl) (by rfl) (z_cons (z_var 0) (z_nil)))) (zs_cons (z_set (i := 2) nd rfl (by first | exact Or.inl rfl | exact Or.inr rfl) (z_call c_next_route (hr.mono (by decide)) (takes_of rfl rfl rfl rfl) (by rfl) (z_cons (z_var 1) (z_cons (z_bin opz_add (z_ct (cz_tupStr rfl) (by rfl) g.f_tuple bt_tuple (z_cons (z_gstr (by rfl) g.s_LETTERS) (z_nil))) (z_tup (z_cons (z_gstr (by rfl) g.s_DAY_ON) (z_nil)))) (z_nil))))) (zs_cons (z_expr (z_meth0 c_Words_end (hr.mono (by decide)) (takes_of rfl rfl rfl rfl) (z_var 1))) (zs_one (z_ret (z_var 2)))))
theorem cal_read_route (g : GF K mg) (c_Words___init__ : CalC P w K mg base 1 "Words" [] 2 m_Words___init__) (c_next_route : Cal P w K mg base 3 "next_route" [] 2 (m_next_route)) (c_Words_end : CalM P w K mg base 2 "Words" "end" [] 1 m_Words_end) {f : Addr} {fd : FuncData} (F : FunD K "read_route" "read_route" (defArgs (top 36)) (defBody (top 36)) (defScope (top 36)) [] [] f fd) (gm : mg "read_route" = some (.ref f)) : Cal P w K mg base 4 "read_route" [] 1 m_read_route :=
  cal_of F gm sc_read_route (bd_read_route g c_Words___init__ c_next_route c_Words_end) (F.bindsN fun _ _ _ _ _ _ us hl => match us, hl with | [_], _ => rfl) rfl
theorem cal_read_route_kw0 (g : GF K mg) (c_Words___init__ : CalC P w K mg base 1 "Words" [] 2 m_Words___init__) (c_next_route : Cal P w K mg base 3 "next_route" [] 2 (m_next_route)) (c_Words_end : CalM P w K mg base 2 "Words" "end" [] 1 m_Words_end) {f : Addr} {fd : FuncData} (F : FunD K "read_route" "read_route" (defArgs (top 36)) (defBody (top 36)) (defScope (top 36)) [] [] f fd) (gm : mg "read_route" = some (.ref f)) : CalK P w K mg base 4 "read_route" 0 ["text"] [0] 1 m_read_route :=
  calK_of F gm sc_read_route (bd_read_route g c_Words___init__ c_next_route c_Words_end) rfl fun _ _ _ _ _ _ us ws h1 h2 => match us, ws, h1, h2 with | [], [_], _, _ => rfl
theorem sc_read_code : FnScope ["scheme", "text", "size", "digits", "place", "sign"] ["scheme", "text"] (defScope (top 37)) := ⟨rfl, rfl, rfl, by decide +kernel, rfl, by decide +kernel, by decide +kernel⟩
theorem bd_read_code (g : GF K mg) (c_need_scheme : Cal P w K mg base 3 "need_scheme" [] 1 (m_need_scheme)) {f : Addr} : BodyZ P w K mg base ["scheme", "text", "size", "digits", "place", "sign"] "read_code" (defBody (top 37)) (defScope (top 37)) f 3 (b_read_code) := by
  intro cdv A outer s H E hr
  have nd := sc_read_code.nd
  exact zs_cons (z_expr (z_call c_need_scheme (hr.mono (by decide)) (takes_of rfl rfl rfl rfl) (by rfl) (z_cons (z_var 0) (z_nil)))) (zs_cons (z_if (z_not (z_tru (z_cb (cz_isinstance) (by rfl) g.f_isinstance bt_isinstance (z_cons (z_var 1) (z_cons (z_ty (by rfl) g.f_str bt_str) (z_nil)))))) (zs_one (z_bad)) (zs_nil)) (zs_cons (z_set (i := 2) nd rfl (by first | exact Or.inl rfl | exact Or.inr rfl) (z_cb (cz_len) (by rfl) g.f_len bt_len (z_cons (z_ix (z_var 0) (z_int) (fun _ _ => rfl)) (z_nil)))) (zs_cons (z_set (i := 3) nd rfl (by first | exact Or.inl rfl | exact Or.inr rfl) (z_sl (z_gstr (by rfl) g.s_DIGITS_texts) (z_onone) (z_osome (z_ix (z_var 0) (z_int) (fun _ _ => rfl))))) (zs_cons (z_for (passes_of rfl) rfl (z_ienum (by rfl) g.f_enumerate (z_cons (z_var 1) (z_nil))) (z_gtup rfl (z_gcons (z_gname (i := 4) nd rfl (by first | exact Or.inl rfl | exact Or.inr rfl)) (z_gcons (z_gname (i := 5) nd rfl (by first | exact Or.inl rfl | exact Or.inr rfl)) (z_gnil)))) (zs_one (z_if ((z_or (z_cmpT (opz_ge (Room.u64 hr)) (z_var 4) (z_var 2) (by rfl)) (z_or1 (z_cmpT (opz_notIn (Room.u65 hr)) (z_var 5) (z_var 3) (by rfl)))).pt) (zs_one (z_bad)) (zs_nil)))) (zs_cons (z_if (z_cmpT (opz_lt (Room.u64 hr)) (z_cb (cz_len) (by rfl) g.f_len bt_len (z_cons (z_var 1) (z_nil))) (z_var 2) (by rfl)) (zs_one (z_bad)) (zs_nil)) (zs_one (z_ret (z_ct cz_tuple (by rfl) g.f_tuple bt_tuple (z_cons (z_fr onlyL_lc (fr_lc rfl nd (z_itext (z_var 1)) (own := [("sign", 5)]) (blk_ok (by kernel_rfl)) (inSl_name (by decide)) (fun _ _ _ _ _ => z_gname (i := 5) nd rfl (by first | exact Or.inl rfl | exact Or.inr rfl)) (fun _ _ _ _ _ => z_ifs0) (fun _ _ _ _ _ => z_ct cz_int (by rfl) g.f_int bt_int (z_cons (z_var 5) (z_nil))))) (z_nil))))))))))
theorem cal_read_code (g : GF K mg) (c_need_scheme : Cal P w K mg base 3 "need_scheme" [] 1 (m_need_scheme)) {f : Addr} {fd : FuncData} (F : FunD K "read_code" "read_code" (defArgs (top 37)) (defBody (top 37)) (defScope (top 37)) [] [] f fd) (gm : mg "read_code" = some (.ref f)) : Cal P w K mg base 4 "read_code" [] 2 m_read_code :=
  cal_of F gm sc_read_code (bd_read_code g c_need_scheme) (F.bindsN fun _ _ _ _ _ _ us hl => match us, hl with | [_, _], _ => rfl) rfl
theorem cal_read_code_kw0 (g : GF K mg) (c_need_scheme : Cal P w K mg base 3 "need_scheme" [] 1 (m_need_scheme)) {f : Addr} {fd : FuncData} (F : FunD K "read_code" "read_code" (defArgs (top 37)) (defBody (top 37)) (defScope (top 37)) [] [] f fd) (gm : mg "read_code" = some (.ref f)) : CalK P w K mg base 4 "read_code" 0 ["text", "scheme"] [1, 0] 2 m_read_code :=
  calK_of F gm sc_read_code (bd_read_code g c_need_scheme) rfl fun _ _ _ _ _ _ us ws h1 h2 => match us, ws, h1, h2 with | [], [_, _], _, _ => rfl
theorem sc_law_urn : FnScope ["_law_script", "_law_k", "_law_cell"] ["_law_script", "_law_k"] (defScope (top 39)) := ⟨rfl, rfl, rfl, by decide +kernel, rfl, by decide +kernel, by decide +kernel⟩
theorem bd_law_urn (g : GF K mg)  {f : Addr} : BodyZ P w K mg base ["_law_script", "_law_k", "_law_cell"] "_law_urn" (defBody (top 39)) (defScope (top 39)) f 0 (b_law_urn) := by
  intro cdv A outer s H E hr
  have nd := sc_law_urn.nd
  exact zs_cons (z_set (i := 2) nd rfl (by first | exact Or.inl rfl | exact Or.inr rfl) (z_int)) (zs_cons (z_if (z_cmpT (opz_lt (Room.u64 hr)) (z_var 1) (z_cb (cz_len) (by rfl) g.f_len bt_len (z_cons (z_var 0) (z_nil))) (by rfl)) (zs_one (z_set (i := 2) nd rfl (by first | exact Or.inl rfl | exact Or.inr rfl) (z_ix (z_var 0) (z_var 1) (fun _ _ => rfl)))) (zs_nil)) (zs_one (z_retL onlyL_lst (fr_lst (z_cons (z_cb (cz_max rfl) (by rfl) g.f_max bt_max (z_cons (z_int) (z_cons (z_bin opz_sub (z_var 2) (z_bin opz_pow (z_int) (z_int))) (z_nil)))) (z_cons (z_bin opz_add (z_bin opz_add (z_bin opz_mod (z_ct cz_int (by rfl) g.f_int bt_int (z_cons (z_var 2) (z_nil))) (z_bin opz_add (z_bin opz_pow (z_int) (z_int)) (z_int))) (z_bin opz_mul (z_bin opz_mul (z_int) (z_var 1)) (z_var 1))) (z_int)) (z_cons (z_int) (z_nil))))))))
theorem cal_law_urn (g : GF K mg)  {f : Addr} {fd : FuncData} (F : FunD K "_law_urn" "_law_urn" (defArgs (top 39)) (defBody (top 39)) (defScope (top 39)) [] [] f fd) (gm : mg "_law_urn" = some (.ref f)) : Cal P w K mg base 1 "_law_urn" [] 2 m_law_urn :=
  cal_ofR F gm sc_law_urn (bd_law_urn g ) (F.bindsN fun _ _ _ _ _ _ us hl => match us, hl with | [_, _], _ => rfl) rfl
theorem sc_law_draw : FnScope ["_law_urn_here", "_law_many", "_law_mixed", "_law_found"] ["_law_urn_here", "_law_many"] (defScope (top 40)) := ⟨rfl, rfl, rfl, by decide +kernel, rfl, by decide +kernel, by decide +kernel⟩
theorem bd_law_draw (g : GF K mg)  {f : Addr} : BodyZ P w K mg base ["_law_urn_here", "_law_many", "_law_mixed", "_law_found"] "_law_draw" (defBody (top 40)) (defScope (top 40)) f 0 (b_law_draw) := by
  intro cdv A outer s H E hr
  have nd := sc_law_draw.nd
  exact zs_cons (z_if (z_cmpT (opz_gt (Room.u64 hr)) (z_ix (z_var 0) (z_int) (fun _ _ => rfl)) (z_int) (by rfl)) (zs_cons (z_set (i := 3) nd rfl (by first | exact Or.inl rfl | exact Or.inr rfl) (z_bin opz_mod (z_ct cz_int (by rfl) g.f_int bt_int (z_cons (z_ix (z_var 0) (z_int) (fun _ _ => rfl)) (z_nil))) (z_var 1))) (zs_cons (z_setIx (z_bin opz_fdiv (z_ix (z_var 0) (z_int) (fun _ _ => rfl)) (z_var 1)) (z_var 0) (z_int)) (zs_one (z_ret (z_var 3))))) (zs_nil)) (zs_cons (z_setIx (z_bin opz_add (z_ix (z_var 0) (z_int) (fun _ _ => rfl)) (z_int)) (z_var 0) (z_int)) (zs_cons (z_set (i := 2) nd rfl (by first | exact Or.inl rfl | exact Or.inr rfl) (z_bin opz_mod (z_ct cz_int (by rfl) g.f_int bt_int (z_cons (z_bin opz_pow (z_bin opz_add (z_ix (z_var 0) (z_int) (fun _ _ => rfl)) (z_bin opz_mul (z_int) (z_ix (z_var 0) (z_int) (fun _ _ => rfl)))) (z_int)) (z_nil))) (z_bin opz_add (z_bin opz_pow (z_int) (z_int)) (z_int)))) (zs_cons (z_set (i := 2) nd rfl (by first | exact Or.inl rfl | exact Or.inr rfl) (z_bin opz_mod (z_ct cz_int (by rfl) g.f_int bt_int (z_cons (z_bin opz_add (z_bin opz_mul (z_var 2) (z_var 2)) (z_bin opz_mul (z_int) (z_ix (z_var 0) (z_int) (fun _ _ => rfl)))) (z_nil))) (z_bin opz_add (z_bin opz_pow (z_int) (z_int)) (z_int)))) (zs_one (z_ret (z_bin opz_mod (z_bin opz_fdiv (z_var 2) (z_bin opz_pow (z_int) (z_int))) (z_var 1)))))))
theorem cal_law_draw (g : GF K mg)  {f : Addr} {fd : FuncData} (F : FunD K "_law_draw" "_law_draw" (defArgs (top 40)) (defBody (top 40)) (defScope (top 40)) [] [] f fd) (gm : mg "_law_draw" = some (.ref f)) : Cal P w K mg base 1 "_law_draw" [] 2 m_law_draw :=
  cal_of F gm sc_law_draw (bd_law_draw g ) (F.bindsN fun _ _ _ _ _ _ us hl => match us, hl with | [_, _], _ => rfl) rfl
theorem sc_law_same : FnScope ["_law_found", "_law_due", "_law_one", "_law_other"] ["_law_found", "_law_due"] (defScope (top 41)) := ⟨rfl, rfl, rfl, by decide +kernel, rfl, by decide +kernel, by decide +kernel⟩
theorem bd_law_same (g : GF K mg)  {r : DF} {kk : Nat} (hrec : Cal P w K mg base (1 + kk) "_law_same" [] 2 r) {f : Addr} : BodyZ P w K mg base ["_law_found", "_law_due", "_law_one", "_law_other"] "_law_same" (defBody (top 41)) (defScope (top 41)) f (1 + kk) (b_law_same r) := by
  intro cdv A outer s H E hr
  have nd := sc_law_same.nd
  exact zs_cons (z_if (z_tru (z_cb (cz_isinstance) (by rfl) g.f_isinstance bt_isinstance (z_cons (z_var 1) (z_cons (z_ty (by rfl) g.f_tuple bt_tuple) (z_nil))))) (zs_cons (z_if ((z_or (z_not (z_tru (z_cb (cz_isinstance) (by rfl) g.f_isinstance bt_isinstance (z_cons (z_var 0) (z_cons (z_ty (by rfl) g.f_tuple bt_tuple) (z_nil)))))) (z_or1 (z_cmpT (opz_ne (Room.u64 hr)) (z_cb (cz_len) (by rfl) g.f_len bt_len (z_cons (z_var 0) (z_nil))) (z_cb (cz_len) (by rfl) g.f_len bt_len (z_cons (z_var 1) (z_nil))) (by rfl)))).pt) (zs_one (z_ret (z_bl))) (zs_nil)) (zs_one (z_ret (z_cb (cz_all rfl) (by rfl) g.f_all bt_all (z_cons (z_fr onlyL_lc (fr_lc rfl nd (z_izip (by rfl) g.f_zip (z_cons (z_var 0) (z_cons (z_var 1) (z_nil)))) (own := [("_law_one", 2), ("_law_other", 3)]) (blk_ok (by kernel_rfl)) (inSl_tup (inSl_cons (inSl_name (by decide)) (inSl_cons (inSl_name (by decide)) (inSl_nil)))) (fun _ _ _ _ _ => z_gtup rfl (z_gcons (z_gname (i := 2) nd rfl (by first | exact Or.inl rfl | exact Or.inr rfl)) (z_gcons (z_gname (i := 3) nd rfl (by first | exact Or.inl rfl | exact Or.inr rfl)) (z_gnil)))) (fun _ _ _ _ _ => z_ifs0) (fun _ _ _ _ _ => z_call hrec hr tk0 (by rfl) (z_cons (z_var 2) (z_cons (z_var 3) (z_nil)))))) (z_nil)))))) (zs_nil)) (zs_cons (z_if (z_tru (z_cb (cz_isinstance) (by rfl) g.f_isinstance bt_isinstance (z_cons (z_var 1) (z_cons (z_ty (by rfl) g.f_int bt_int) (z_nil))))) (zs_one (z_ret (z_andV (z_cb (cz_isinstance) (by rfl) g.f_isinstance bt_isinstance (z_cons (z_var 0) (z_cons (z_ty (by rfl) g.f_int bt_int) (z_nil)))) (z_andV (z_notV (z_cb (cz_isinstance) (by rfl) g.f_isinstance bt_isinstance (z_cons (z_var 0) (z_cons (z_ty (by rfl) g.f_bool bt_bool) (z_nil))))) (z_one (z_cmp (opz_eq (Room.u64 hr)) (z_var 0) (z_var 1) (by rfl))))))) (zs_nil)) (zs_one (z_ret (z_andV (z_cb (cz_isinstance) (by rfl) g.f_isinstance bt_isinstance (z_cons (z_var 0) (z_cons (z_ty (by rfl) g.f_str bt_str) (z_nil)))) (z_one (z_cmp (opz_eq (Room.u64 hr)) (z_var 0) (z_var 1) (by rfl)))))))
theorem cal_law_same (g : GF K mg)  {f : Addr} {fd : FuncData} (F : FunD K "_law_same" "_law_same" (defArgs (top 41)) (defBody (top 41)) (defScope (top 41)) [] [] f fd) (gm : mg "_law_same" = some (.ref f)) : ∀ j, Cal P w K mg base (1 + j) "_law_same" [] 2 (m_law_same j)
  | 0 => cal_of F gm sc_law_same (fun _ _ _ _ _ _ _ => zs_bad) (F.bindsN fun _ _ _ _ _ _ us hl => match us, hl with | [_, _], _ => rfl) rfl
  | j + 1 => cal_of F gm sc_law_same (bd_law_same g  (cal_law_same g  F gm j)) (F.bindsN fun _ _ _ _ _ _ us hl => match us, hl with | [_, _], _ => rfl) rfl
theorem sc_law_spans : FnScope ["_law_urn_here", "_law_found", "_law_turn", "_law_first", "_law_span"] ["_law_urn_here"] (defScope (top 42)) := ⟨rfl, rfl, rfl, by decide +kernel, rfl, by decide +kernel, by decide +kernel⟩
theorem bd_law_spans (g : GF K mg) (c_law_draw : Cal P w K mg base 1 "_law_draw" [] 2 (m_law_draw)) {f : Addr} : BodyZ P w K mg base ["_law_urn_here", "_law_found", "_law_turn", "_law_first", "_law_span"] "_law_spans" (defBody (top 42)) (defScope (top 42)) f 1 (b_law_spans) := by
  intro cdv A outer s H E hr
  have nd := sc_law_spans.nd
  exact zs_cons (z_setL (i := 1) onlyL_lst nd rfl (by first | exact Or.inl rfl | exact Or.inr rfl) (fr_lst (z_nil))) (zs_cons (z_for (passes_of rfl) rfl (z_irange1 (by rfl) g.f_range (z_cons (z_call c_law_draw (hr.mono (by decide)) (takes_of rfl rfl rfl rfl) (by rfl) (z_cons (z_var 0) (z_cons (z_int) (z_nil)))) (z_nil))) (z_gname (i := 2) nd rfl (by first | exact Or.inl rfl | exact Or.inr rfl)) (zs_cons (z_set (i := 3) nd rfl (by first | exact Or.inl rfl | exact Or.inr rfl) (z_bin opz_sub (z_call c_law_draw (hr.mono (by decide)) (takes_of rfl rfl rfl rfl) (by rfl) (z_cons (z_var 0) (z_cons (z_int) (z_nil)))) (z_int))) (zs_cons (z_set (i := 4) nd rfl (by first | exact Or.inl rfl | exact Or.inr rfl) (z_tup (z_cons (z_var 3) (z_cons (z_cb (cz_min rfl) (by rfl) g.f_min bt_min (z_cons (z_int) (z_cons (z_bin opz_add (z_var 3) (z_call c_law_draw (hr.mono (by decide)) (takes_of rfl rfl rfl rfl) (by rfl) (z_cons (z_var 0) (z_cons (z_ix (z_fr onlyL_lst (fr_lst (z_cons (z_int) (z_cons (z_int) (z_nil))))) (z_call c_law_draw (hr.mono (by decide)) (takes_of rfl rfl rfl rfl) (by rfl) (z_cons (z_var 0) (z_cons (z_int) (z_nil)))) (fun _ _ => rfl)) (z_nil))))) (z_nil)))) (z_nil))))) (zs_one (z_if (z_cmpT (opz_notIn (Room.u65 hr)) (z_var 4) (z_var 1) (by rfl)) (zs_one (z_expr (z_bm PySem.F.plainAttrs_list PySem.F.slot_list_append PySem.F.type_list_append mz_append (z_var 1) (z_cons (z_var 4) (z_nil))))) (zs_nil)))))) (zs_one (z_ret (z_ct cz_tuple (by rfl) g.f_tuple bt_tuple (z_cons (z_cb (cz_sorted (Room.u100 hr)) (by rfl) g.f_sorted bt_sorted (z_cons (z_var 1) (z_nil))) (z_nil))))))
theorem cal_law_spans (g : GF K mg) (c_law_draw : Cal P w K mg base 1 "_law_draw" [] 2 (m_law_draw)) {f : Addr} {fd : FuncData} (F : FunD K "_law_spans" "_law_spans" (defArgs (top 42)) (defBody (top 42)) (defScope (top 42)) [] [] f fd) (gm : mg "_law_spans" = some (.ref f)) : Cal P w K mg base 2 "_law_spans" [] 1 m_law_spans :=
  cal_of F gm sc_law_spans (bd_law_spans g c_law_draw) (F.bindsN fun _ _ _ _ _ _ us hl => match us, hl with | [_], _ => rfl) rfl
theorem sc_law_calendar : FnScope ["_law_urn_here", "_law_size", "_law_pattern", "_law_at", "_law_k"] ["_law_urn_here"] (defScope (top 43)) := ⟨rfl, rfl, rfl, by decide +kernel, rfl, by decide +kernel, by decide +kernel⟩
theorem bd_law_calendar (g : GF K mg) (c_law_draw : Cal P w K mg base 1 "_law_draw" [] 2 (m_law_draw)) (c_law_spans : Cal P w K mg base 2 "_law_spans" [] 1 (m_law_spans)) {f : Addr} : BodyZ P w K mg base ["_law_urn_here", "_law_size", "_law_pattern", "_law_at", "_law_k"] "_law_calendar" (defBody (top 43)) (defScope (top 43)) f 2 (b_law_calendar) := by
  intro cdv A outer s H E hr
  have nd := sc_law_calendar.nd
  exact zs_cons (z_set (i := 1) nd rfl (by first | exact Or.inl rfl | exact Or.inr rfl) (z_bin opz_add (z_int) (z_call c_law_draw (hr.mono (by decide)) (takes_of rfl rfl rfl rfl) (by rfl) (z_cons (z_var 0) (z_cons (z_int) (z_nil)))))) (zs_cons (z_set (i := 2) nd rfl (by first | exact Or.inl rfl | exact Or.inr rfl) (z_bm PySem.F.plainAttrs_str PySem.F.slot_str_join PySem.F.type_str_join mz_join (z_str) (z_cons (z_fr onlyL_lc (fr_lc rfl nd (z_irange1 (by rfl) g.f_range (z_cons (z_var 1) (z_nil))) (own := [("_law_k", 4)]) (blk_ok (by kernel_rfl)) (inSl_name (by decide)) (fun _ _ _ _ _ => z_gname (i := 4) nd rfl (by first | exact Or.inl rfl | exact Or.inr rfl)) (fun _ _ _ _ _ => z_ifs0) (fun _ _ _ _ _ => z_ix (z_str) (z_call c_law_draw (hr.mono (by decide)) tk0 (by rfl) (z_cons (z_var 0) (z_cons (z_int) (z_nil)))) (fun _ _ => rfl)))) (z_nil)))) (zs_cons (z_if (z_cmpT (opz_notIn (Room.u65 hr)) (z_str) (z_var 2) (by rfl)) (zs_cons (z_set (i := 3) nd rfl (by first | exact Or.inl rfl | exact Or.inr rfl) (z_call c_law_draw (hr.mono (by decide)) (takes_of rfl rfl rfl rfl) (by rfl) (z_cons (z_var 0) (z_cons (z_var 1) (z_nil))))) (zs_one (z_set (i := 2) nd rfl (by first | exact Or.inl rfl | exact Or.inr rfl) (z_bin opz_add (z_bin opz_add (z_sl (z_var 2) (z_onone) (z_osome (z_var 3))) (z_str)) (z_sl (z_var 2) (z_osome (z_bin opz_add (z_var 3) (z_int))) (z_onone)))))) (zs_nil)) (zs_one (z_ret (z_tup (z_cons (z_var 2) (z_cons (z_call c_law_spans (hr.mono (by decide)) (takes_of rfl rfl rfl rfl) (by rfl) (z_cons (z_var 0) (z_nil))) (z_cons (z_call c_law_spans (hr.mono (by decide)) (takes_of rfl rfl rfl rfl) (by rfl) (z_cons (z_var 0) (z_nil))) (z_nil)))))))))
theorem cal_law_calendar (g : GF K mg) (c_law_draw : Cal P w K mg base 1 "_law_draw" [] 2 (m_law_draw)) (c_law_spans : Cal P w K mg base 2 "_law_spans" [] 1 (m_law_spans)) {f : Addr} {fd : FuncData} (F : FunD K "_law_calendar" "_law_calendar" (defArgs (top 43)) (defBody (top 43)) (defScope (top 43)) [] [] f fd) (gm : mg "_law_calendar" = some (.ref f)) : Cal P w K mg base 3 "_law_calendar" [] 1 m_law_calendar :=
  cal_of F gm sc_law_calendar (bd_law_calendar g c_law_draw c_law_spans) (F.bindsN fun _ _ _ _ _ _ us hl => match us, hl with | [_], _ => rfl) rfl
theorem sc_law_route : FnScope ["_law_urn_here", "_law_letters", "_law_few", "_law_k"] ["_law_urn_here"] (defScope (top 44)) := ⟨rfl, rfl, rfl, by decide +kernel, rfl, by decide +kernel, by decide +kernel⟩
theorem bd_law_route (g : GF K mg) (c_law_draw : Cal P w K mg base 1 "_law_draw" [] 2 (m_law_draw)) {f : Addr} : BodyZ P w K mg base ["_law_urn_here", "_law_letters", "_law_few", "_law_k"] "_law_route" (defBody (top 44)) (defScope (top 44)) f 1 (b_law_route) := by
  intro cdv A outer s H E hr
  have nd := sc_law_route.nd
  exact zs_cons (z_set (i := 1) nd rfl (by first | exact Or.inl rfl | exact Or.inr rfl) (z_str)) (zs_cons (z_set (i := 2) nd rfl (by first | exact Or.inl rfl | exact Or.inr rfl) (z_ix (z_fr onlyL_lst (fr_lst (z_cons (z_var 1) (z_cons (z_str) (z_nil))))) (z_call c_law_draw (hr.mono (by decide)) (takes_of rfl rfl rfl rfl) (by rfl) (z_cons (z_var 0) (z_cons (z_int) (z_nil)))) (fun _ _ => rfl))) (zs_one (z_ret (z_ct cz_tuple (by rfl) g.f_tuple bt_tuple (z_cons (z_fr onlyL_lc (fr_lc rfl nd (z_irange1 (by rfl) g.f_range (z_cons (z_call c_law_draw (hr.mono (by decide)) (takes_of rfl rfl rfl rfl) (by rfl) (z_cons (z_var 0) (z_cons (z_int) (z_nil)))) (z_nil))) (own := [("_law_k", 3)]) (blk_ok (by kernel_rfl)) (inSl_name (by decide)) (fun _ _ _ _ _ => z_gname (i := 3) nd rfl (by first | exact Or.inl rfl | exact Or.inr rfl)) (fun _ _ _ _ _ => z_ifs0) (fun _ _ _ _ _ => z_ix (z_var 2) (z_call c_law_draw (hr.mono (by decide)) tk0 (by rfl) (z_cons (z_var 0) (z_cons (z_cb (cz_len) (by rfl) g.f_len bt_len (z_cons (z_var 2) (z_nil))) (z_nil)))) (fun _ _ => rfl)))) (z_nil))))))
theorem cal_law_route (g : GF K mg) (c_law_draw : Cal P w K mg base 1 "_law_draw" [] 2 (m_law_draw)) {f : Addr} {fd : FuncData} (F : FunD K "_law_route" "_law_route" (defArgs (top 44)) (defBody (top 44)) (defScope (top 44)) [] [] f fd) (gm : mg "_law_route" = some (.ref f)) : Cal P w K mg base 2 "_law_route" [] 1 m_law_route :=
  cal_of F gm sc_law_route (bd_law_route g c_law_draw) (F.bindsN fun _ _ _ _ _ _ us hl => match us, hl with | [_], _ => rfl) rfl
theorem sc_law_scheme : FnScope ["_law_urn_here", "_law_weights", "_law_base", "_law_modulus", "_law_k"] ["_law_urn_here"] (defScope (top 45)) := ⟨rfl, rfl, rfl, by decide +kernel, rfl, by decide +kernel, by decide +kernel⟩
theorem bd_law_scheme (g : GF K mg) (c_law_draw : Cal P w K mg base 1 "_law_draw" [] 2 (m_law_draw)) {f : Addr} : BodyZ P w K mg base ["_law_urn_here", "_law_weights", "_law_base", "_law_modulus", "_law_k"] "_law_scheme" (defBody (top 45)) (defScope (top 45)) f 1 (b_law_scheme) := by
  intro cdv A outer s H E hr
  have nd := sc_law_scheme.nd
  exact zs_cons (z_unp (z_tup (z_cons (z_bin opz_add (z_int) (z_call c_law_draw (hr.mono (by decide)) (takes_of rfl rfl rfl rfl) (by rfl) (z_cons (z_var 0) (z_cons (z_int) (z_nil))))) (z_cons (z_bin opz_add (z_int) (z_call c_law_draw (hr.mono (by decide)) (takes_of rfl rfl rfl rfl) (by rfl) (z_cons (z_var 0) (z_cons (z_int) (z_nil))))) (z_nil)))) (z_gtup rfl (z_gcons (z_gname (i := 2) nd rfl (by first | exact Or.inl rfl | exact Or.inr rfl)) (z_gcons (z_gname (i := 3) nd rfl (by first | exact Or.inl rfl | exact Or.inr rfl)) (z_gnil))))) (zs_cons (z_set (i := 1) nd rfl (by first | exact Or.inl rfl | exact Or.inr rfl) (z_ct cz_tuple (by rfl) g.f_tuple bt_tuple (z_cons (z_fr onlyL_lc (fr_lc rfl nd (z_irange1 (by rfl) g.f_range (z_cons (z_bin opz_add (z_int) (z_call c_law_draw (hr.mono (by decide)) (takes_of rfl rfl rfl rfl) (by rfl) (z_cons (z_var 0) (z_cons (z_int) (z_nil))))) (z_nil))) (own := [("_law_k", 4)]) (blk_ok (by kernel_rfl)) (inSl_name (by decide)) (fun _ _ _ _ _ => z_gname (i := 4) nd rfl (by first | exact Or.inl rfl | exact Or.inr rfl)) (fun _ _ _ _ _ => z_ifs0) (fun _ _ _ _ _ => z_call c_law_draw (hr.mono (by decide)) tk0 (by rfl) (z_cons (z_var 0) (z_cons (z_var 3) (z_nil)))))) (z_nil)))) (zs_one (z_ret (z_tup (z_cons (z_var 2) (z_cons (z_var 3) (z_cons (z_var 1) (z_cons (z_call c_law_draw (hr.mono (by decide)) (takes_of rfl rfl rfl rfl) (by rfl) (z_cons (z_var 0) (z_cons (z_var 3) (z_nil)))) (z_nil)))))))))
theorem cal_law_scheme (g : GF K mg) (c_law_draw : Cal P w K mg base 1 "_law_draw" [] 2 (m_law_draw)) {f : Addr} {fd : FuncData} (F : FunD K "_law_scheme" "_law_scheme" (defArgs (top 45)) (defBody (top 45)) (defScope (top 45)) [] [] f fd) (gm : mg "_law_scheme" = some (.ref f)) : Cal P w K mg base 2 "_law_scheme" [] 1 m_law_scheme :=
  cal_of F gm sc_law_scheme (bd_law_scheme g c_law_draw) (F.bindsN fun _ _ _ _ _ _ us hl => match us, hl with | [_], _ => rfl) rfl
theorem sc_law_written : FnScope ["_law_calendar_here", "_law_text", "_law_first", "_law_last"] ["_law_calendar_here"] (defScope (top 46)) := ⟨rfl, rfl, rfl, by decide +kernel, rfl, by decide +kernel, by decide +kernel⟩
theorem bd_law_written (g : GF K mg)  {f : Addr} : BodyZ P w K mg base ["_law_calendar_here", "_law_text", "_law_first", "_law_last"] "_law_written" (defBody (top 46)) (defScope (top 46)) f 0 (b_law_written) := by
  intro cdv A outer s H E hr
  have nd := sc_law_written.nd
  exact zs_cons (z_set (i := 1) nd rfl (by first | exact Or.inl rfl | exact Or.inr rfl) (z_ix (z_var 0) (z_int) (fun _ _ => rfl))) (zs_cons (z_for (passes_of rfl) rfl (z_iseq (z_ix (z_var 0) (z_int) (fun _ _ => rfl))) (z_gtup rfl (z_gcons (z_gname (i := 2) nd rfl (by first | exact Or.inl rfl | exact Or.inr rfl)) (z_gcons (z_gname (i := 3) nd rfl (by first | exact Or.inl rfl | exact Or.inr rfl)) (z_gnil)))) (zs_one (z_set (i := 1) nd rfl (by first | exact Or.inl rfl | exact Or.inr rfl) (z_bin opz_add (z_bin opz_add (z_bin opz_add (z_bin opz_add (z_var 1) (z_str)) (z_ct cz_str (by rfl) g.f_str bt_str (z_cons (z_var 2) (z_nil)))) (z_str)) (z_ct cz_str (by rfl) g.f_str bt_str (z_cons (z_var 3) (z_nil))))))) (zs_cons (z_for (passes_of rfl) rfl (z_iseq (z_ix (z_var 0) (z_int) (fun _ _ => rfl))) (z_gtup rfl (z_gcons (z_gname (i := 2) nd rfl (by first | exact Or.inl rfl | exact Or.inr rfl)) (z_gcons (z_gname (i := 3) nd rfl (by first | exact Or.inl rfl | exact Or.inr rfl)) (z_gnil)))) (zs_one (z_set (i := 1) nd rfl (by first | exact Or.inl rfl | exact Or.inr rfl) (z_bin opz_add (z_bin opz_add (z_bin opz_add (z_bin opz_add (z_var 1) (z_str)) (z_ct cz_str (by rfl) g.f_str bt_str (z_cons (z_var 2) (z_nil)))) (z_str)) (z_ct cz_str (by rfl) g.f_str bt_str (z_cons (z_var 3) (z_nil))))))) (zs_one (z_ret (z_var 1)))))
theorem cal_law_written (g : GF K mg)  {f : Addr} {fd : FuncData} (F : FunD K "_law_written" "_law_written" (defArgs (top 46)) (defBody (top 46)) (defScope (top 46)) [] [] f fd) (gm : mg "_law_written" = some (.ref f)) : Cal P w K mg base 1 "_law_written" [] 1 m_law_written :=
  cal_of F gm sc_law_written (bd_law_written g ) (F.bindsN fun _ _ _ _ _ _ us hl => match us, hl with | [_], _ => rfl) rfl
theorem sc_law_calendars_right : FnScope ["_law_urn_here", "_law_one", "_law_calendar_here", "_law_other"] ["_law_urn_here"] (defScope (top 47)) := ⟨rfl, rfl, rfl, by decide +kernel, rfl, by decide +kernel, by decide +kernel⟩
theorem bd_law_calendars_right (g : GF K mg) (c_law_calendar : Cal P w K mg base 3 "_law_calendar" [] 1 (m_law_calendar)) (c_law_same : Cal P w K mg base 7 "_law_same" [] 2 (m_law_same 6)) (c_read_calendar : Cal P w K mg base 4 "read_calendar" [] 1 (m_read_calendar)) (c_law_written : Cal P w K mg base 1 "_law_written" [] 1 (m_law_written)) (c_show_calendar : Cal P w K mg base 1 "show_calendar" [] 1 (m_show_calendar)) (c_show_calendar_kw0 : CalK P w K mg base 1 "show_calendar" 0 ["calendar"] [0] 1 m_show_calendar) (c_read_calendar_kw0 : CalK P w K mg base 4 "read_calendar" 0 ["text"] [0] 1 m_read_calendar) {f : Addr} : BodyZ P w K mg base ["_law_urn_here", "_law_one", "_law_calendar_here", "_law_other"] "_law_calendars_right" (defBody (top 47)) (defScope (top 47)) f 7 (b_law_calendars_right) := by
  intro cdv A outer s H E hr
  have nd := sc_law_calendars_right.nd
  exact zs_cons (z_par2 (i := 2) (j := 3) rfl nd rfl rfl (by decide) (by kernel_rfl) (by kernel_rfl) (z_cons (z_call c_law_calendar (hr.mono (by decide)) (takes_of rfl rfl rfl rfl) (by rfl) (z_cons (z_var 0) (z_nil))) (z_cons (z_call c_law_calendar (hr.mono (by decide)) (takes_of rfl rfl rfl rfl) (by rfl) (z_cons (z_var 0) (z_nil))) (z_nil))) (by kernel_rfl)) (zs_cons (z_for (passes_of rfl) rfl (z_iseq (z_fr onlyL_lst (fr_lst (z_cons (z_var 2) (z_cons (z_var 3) (z_cons (z_var 2) (z_nil))))))) (z_gname (i := 1) nd rfl (by first | exact Or.inl rfl | exact Or.inr rfl)) (zs_one (z_if ((z_or (z_not (z_tru (z_call c_law_same (hr.mono (by decide)) (takes_of rfl rfl rfl rfl) (by rfl) (z_cons (z_call c_show_calendar (hr.mono (by decide)) (takes_of rfl rfl rfl rfl) (by rfl) (z_cons (z_var 1) (z_nil))) (z_cons (z_call c_law_written (hr.mono (by decide)) (takes_of rfl rfl rfl rfl) (by rfl) (z_cons (z_var 1) (z_nil))) (z_nil)))))) (z_or1 (z_not (z_tru (z_call c_law_same (hr.mono (by decide)) (takes_of rfl rfl rfl rfl) (by rfl) (z_cons (z_call c_read_calendar (hr.mono (by decide)) (takes_of rfl rfl rfl rfl) (by rfl) (z_cons (z_call c_law_written (hr.mono (by decide)) (takes_of rfl rfl rfl rfl) (by rfl) (z_cons (z_var 1) (z_nil))) (z_nil))) (z_cons (z_var 1) (z_nil)))))))).pt) (zs_one (z_ret (z_bl))) (zs_nil)))) (zs_cons (z_if ((z_or (z_not (z_tru (z_call c_law_same (hr.mono (by decide)) (takes_of rfl rfl rfl rfl) (by rfl) (z_cons (z_callK0 (ks := ["text"]) c_read_calendar_kw0 (hr.mono (by decide)) (takes_of rfl rfl rfl rfl) (by rfl) (z_kcons (z_call c_law_written (hr.mono (by decide)) (takes_of rfl rfl rfl rfl) (by rfl) (z_cons (z_var 3) (z_nil))) (z_knil))) (z_cons (z_var 3) (z_nil)))))) (z_or1 (z_cmpT (opz_ne (Room.u64 hr)) (z_callK0 (ks := ["calendar"]) c_show_calendar_kw0 (hr.mono (by decide)) (takes_of rfl rfl rfl rfl) (by rfl) (z_kcons (z_var 3) (z_knil))) (z_call c_law_written (hr.mono (by decide)) (takes_of rfl rfl rfl rfl) (by rfl) (z_cons (z_var 3) (z_nil))) (by rfl)))).pt) (zs_one (z_ret (z_bl))) (zs_nil)) (zs_one (z_ret (z_cmp (opz_eq (Room.u64 hr)) (z_cmp (opz_eq (Room.u64 hr)) (z_call c_show_calendar (hr.mono (by decide)) (takes_of rfl rfl rfl rfl) (by rfl) (z_cons (z_var 2) (z_nil))) (z_call c_show_calendar (hr.mono (by decide)) (takes_of rfl rfl rfl rfl) (by rfl) (z_cons (z_var 3) (z_nil))) (by rfl)) (z_cmp (opz_eq (Room.u64 hr)) (z_var 2) (z_var 3) (by rfl)) (by rfl))))))
theorem cal_law_calendars_right (g : GF K mg) (c_law_calendar : Cal P w K mg base 3 "_law_calendar" [] 1 (m_law_calendar)) (c_law_same : Cal P w K mg base 7 "_law_same" [] 2 (m_law_same 6)) (c_read_calendar : Cal P w K mg base 4 "read_calendar" [] 1 (m_read_calendar)) (c_law_written : Cal P w K mg base 1 "_law_written" [] 1 (m_law_written)) (c_show_calendar : Cal P w K mg base 1 "show_calendar" [] 1 (m_show_calendar)) (c_show_calendar_kw0 : CalK P w K mg base 1 "show_calendar" 0 ["calendar"] [0] 1 m_show_calendar) (c_read_calendar_kw0 : CalK P w K mg base 4 "read_calendar" 0 ["text"] [0] 1 m_read_calendar) {f : Addr} {fd : FuncData} (F : FunD K "_law_calendars_right" "_law_calendars_right" (defArgs (top 47)) (defBody (top 47)) (defScope (top 47)) [] [] f fd) (gm : mg "_law_calendars_right" = some (.ref f)) : Cal P w K mg base 8 "_law_calendars_right" [] 1 m_law_calendars_right :=
  cal_of F gm sc_law_calendars_right (bd_law_calendars_right g c_law_calendar c_law_same c_read_calendar c_law_written c_show_calendar c_show_calendar_kw0 c_read_calendar_kw0) (F.bindsN fun _ _ _ _ _ _ us hl => match us, hl with | [_], _ => rfl) rfl
theorem sc_law_routes_right : FnScope ["_law_urn_here", "_law_route_here", "_law_text"] ["_law_urn_here"] (defScope (top 48)) := ⟨rfl, rfl, rfl, by decide +kernel, rfl, by decide +kernel, by decide +kernel⟩
theorem bd_law_routes_right (g : GF K mg) (c_law_route : Cal P w K mg base 2 "_law_route" [] 1 (m_law_route)) (c_law_same : Cal P w K mg base 7 "_law_same" [] 2 (m_law_same 6)) (c_read_route_kw0 : CalK P w K mg base 4 "read_route" 0 ["text"] [0] 1 m_read_route) (c_show_route_kw0 : CalK P w K mg base 1 "show_route" 0 ["route"] [0] 1 m_show_route) (c_read_route : Cal P w K mg base 4 "read_route" [] 1 (m_read_route)) (c_show_route : Cal P w K mg base 1 "show_route" [] 1 (m_show_route)) {f : Addr} : BodyZ P w K mg base ["_law_urn_here", "_law_route_here", "_law_text"] "_law_routes_right" (defBody (top 48)) (defScope (top 48)) f 7 (b_law_routes_right) := by
  intro cdv A outer s H E hr
  have nd := sc_law_routes_right.nd
  exact zs_cons (z_set (i := 1) nd rfl (by first | exact Or.inl rfl | exact Or.inr rfl) (z_call c_law_route (hr.mono (by decide)) (takes_of rfl rfl rfl rfl) (by rfl) (z_cons (z_var 0) (z_nil)))) (zs_cons (z_set (i := 2) nd rfl (by first | exact Or.inl rfl | exact Or.inr rfl) (z_bm PySem.F.plainAttrs_str PySem.F.slot_str_join PySem.F.type_str_join mz_join (z_str) (z_cons (z_var 1) (z_nil)))) (zs_cons (z_if (z_cmpT (opz_eq (Room.u64 hr)) (z_var 1) (z_tup (z_nil)) (by rfl)) (zs_one (z_set (i := 2) nd rfl (by first | exact Or.inl rfl | exact Or.inr rfl) (z_str))) (zs_nil)) (zs_cons (z_if ((z_or (z_cmpT (opz_ne (Room.u64 hr)) (z_callK0 (ks := ["route"]) c_show_route_kw0 (hr.mono (by decide)) (takes_of rfl rfl rfl rfl) (by rfl) (z_kcons (z_var 1) (z_knil))) (z_var 2) (by rfl)) (z_or1 (z_not (z_tru (z_call c_law_same (hr.mono (by decide)) (takes_of rfl rfl rfl rfl) (by rfl) (z_cons (z_callK0 (ks := ["text"]) c_read_route_kw0 (hr.mono (by decide)) (takes_of rfl rfl rfl rfl) (by rfl) (z_kcons (z_var 2) (z_knil))) (z_cons (z_var 1) (z_nil)))))))).pt) (zs_one (z_ret (z_bl))) (zs_nil)) (zs_one (z_ret (z_andV (z_call c_law_same (hr.mono (by decide)) (takes_of rfl rfl rfl rfl) (by rfl) (z_cons (z_call c_show_route (hr.mono (by decide)) (takes_of rfl rfl rfl rfl) (by rfl) (z_cons (z_var 1) (z_nil))) (z_cons (z_var 2) (z_nil)))) (z_one (z_call c_law_same (hr.mono (by decide)) (takes_of rfl rfl rfl rfl) (by rfl) (z_cons (z_call c_read_route (hr.mono (by decide)) (takes_of rfl rfl rfl rfl) (by rfl) (z_cons (z_var 2) (z_nil))) (z_cons (z_var 1) (z_nil)))))))))))
theorem cal_law_routes_right (g : GF K mg) (c_law_route : Cal P w K mg base 2 "_law_route" [] 1 (m_law_route)) (c_law_same : Cal P w K mg base 7 "_law_same" [] 2 (m_law_same 6)) (c_read_route_kw0 : CalK P w K mg base 4 "read_route" 0 ["text"] [0] 1 m_read_route) (c_show_route_kw0 : CalK P w K mg base 1 "show_route" 0 ["route"] [0] 1 m_show_route) (c_read_route : Cal P w K mg base 4 "read_route" [] 1 (m_read_route)) (c_show_route : Cal P w K mg base 1 "show_route" [] 1 (m_show_route)) {f : Addr} {fd : FuncData} (F : FunD K "_law_routes_right" "_law_routes_right" (defArgs (top 48)) (defBody (top 48)) (defScope (top 48)) [] [] f fd) (gm : mg "_law_routes_right" = some (.ref f)) : Cal P w K mg base 8 "_law_routes_right" [] 1 m_law_routes_right :=
  cal_of F gm sc_law_routes_right (bd_law_routes_right g c_law_route c_law_same c_read_route_kw0 c_show_route_kw0 c_read_route c_show_route) (F.bindsN fun _ _ _ _ _ _ us hl => match us, hl with | [_], _ => rfl) rfl
theorem sc_law_codes_right : FnScope ["_law_urn_here", "_law_scheme_here", "_law_code", "_law_text", "_law_weight", "_law_digit"] ["_law_urn_here"] (defScope (top 49)) := ⟨rfl, rfl, rfl, by decide +kernel, rfl, by decide +kernel, by decide +kernel⟩
theorem bd_law_codes_right (g : GF K mg) (c_law_scheme : Cal P w K mg base 2 "_law_scheme" [] 1 (m_law_scheme)) (c_law_draw : Cal P w K mg base 1 "_law_draw" [] 2 (m_law_draw)) (c_law_same : Cal P w K mg base 7 "_law_same" [] 2 (m_law_same 6)) (c_read_code_kw0 : CalK P w K mg base 4 "read_code" 0 ["text", "scheme"] [1, 0] 2 m_read_code) (c_show_code_kw0 : CalK P w K mg base 1 "show_code" 0 ["code"] [0] 1 m_show_code) (c_read_code : Cal P w K mg base 4 "read_code" [] 2 (m_read_code)) (c_show_code : Cal P w K mg base 1 "show_code" [] 1 (m_show_code)) {f : Addr} : BodyZ P w K mg base ["_law_urn_here", "_law_scheme_here", "_law_code", "_law_text", "_law_weight", "_law_digit"] "_law_codes_right" (defBody (top 49)) (defScope (top 49)) f 7 (b_law_codes_right) := by
  intro cdv A outer s H E hr
  have nd := sc_law_codes_right.nd
  exact zs_cons (z_set (i := 1) nd rfl (by first | exact Or.inl rfl | exact Or.inr rfl) (z_call c_law_scheme (hr.mono (by decide)) (takes_of rfl rfl rfl rfl) (by rfl) (z_cons (z_var 0) (z_nil)))) (zs_cons (z_set (i := 2) nd rfl (by first | exact Or.inl rfl | exact Or.inr rfl) (z_ct cz_tuple (by rfl) g.f_tuple bt_tuple (z_cons (z_fr onlyL_lc (fr_lc rfl nd (z_iseq (z_ix (z_var 1) (z_int) (fun _ _ => rfl))) (own := [("_law_weight", 4)]) (blk_ok (by kernel_rfl)) (inSl_name (by decide)) (fun _ _ _ _ _ => z_gname (i := 4) nd rfl (by first | exact Or.inl rfl | exact Or.inr rfl)) (fun _ _ _ _ _ => z_ifs0) (fun _ _ _ _ _ => z_call c_law_draw (hr.mono (by decide)) tk0 (by rfl) (z_cons (z_var 0) (z_cons (z_ix (z_var 1) (z_int) (fun _ _ => rfl)) (z_nil)))))) (z_nil)))) (zs_cons (z_set (i := 3) nd rfl (by first | exact Or.inl rfl | exact Or.inr rfl) (z_bm PySem.F.plainAttrs_str PySem.F.slot_str_join PySem.F.type_str_join mz_join (z_str) (z_cons (z_fr onlyL_lc (fr_lc rfl nd (z_iseq (z_var 2)) (own := [("_law_digit", 5)]) (blk_ok (by kernel_rfl)) (inSl_name (by decide)) (fun _ _ _ _ _ => z_gname (i := 5) nd rfl (by first | exact Or.inl rfl | exact Or.inr rfl)) (fun _ _ _ _ _ => z_ifs0) (fun _ _ _ _ _ => z_ix (z_str) (z_var 5) (fun _ _ => rfl)))) (z_nil)))) (zs_cons (z_if ((z_or (z_cmpT (opz_ne (Room.u64 hr)) (z_callK0 (ks := ["code"]) c_show_code_kw0 (hr.mono (by decide)) (takes_of rfl rfl rfl rfl) (by rfl) (z_kcons (z_var 2) (z_knil))) (z_var 3) (by rfl)) (z_or1 (z_not (z_tru (z_call c_law_same (hr.mono (by decide)) (takes_of rfl rfl rfl rfl) (by rfl) (z_cons (z_callK0 (ks := ["text", "scheme"]) c_read_code_kw0 (hr.mono (by decide)) (takes_of rfl rfl rfl rfl) (by rfl) (z_kcons (z_var 3) (z_kcons (z_var 1) (z_knil)))) (z_cons (z_var 2) (z_nil)))))))).pt) (zs_one (z_ret (z_bl))) (zs_nil)) (zs_one (z_ret (z_andV (z_call c_law_same (hr.mono (by decide)) (takes_of rfl rfl rfl rfl) (by rfl) (z_cons (z_call c_show_code (hr.mono (by decide)) (takes_of rfl rfl rfl rfl) (by rfl) (z_cons (z_var 2) (z_nil))) (z_cons (z_var 3) (z_nil)))) (z_one (z_call c_law_same (hr.mono (by decide)) (takes_of rfl rfl rfl rfl) (by rfl) (z_cons (z_call c_read_code (hr.mono (by decide)) (takes_of rfl rfl rfl rfl) (by rfl) (z_cons (z_var 1) (z_cons (z_var 3) (z_nil)))) (z_cons (z_var 2) (z_nil)))))))))))
theorem cal_law_codes_right (g : GF K mg) (c_law_scheme : Cal P w K mg base 2 "_law_scheme" [] 1 (m_law_scheme)) (c_law_draw : Cal P w K mg base 1 "_law_draw" [] 2 (m_law_draw)) (c_law_same : Cal P w K mg base 7 "_law_same" [] 2 (m_law_same 6)) (c_read_code_kw0 : CalK P w K mg base 4 "read_code" 0 ["text", "scheme"] [1, 0] 2 m_read_code) (c_show_code_kw0 : CalK P w K mg base 1 "show_code" 0 ["code"] [0] 1 m_show_code) (c_read_code : Cal P w K mg base 4 "read_code" [] 2 (m_read_code)) (c_show_code : Cal P w K mg base 1 "show_code" [] 1 (m_show_code)) {f : Addr} {fd : FuncData} (F : FunD K "_law_codes_right" "_law_codes_right" (defArgs (top 49)) (defBody (top 49)) (defScope (top 49)) [] [] f fd) (gm : mg "_law_codes_right" = some (.ref f)) : Cal P w K mg base 8 "_law_codes_right" [] 1 m_law_codes_right :=
  cal_of F gm sc_law_codes_right (bd_law_codes_right g c_law_scheme c_law_draw c_law_same c_read_code_kw0 c_show_code_kw0 c_read_code c_show_code) (F.bindsN fun _ _ _ _ _ _ us hl => match us, hl with | [_], _ => rfl) rfl
theorem sc_law : FnScope ["_law_script", "_law_k", "_law_urn_here", "_law_turn"] ["_law_script"] (defScope (top 50)) := ⟨rfl, rfl, rfl, by decide +kernel, rfl, by decide +kernel, by decide +kernel⟩
theorem bd_law (g : GF K mg) (c_law_urn : Cal P w K mg base 1 "_law_urn" [] 2 (m_law_urn)) (c_law_codes_right : Cal P w K mg base 8 "_law_codes_right" [] 1 (m_law_codes_right)) (c_law_routes_right : Cal P w K mg base 8 "_law_routes_right" [] 1 (m_law_routes_right)) (c_law_calendars_right : Cal P w K mg base 8 "_law_calendars_right" [] 1 (m_law_calendars_right)) {f : Addr} : BodyZ P w K mg base ["_law_script", "_law_k", "_law_urn_here", "_law_turn"] "law" (defBody (top 50)) (defScope (top 50)) f 8 (b_law) := by
  intro cdv A outer s H E hr
  have nd := sc_law.nd
  exact zs_cons (z_for (passes_of rfl) rfl (z_irange1 (by rfl) g.f_range (z_cons (z_cb (cz_max rfl) (by rfl) g.f_max bt_max (z_cons (z_int) (z_cons (z_cb (cz_min rfl) (by rfl) g.f_min bt_min (z_cons (z_int) (z_cons (z_bin opz_add (z_cb (cz_len) (by rfl) g.f_len bt_len (z_cons (z_var 0) (z_nil))) (z_int)) (z_nil)))) (z_nil)))) (z_nil))) (z_gname (i := 1) nd rfl (by first | exact Or.inl rfl | exact Or.inr rfl)) (zs_cons (z_set (i := 2) nd rfl (by first | exact Or.inl rfl | exact Or.inr rfl) (z_call c_law_urn (hr.mono (by decide)) (takes_of rfl rfl rfl rfl) (by rfl) (z_cons (z_var 0) (z_cons (z_var 1) (z_nil))))) (zs_one (z_for (passes_of rfl) rfl (z_irange1 (by rfl) g.f_range (z_cons (z_int) (z_nil))) (z_gname (i := 3) nd rfl (by first | exact Or.inl rfl | exact Or.inr rfl)) (zs_one (z_if ((z_or (z_not (z_tru (z_call c_law_calendars_right (hr.mono (by decide)) (takes_of rfl rfl rfl rfl) (by rfl) (z_cons (z_var 2) (z_nil))))) (z_or (z_not (z_tru (z_call c_law_routes_right (hr.mono (by decide)) (takes_of rfl rfl rfl rfl) (by rfl) (z_cons (z_var 2) (z_nil))))) (z_or1 (z_not (z_tru (z_call c_law_codes_right (hr.mono (by decide)) (takes_of rfl rfl rfl rfl) (by rfl) (z_cons (z_var 2) (z_nil)))))))).pt) (zs_one (z_ret (z_bl))) (zs_nil))))))) (zs_one (z_ret (z_bl)))
theorem cal_law (g : GF K mg) (c_law_urn : Cal P w K mg base 1 "_law_urn" [] 2 (m_law_urn)) (c_law_codes_right : Cal P w K mg base 8 "_law_codes_right" [] 1 (m_law_codes_right)) (c_law_routes_right : Cal P w K mg base 8 "_law_routes_right" [] 1 (m_law_routes_right)) (c_law_calendars_right : Cal P w K mg base 8 "_law_calendars_right" [] 1 (m_law_calendars_right)) {f : Addr} {fd : FuncData} (F : FunD K "law" "law" (defArgs (top 50)) (defBody (top 50)) (defScope (top 50)) [] [] f fd) (gm : mg "law" = some (.ref f)) : Cal P w K mg base 9 "law" [] 1 m_law :=
  cal_of F gm sc_law (bd_law g c_law_urn c_law_codes_right c_law_routes_right c_law_calendars_right) (F.bindsN fun _ _ _ _ _ _ us hl => match us, hl with | [_], _ => rfl) rfl
end
end OfP.K89
namespace OfP.K89
open PySem L2 OfP
/-- an urn as it stands at l -/
structure Urn (N : Nat) (l : Nat) (ph : PH) (a b c : Int) : Prop where
  at_ : ph[l]? = some (.lst [.int a, .int b, .int c])
  a0 : 0 ≤ a
  b0 : 0 ≤ b
  b1 : b ≤ 10 ^ 40
  c0 : 0 ≤ c
  c1 : c ≤ N
theorem envZ_2_4 {a b : PV} : envZ 4 [a, b] = [some a, some b, none, none] := rfl
theorem draw_a {N l : Nat} {ph : PH} {a b c m : Int} (u : Urn N l ph a b c) (hN : N ≤ 10 ^ 6) (hm : 0 < m) (hm2 : m < 1000) : ∃ r a' c', m_law_draw [.loc l, .int m] ph = .ok (.int r) (ph.set l (.lst [.int a', .int b, .int c'])) ∧ 0 ≤ r ∧ r < m ∧ 0 ≤ a' ∧ 0 ≤ c' ∧ c' ≤ N + 1 := by
  have h0 := u.at_
  have hl : l < ph.length := (List.getElem?_eq_some_iff.mp h0).1
  have d3 : ixN 3 0 = some 0 := by decide
  have d4 : ixN 3 2 = some 2 := by decide
  by_cases ha : 0 < a
  · refine ⟨a % m, a / m, c, ?_, Int.emod_nonneg _ (by omega), Int.emod_lt_of_pos _ hm, Int.ediv_nonneg u.a0 (by omega), u.c0, by have := u.c1; omega⟩
    unfold m_law_draw
    refine dFn_rtS ?_ (by simp)
    rw [envZ_2_4]
    unfold b_law_draw
    have hd : divOk m = true := by
      unfold divOk
      rw [Bool.and_eq_true]
      refine ⟨decide_eq_true hm, decide_eq_true ?_⟩
      have : m.natAbs < 2 ^ 10 := by omega
      have := (Nat.log2_lt (by omega)).mpr this
      omega
    simp only [sSeq, sIf, sRet, sRetN, sSet, sSetL, sRetL, sExpr, sNil, sUnp, sPar2, sPar3, sAug, mBin, mBinT, mUn, mCB, mTru, mAndT, mOrT, mNotT, mIf, mAndV, mOrV, mNotV, mNil, mCons, mTup, mLst, mCall, mCallK, mMeth, mMake, mFld, sSetFld, sAugFld, sSetIx, mChain, mChainT, mSl, oNone, oSome, mBM, eVar, eC, ok_bind, bad_bind, ok_st, nx_seq, rt_seq, bk_seq, ct_seq, ofO_some, List.getElem?_cons_zero, List.getElem?_cons_succ, List.set_cons_zero, List.set_cons_succ, List.length_cons, List.length_nil, List.append_nil, List.nil_append, List.cons_append, tgName, tgNil, tgCons, tgTup, setsE, List.foldl_cons, List.foldl_nil, List.map_cons, List.map_nil, tYesZ, wipeE, isNZ, PV.isN, Option.map_some, Option.bind_some, if_true, if_false, Bool.not_true, Bool.not_false, reduceIte, Bool.false_eq_true, permP, List.getD_cons_zero, List.getD_cons_succ, atI_0, atI_1, atI_2, atI_3, addZ_int, subZ_int, modZ_int, gtZ_int, ltZ_int, leZ_int, geZ_int, eqZ_int, neZ_int, intTyZ_int, truZ_bl, addI_int, maxZ_int, minZ_int, rb_bl, negZ_int, ixZ_tup, ixZ_lst, ixZ_scr, lenZ_tup, lenZ_lst, lenZ_scr, tupTyZ_lst, tupTyZ_tup, tyOk_str, Nat.reduceAdd, Nat.zero_add, lk0, lk1, lk2, lk3, lk4, lk5, lk6, lk7, lk8, lk9, lk10, lk11, lk12, and_self, and_true, true_and, Bool.and_true, Bool.true_and, Bool.and_self, Bool.or_false, Bool.false_or, cst0, cst1, cst2, cst3, cst4, cst5, cst6, cst7, cst8, cst9, cst10, cst11, cst12, sz0, sz1, sz2, sz3, sz4, sz5, sz6, sz7, sz8, sz9, sz10, sz11, sz12, is_non_int, is_non_bool, is_non_str, is_non_tuple, is_non_list, is_bl_int, is_bl_bool, is_bl_str, is_bl_tuple, is_bl_list, is_int_int, is_int_bool, is_int_str, is_int_tuple, is_int_list, is_str_int, is_str_bool, is_str_str, is_str_tuple, is_str_list, is_tup_int, is_tup_bool, is_tup_str, is_tup_tuple, is_tup_list, is_lst_int, is_lst_bool, is_lst_str, is_lst_tuple, is_lst_list, ixZ_loc h0, h0, d3, ha, decide_true, modZ_int hm, fdivZ_int hd]
  · have hc := u.c0
    have hc1 := u.c1
    have hb := u.b0
    have hb1 := u.b1
    have e1 : (ph.set l (.lst [.int a, .int b, .int (c + 1)]))[l]? = some (.lst [.int a, .int b, .int (c + 1)]) := by simp [hl]
    have q1 : mulOk 314159265358979 (c + 1) = true := mulOk_of (n := 60) (m := 60) (by decide) (by omega) (by decide)
    have q2 : powOk (b + 314159265358979 * (c + 1)) 3 = true := powOk_of (n := 200) (k := 3) (by omega) (by decide)
    have q3 : powOk 10 43 = true := powOk_of (n := 4) (k := 43) (by decide) (by decide)
    have q4 : mulOk 271828182845904 (c + 1) = true := mulOk_of (n := 60) (m := 60) (by decide) (by omega) (by decide)
    have q5 : powOk 10 42 = true := powOk_of (n := 4) (k := 42) (by decide) (by decide)
    have q6 : powOk 10 9 = true := powOk_of (n := 4) (k := 9) (by decide) (by decide)
    have q7 : divOk (10 ^ Int.toNat 9) = true := by decide
    have hx : ∀ x : Int, mulOk (x % (10 ^ Int.toNat 43 + 57)) (x % (10 ^ Int.toNat 43 + 57)) = true := fun x => by
      have h1 := Int.emod_nonneg x (b := 10 ^ Int.toNat 43 + 57) (by decide)
      have h2 := Int.emod_lt_of_pos x (b := 10 ^ Int.toNat 43 + 57) (by decide)
      generalize x % (10 ^ Int.toNat 43 + 57) = y at *
      have h3 : (10 ^ Int.toNat 43 + 57 : Int) < 2 ^ 200 := by decide
      exact mulOk_of (n := 200) (m := 200) (by omega) (by omega) (by decide)
    refine ⟨?r, a, c + 1, ?_, ?_, ?_, u.a0, by omega, by omega⟩
    case r => exact ((((b + 314159265358979 * (c + 1)) ^ Int.toNat 3 % (10 ^ Int.toNat 43 + 57)) * ((b + 314159265358979 * (c + 1)) ^ Int.toNat 3 % (10 ^ Int.toNat 43 + 57)) + 271828182845904 * (c + 1)) % (10 ^ Int.toNat 42 + 63) / 10 ^ Int.toNat 9) % m
    · unfold m_law_draw
      refine dFn_rtS ?_ (by simp)
      rw [envZ_2_4]
      unfold b_law_draw
      have p1 : (0 : Int) < 10 ^ Int.toNat 43 + 57 := by decide
      have p2 : (0 : Int) < 10 ^ Int.toNat 42 + 63 := by decide
      simp only [sSeq, sIf, sRet, sRetN, sSet, sSetL, sRetL, sExpr, sNil, sUnp, sPar2, sPar3, sAug, mBin, mBinT, mUn, mCB, mTru, mAndT, mOrT, mNotT, mIf, mAndV, mOrV, mNotV, mNil, mCons, mTup, mLst, mCall, mCallK, mMeth, mMake, mFld, sSetFld, sAugFld, sSetIx, mChain, mChainT, mSl, oNone, oSome, mBM, eVar, eC, ok_bind, bad_bind, ok_st, nx_seq, rt_seq, bk_seq, ct_seq, ofO_some, List.getElem?_cons_zero, List.getElem?_cons_succ, List.set_cons_zero, List.set_cons_succ, List.length_cons, List.length_nil, List.append_nil, List.nil_append, List.cons_append, tgName, tgNil, tgCons, tgTup, setsE, List.foldl_cons, List.foldl_nil, List.map_cons, List.map_nil, tYesZ, wipeE, isNZ, PV.isN, Option.map_some, Option.bind_some, if_true, if_false, Bool.not_true, Bool.not_false, reduceIte, Bool.false_eq_true, permP, List.getD_cons_zero, List.getD_cons_succ, atI_0, atI_1, atI_2, atI_3, addZ_int, subZ_int, modZ_int, gtZ_int, ltZ_int, leZ_int, geZ_int, eqZ_int, neZ_int, intTyZ_int, truZ_bl, addI_int, maxZ_int, minZ_int, rb_bl, negZ_int, ixZ_tup, ixZ_lst, ixZ_scr, lenZ_tup, lenZ_lst, lenZ_scr, tupTyZ_lst, tupTyZ_tup, tyOk_str, Nat.reduceAdd, Nat.zero_add, lk0, lk1, lk2, lk3, lk4, lk5, lk6, lk7, lk8, lk9, lk10, lk11, lk12, and_self, and_true, true_and, Bool.and_true, Bool.true_and, Bool.and_self, Bool.or_false, Bool.false_or, cst0, cst1, cst2, cst3, cst4, cst5, cst6, cst7, cst8, cst9, cst10, cst11, cst12, sz0, sz1, sz2, sz3, sz4, sz5, sz6, sz7, sz8, sz9, sz10, sz11, sz12, is_non_int, is_non_bool, is_non_str, is_non_tuple, is_non_list, is_bl_int, is_bl_bool, is_bl_str, is_bl_tuple, is_bl_list, is_int_int, is_int_bool, is_int_str, is_int_tuple, is_int_list, is_str_int, is_str_bool, is_str_str, is_str_tuple, is_str_list, is_tup_int, is_tup_bool, is_tup_str, is_tup_tuple, is_tup_list, is_lst_int, is_lst_bool, is_lst_str, is_lst_tuple, is_lst_list, ixZ_loc h0, h0, d3, d4, ha, decide_false, ixZ_loc e1, mulZ_int q1, powZ_int q2, powZ_int q3, modZ_int p1, mulZ_int (hx _), mulZ_int q4, powZ_int q5, modZ_int p2, powZ_int q6, fdivZ_int q7, modZ_int hm]
    · exact Int.emod_nonneg _ (by omega)
    · exact Int.emod_lt_of_pos _ hm

open SX (S)
/-! equal values -/
def Gd : Nat → PV → Prop
  | 0, _ => False
  | k + 1, v => (∃ i, v = .int i) ∨ (∃ a, v = .str (S a) ∧ ∀ c ∈ a, c < 0x110000) ∨ ∃ xs, v = .tup xs ∧ xs.length ≤ 1000 ∧ ∀ x ∈ xs, Gd k x
theorem same_refl : ∀ (k : Nat) (v : PV) (ph : PH), Gd k v → m_law_same k [v, v] ph = .ok (.bl true) ph := by
  intro k
  induction k with
  | zero => intro v ph h; exact h.elim
  | succ k ih =>
    intro v ph h
    unfold m_law_same
    refine dFn_rt ?_
    rw [envZ_2_4]
    unfold b_law_same
    rcases h with ⟨i, rfl⟩ | ⟨a, rfl, ha⟩ | ⟨xs, rfl, hl, hx⟩
    · simp only [sSeq, sIf, sRet, sRetN, sSet, sSetL, sRetL, sExpr, sNil, sUnp, sPar2, sPar3, sAug, mBin, mBinT, mUn, mCB, mTru, mAndT, mOrT, mNotT, mIf, mAndV, mOrV, mNotV, mNil, mCons, mTup, mLst, mCall, mCallK, mMeth, mMake, mFld, sSetFld, sAugFld, sSetIx, mChain, mChainT, mSl, oNone, oSome, mBM, eVar, eC, ok_bind, bad_bind, ok_st, nx_seq, rt_seq, bk_seq, ct_seq, ofO_some, List.getElem?_cons_zero, List.getElem?_cons_succ, List.set_cons_zero, List.set_cons_succ, List.length_cons, List.length_nil, List.append_nil, List.nil_append, List.cons_append, tgName, tgNil, tgCons, tgTup, setsE, List.foldl_cons, List.foldl_nil, List.map_cons, List.map_nil, tYesZ, wipeE, isNZ, PV.isN, Option.map_some, Option.bind_some, if_true, if_false, Bool.not_true, Bool.not_false, reduceIte, Bool.false_eq_true, permP, List.getD_cons_zero, List.getD_cons_succ, atI_0, atI_1, atI_2, atI_3, addZ_int, subZ_int, modZ_int, gtZ_int, ltZ_int, leZ_int, geZ_int, eqZ_int, neZ_int, intTyZ_int, truZ_bl, addI_int, maxZ_int, minZ_int, rb_bl, negZ_int, ixZ_tup, ixZ_lst, ixZ_scr, lenZ_tup, lenZ_lst, lenZ_scr, tupTyZ_lst, tupTyZ_tup, tyOk_str, Nat.reduceAdd, Nat.zero_add, lk0, lk1, lk2, lk3, lk4, lk5, lk6, lk7, lk8, lk9, lk10, lk11, lk12, and_self, and_true, true_and, Bool.and_true, Bool.true_and, Bool.and_self, Bool.or_false, Bool.false_or, cst0, cst1, cst2, cst3, cst4, cst5, cst6, cst7, cst8, cst9, cst10, cst11, cst12, sz0, sz1, sz2, sz3, sz4, sz5, sz6, sz7, sz8, sz9, sz10, sz11, sz12, is_non_int, is_non_bool, is_non_str, is_non_tuple, is_non_list, is_bl_int, is_bl_bool, is_bl_str, is_bl_tuple, is_bl_list, is_int_int, is_int_bool, is_int_str, is_int_tuple, is_int_list, is_str_int, is_str_bool, is_str_str, is_str_tuple, is_str_list, is_tup_int, is_tup_bool, is_tup_str, is_tup_tuple, is_tup_list, is_lst_int, is_lst_bool, is_lst_str, is_lst_tuple, is_lst_list, decide_true]
    · simp only [sSeq, sIf, sRet, sRetN, sSet, sSetL, sRetL, sExpr, sNil, sUnp, sPar2, sPar3, sAug, mBin, mBinT, mUn, mCB, mTru, mAndT, mOrT, mNotT, mIf, mAndV, mOrV, mNotV, mNil, mCons, mTup, mLst, mCall, mCallK, mMeth, mMake, mFld, sSetFld, sAugFld, sSetIx, mChain, mChainT, mSl, oNone, oSome, mBM, eVar, eC, ok_bind, bad_bind, ok_st, nx_seq, rt_seq, bk_seq, ct_seq, ofO_some, List.getElem?_cons_zero, List.getElem?_cons_succ, List.set_cons_zero, List.set_cons_succ, List.length_cons, List.length_nil, List.append_nil, List.nil_append, List.cons_append, tgName, tgNil, tgCons, tgTup, setsE, List.foldl_cons, List.foldl_nil, List.map_cons, List.map_nil, tYesZ, wipeE, isNZ, PV.isN, Option.map_some, Option.bind_some, if_true, if_false, Bool.not_true, Bool.not_false, reduceIte, Bool.false_eq_true, permP, List.getD_cons_zero, List.getD_cons_succ, atI_0, atI_1, atI_2, atI_3, addZ_int, subZ_int, modZ_int, gtZ_int, ltZ_int, leZ_int, geZ_int, eqZ_int, neZ_int, intTyZ_int, truZ_bl, addI_int, maxZ_int, minZ_int, rb_bl, negZ_int, ixZ_tup, ixZ_lst, ixZ_scr, lenZ_tup, lenZ_lst, lenZ_scr, tupTyZ_lst, tupTyZ_tup, tyOk_str, Nat.reduceAdd, Nat.zero_add, lk0, lk1, lk2, lk3, lk4, lk5, lk6, lk7, lk8, lk9, lk10, lk11, lk12, and_self, and_true, true_and, Bool.and_true, Bool.true_and, Bool.and_self, Bool.or_false, Bool.false_or, cst0, cst1, cst2, cst3, cst4, cst5, cst6, cst7, cst8, cst9, cst10, cst11, cst12, sz0, sz1, sz2, sz3, sz4, sz5, sz6, sz7, sz8, sz9, sz10, sz11, sz12, is_non_int, is_non_bool, is_non_str, is_non_tuple, is_non_list, is_bl_int, is_bl_bool, is_bl_str, is_bl_tuple, is_bl_list, is_int_int, is_int_bool, is_int_str, is_int_tuple, is_int_list, is_str_int, is_str_bool, is_str_str, is_str_tuple, is_str_list, is_tup_int, is_tup_bool, is_tup_str, is_tup_tuple, is_tup_list, is_lst_int, is_lst_bool, is_lst_str, is_lst_tuple, is_lst_list, eqZ_str ha ha, decide_true]
    · have e : lc_law_same_0 (m_law_same k) [some (.tup xs), some (.tup xs), none, none] ph = .ok (.lst ((zipP xs xs).map fun _ => .bl true)) ph := by
        unfold lc_law_same_0
        rw [mLC_ok (it := ⟨zipP xs xs, []⟩) (ph1 := ph) (iZip_tup (by simp only [sSeq, sIf, sRet, sRetN, sSet, sSetL, sRetL, sExpr, sNil, sUnp, sPar2, sPar3, sAug, mBin, mBinT, mUn, mCB, mTru, mAndT, mOrT, mNotT, mIf, mAndV, mOrV, mNotV, mNil, mCons, mTup, mLst, mCall, mCallK, mMeth, mMake, mFld, sSetFld, sAugFld, sSetIx, mChain, mChainT, mSl, oNone, oSome, mBM, eVar, eC, ok_bind, bad_bind, ok_st, nx_seq, rt_seq, bk_seq, ct_seq, ofO_some, List.getElem?_cons_zero, List.getElem?_cons_succ, List.set_cons_zero, List.set_cons_succ, List.length_cons, List.length_nil, List.append_nil, List.nil_append, List.cons_append, tgName, tgNil, tgCons, tgTup, setsE, List.foldl_cons, List.foldl_nil, List.map_cons, List.map_nil, tYesZ, wipeE, isNZ, PV.isN, Option.map_some, Option.bind_some, if_true, if_false, Bool.not_true, Bool.not_false, reduceIte, Bool.false_eq_true, permP, List.getD_cons_zero, List.getD_cons_succ, atI_0, atI_1, atI_2, atI_3, addZ_int, subZ_int, modZ_int, gtZ_int, ltZ_int, leZ_int, geZ_int, eqZ_int, neZ_int, intTyZ_int, truZ_bl, addI_int, maxZ_int, minZ_int, rb_bl, negZ_int, ixZ_tup, ixZ_lst, ixZ_scr, lenZ_tup, lenZ_lst, lenZ_scr, tupTyZ_lst, tupTyZ_tup, tyOk_str, Nat.reduceAdd, Nat.zero_add, lk0, lk1, lk2, lk3, lk4, lk5, lk6, lk7, lk8, lk9, lk10, lk11, lk12, and_self, and_true, true_and, Bool.and_true, Bool.true_and, Bool.and_self, Bool.or_false, Bool.false_or, cst0, cst1, cst2, cst3, cst4, cst5, cst6, cst7, cst8, cst9, cst10, cst11, cst12, sz0, sz1, sz2, sz3, sz4, sz5, sz6, sz7, sz8, sz9, sz10, sz11, sz12, is_non_int, is_non_bool, is_non_str, is_non_tuple, is_non_list, is_bl_int, is_bl_bool, is_bl_str, is_bl_tuple, is_bl_list, is_int_int, is_int_bool, is_int_str, is_int_tuple, is_int_list, is_str_int, is_str_bool, is_str_str, is_str_tuple, is_str_list, is_tup_int, is_tup_bool, is_tup_str, is_tup_tuple, is_tup_list, is_lst_int, is_lst_bool, is_lst_str, is_lst_tuple, is_lst_list])) (by simp [zipP]; omega)]
        refine lc_map0 chk0 fun p hp => ?_
        simp only at hp
        rw [zipP_self] at hp
        obtain ⟨x, hx1, rfl⟩ := List.mem_map.mp hp
        refine ⟨[(2, x), (3, x)], by simp only [sSeq, sIf, sRet, sRetN, sSet, sSetL, sRetL, sExpr, sNil, sUnp, sPar2, sPar3, sAug, mBin, mBinT, mUn, mCB, mTru, mAndT, mOrT, mNotT, mIf, mAndV, mOrV, mNotV, mNil, mCons, mTup, mLst, mCall, mCallK, mMeth, mMake, mFld, sSetFld, sAugFld, sSetIx, mChain, mChainT, mSl, oNone, oSome, mBM, eVar, eC, ok_bind, bad_bind, ok_st, nx_seq, rt_seq, bk_seq, ct_seq, ofO_some, List.getElem?_cons_zero, List.getElem?_cons_succ, List.set_cons_zero, List.set_cons_succ, List.length_cons, List.length_nil, List.append_nil, List.nil_append, List.cons_append, tgName, tgNil, tgCons, tgTup, setsE, List.foldl_cons, List.foldl_nil, List.map_cons, List.map_nil, tYesZ, wipeE, isNZ, PV.isN, Option.map_some, Option.bind_some, if_true, if_false, Bool.not_true, Bool.not_false, reduceIte, Bool.false_eq_true, permP, List.getD_cons_zero, List.getD_cons_succ, atI_0, atI_1, atI_2, atI_3, addZ_int, subZ_int, modZ_int, gtZ_int, ltZ_int, leZ_int, geZ_int, eqZ_int, neZ_int, intTyZ_int, truZ_bl, addI_int, maxZ_int, minZ_int, rb_bl, negZ_int, ixZ_tup, ixZ_lst, ixZ_scr, lenZ_tup, lenZ_lst, lenZ_scr, tupTyZ_lst, tupTyZ_tup, tyOk_str, Nat.reduceAdd, Nat.zero_add, lk0, lk1, lk2, lk3, lk4, lk5, lk6, lk7, lk8, lk9, lk10, lk11, lk12, and_self, and_true, true_and, Bool.and_true, Bool.true_and, Bool.and_self, Bool.or_false, Bool.false_or, cst0, cst1, cst2, cst3, cst4, cst5, cst6, cst7, cst8, cst9, cst10, cst11, cst12, sz0, sz1, sz2, sz3, sz4, sz5, sz6, sz7, sz8, sz9, sz10, sz11, sz12, is_non_int, is_non_bool, is_non_str, is_non_tuple, is_non_list, is_bl_int, is_bl_bool, is_bl_str, is_bl_tuple, is_bl_list, is_int_int, is_int_bool, is_int_str, is_int_tuple, is_int_list, is_str_int, is_str_bool, is_str_str, is_str_tuple, is_str_list, is_tup_int, is_tup_bool, is_tup_str, is_tup_tuple, is_tup_list, is_lst_int, is_lst_bool, is_lst_str, is_lst_tuple, is_lst_list], ?_⟩
        simp only [sSeq, sIf, sRet, sRetN, sSet, sSetL, sRetL, sExpr, sNil, sUnp, sPar2, sPar3, sAug, mBin, mBinT, mUn, mCB, mTru, mAndT, mOrT, mNotT, mIf, mAndV, mOrV, mNotV, mNil, mCons, mTup, mLst, mCall, mCallK, mMeth, mMake, mFld, sSetFld, sAugFld, sSetIx, mChain, mChainT, mSl, oNone, oSome, mBM, eVar, eC, ok_bind, bad_bind, ok_st, nx_seq, rt_seq, bk_seq, ct_seq, ofO_some, List.getElem?_cons_zero, List.getElem?_cons_succ, List.set_cons_zero, List.set_cons_succ, List.length_cons, List.length_nil, List.append_nil, List.nil_append, List.cons_append, tgName, tgNil, tgCons, tgTup, setsE, List.foldl_cons, List.foldl_nil, List.map_cons, List.map_nil, tYesZ, wipeE, isNZ, PV.isN, Option.map_some, Option.bind_some, if_true, if_false, Bool.not_true, Bool.not_false, reduceIte, Bool.false_eq_true, permP, List.getD_cons_zero, List.getD_cons_succ, atI_0, atI_1, atI_2, atI_3, addZ_int, subZ_int, modZ_int, gtZ_int, ltZ_int, leZ_int, geZ_int, eqZ_int, neZ_int, intTyZ_int, truZ_bl, addI_int, maxZ_int, minZ_int, rb_bl, negZ_int, ixZ_tup, ixZ_lst, ixZ_scr, lenZ_tup, lenZ_lst, lenZ_scr, tupTyZ_lst, tupTyZ_tup, tyOk_str, Nat.reduceAdd, Nat.zero_add, lk0, lk1, lk2, lk3, lk4, lk5, lk6, lk7, lk8, lk9, lk10, lk11, lk12, and_self, and_true, true_and, Bool.and_true, Bool.true_and, Bool.and_self, Bool.or_false, Bool.false_or, cst0, cst1, cst2, cst3, cst4, cst5, cst6, cst7, cst8, cst9, cst10, cst11, cst12, sz0, sz1, sz2, sz3, sz4, sz5, sz6, sz7, sz8, sz9, sz10, sz11, sz12, is_non_int, is_non_bool, is_non_str, is_non_tuple, is_non_list, is_bl_int, is_bl_bool, is_bl_str, is_bl_tuple, is_bl_list, is_int_int, is_int_bool, is_int_str, is_int_tuple, is_int_list, is_str_int, is_str_bool, is_str_str, is_str_tuple, is_str_list, is_tup_int, is_tup_bool, is_tup_str, is_tup_tuple, is_tup_list, is_lst_int, is_lst_bool, is_lst_str, is_lst_tuple, is_lst_list]
        exact ih x ph (hx x hx1)
      have e2 : allZ ph [.lst ((zipP xs xs).map fun _ => .bl true)] = some (.bl true) := allZ_true fun v hv => by
        simp only [List.mem_map] at hv
        obtain ⟨_, _, rfl⟩ := hv
        rfl
      simp only [sSeq, sIf, sRet, sRetN, sSet, sSetL, sRetL, sExpr, sNil, sUnp, sPar2, sPar3, sAug, mBin, mBinT, mUn, mCB, mTru, mAndT, mOrT, mNotT, mIf, mAndV, mOrV, mNotV, mNil, mCons, mTup, mLst, mCall, mCallK, mMeth, mMake, mFld, sSetFld, sAugFld, sSetIx, mChain, mChainT, mSl, oNone, oSome, mBM, eVar, eC, ok_bind, bad_bind, ok_st, nx_seq, rt_seq, bk_seq, ct_seq, ofO_some, List.getElem?_cons_zero, List.getElem?_cons_succ, List.set_cons_zero, List.set_cons_succ, List.length_cons, List.length_nil, List.append_nil, List.nil_append, List.cons_append, tgName, tgNil, tgCons, tgTup, setsE, List.foldl_cons, List.foldl_nil, List.map_cons, List.map_nil, tYesZ, wipeE, isNZ, PV.isN, Option.map_some, Option.bind_some, if_true, if_false, Bool.not_true, Bool.not_false, reduceIte, Bool.false_eq_true, permP, List.getD_cons_zero, List.getD_cons_succ, atI_0, atI_1, atI_2, atI_3, addZ_int, subZ_int, modZ_int, gtZ_int, ltZ_int, leZ_int, geZ_int, eqZ_int, neZ_int, intTyZ_int, truZ_bl, addI_int, maxZ_int, minZ_int, rb_bl, negZ_int, ixZ_tup, ixZ_lst, ixZ_scr, lenZ_tup, lenZ_lst, lenZ_scr, tupTyZ_lst, tupTyZ_tup, tyOk_str, Nat.reduceAdd, Nat.zero_add, lk0, lk1, lk2, lk3, lk4, lk5, lk6, lk7, lk8, lk9, lk10, lk11, lk12, and_self, and_true, true_and, Bool.and_true, Bool.true_and, Bool.and_self, Bool.or_false, Bool.false_or, cst0, cst1, cst2, cst3, cst4, cst5, cst6, cst7, cst8, cst9, cst10, cst11, cst12, sz0, sz1, sz2, sz3, sz4, sz5, sz6, sz7, sz8, sz9, sz10, sz11, sz12, is_non_int, is_non_bool, is_non_str, is_non_tuple, is_non_list, is_bl_int, is_bl_bool, is_bl_str, is_bl_tuple, is_bl_list, is_int_int, is_int_bool, is_int_str, is_int_tuple, is_int_list, is_str_int, is_str_bool, is_str_str, is_str_tuple, is_str_list, is_tup_int, is_tup_bool, is_tup_str, is_tup_tuple, is_tup_list, is_lst_int, is_lst_bool, is_lst_str, is_lst_tuple, is_lst_list, e, decide_true, e2]
/-! draws -/
def U (N l : Nat) (ph : PH) : Prop := ∃ a b c, Urn N l ph a b c
structure Stp (l : Nat) (ph ph' : PH) : Prop where
  len : ph'.length = ph.length
  ne : ∀ i, i ≠ l → ph'[i]? = ph[i]?
theorem Stp.refl {l : Nat} {ph : PH} : Stp l ph ph := ⟨rfl, fun _ _ => rfl⟩
theorem Stp.trans {l : Nat} {a b c : PH} (h : Stp l a b) (k : Stp l b c) : Stp l a c := ⟨k.len.trans h.len, fun i n => (k.ne i n).trans (h.ne i n)⟩
theorem draw {N l : Nat} {ph : PH} {m : Int} (u : U N l ph) (hN : N ≤ 10 ^ 6) (hm : 0 < m) (hm2 : m < 1000) : ∃ r ph', m_law_draw [.loc l, .int m] ph = .ok (.int r) ph' ∧ 0 ≤ r ∧ r < m ∧ U (N + 1) l ph' ∧ Stp l ph ph' := by
  obtain ⟨a, b, c, u⟩ := u
  obtain ⟨r, a', c', h1, h2, h3, h4, h5, h6⟩ := draw_a u hN hm hm2
  have hl : l < ph.length := (List.getElem?_eq_some_iff.mp u.at_).1
  exact ⟨r, _, h1, h2, h3, ⟨a', b, c', by simp [hl], h4, u.b0, u.b1, h5, by simpa using h6⟩, by simp, fun i hi => by rw [List.getElem?_set_ne (Ne.symm hi)]⟩

/-! schemes, codes -/
def intsP (ws : List Int) : PV := .tup (ws.map .int)
structure Scm (b m : Int) (ws : List Int) (r : Int) : Prop where
  b0 : 2 ≤ b
  b1 : b ≤ 10
  m0 : 2 ≤ m
  m1 : m ≤ 30
  l0 : 2 ≤ ws.length
  l1 : ws.length ≤ 6
  w : ∀ x ∈ ws, 0 ≤ x ∧ x < m
  r0 : 0 ≤ r
  r1 : r < m
def scmP (b m : Int) (ws : List Int) (r : Int) : PV := .tup [.int b, .int m, intsP ws, .int r]
theorem ints_of {vs : List PV} {m : Int} (h : ∀ v ∈ vs, ∃ i, v = .int i ∧ 0 ≤ i ∧ i < m) : ∃ ws : List Int, vs = ws.map .int ∧ ws.length = vs.length ∧ ∀ x ∈ ws, 0 ≤ x ∧ x < m := by
  induction vs with
  | nil => exact ⟨[], rfl, rfl, fun _ h => absurd h List.not_mem_nil⟩
  | cons v vs ih =>
    obtain ⟨i, rfl, h1, h2⟩ := h v List.mem_cons_self
    obtain ⟨ws, rfl, k1, k2⟩ := ih fun x hx => h x (List.mem_cons_of_mem _ hx)
    refine ⟨i :: ws, rfl, by simp, fun x hx => ?_⟩
    rcases List.mem_cons.mp hx with rfl | hx
    · exact ⟨h1, h2⟩
    · exact k2 x hx
theorem env1_5 {a : PV} : envZ 5 [a] = [some a, none, none, none, none] := rfl
theorem env1_4 {a : PV} : envZ 4 [a] = [some a, none, none, none] := rfl
theorem env1_6 {a : PV} : envZ 6 [a] = [some a, none, none, none, none, none] := rfl
theorem env1_3 {a : PV} : envZ 3 [a] = [some a, none, none] := rfl
theorem env1_2 {a : PV} : envZ 2 [a] = [some a, none] := rfl
theorem env1_1 {a : PV} : envZ 1 [a] = [some a] := rfl
theorem env2_6 {a b : PV} : envZ 6 [a, b] = [some a, some b, none, none, none, none] := rfl
theorem env3_3 {a b c : PV} : envZ 3 [a, b, c] = [some a, some b, some c] := rfl
theorem lc_U {it : ItV} {g : DGt} {e : DE} {w : ZEnv} {P : PV → Prop} {N l : Nat} {ph : PH} (hgd : it.gd = []) (u : U N l ph) (hN : N + it.items.length ≤ 10 ^ 6)
    (h : ∀ p ∈ it.items, ∀ n ph, n ≤ 10 ^ 6 → U n l ph → ∃ l' v ph', g p = some l' ∧ e (setsE w l') ph = .ok v ph' ∧ P v ∧ U (n + 1) l ph' ∧ Stp l ph ph') :
    ∃ vs ph', lcZ it g tYesZ e w it.items [] ph = .ok (.lst vs) ph' ∧ vs.length = it.items.length ∧ (∀ v ∈ vs, P v) ∧ U (N + it.items.length) l ph' ∧ Stp l ph ph' := by
  obtain ⟨vs, ph', h1, h2, h3, h4, h5⟩ := lc_inv0 (t := tYesZ) (e := e) (w := w) (g := g) (P := P) (J := fun n p => U (N + n) l p ∧ Stp l ph p) hgd ⟨u, .refl⟩ fun k p hp q ⟨j1, j2⟩ => by
    have hk := (List.getElem?_eq_some_iff.mp hp).1
    obtain ⟨l', v, p', k1, k2, k3, k4, k5⟩ := h p (List.mem_of_getElem? hp) (N + k) q (by omega) j1
    exact ⟨l', v, p', k1, rfl, k2, k3, k4, j2.trans k5⟩
  exact ⟨vs, ph', h1, h2, h3, h4, h5⟩
theorem U.mono {N M l : Nat} {ph : PH} (u : U N l ph) (h : N ≤ M) : U M l ph := by
  obtain ⟨a, b, c, u⟩ := u
  exact ⟨a, b, c, u.at_, u.a0, u.b0, u.b1, u.c0, by have := u.c1; omega⟩
theorem scheme {N l : Nat} {ph : PH} (u : U N l ph) (hN : N ≤ 10 ^ 5) : ∃ b m ws r ph', m_law_scheme [.loc l] ph = .ok (scmP b m ws r) ph' ∧ Scm b m ws r ∧ U (N + 10) l ph' ∧ Stp l ph ph' := by
  obtain ⟨r1, p1, a1, a2, a3, u1, s1⟩ := draw (m := 9) u (by omega) (by omega) (by omega)
  obtain ⟨r2, p2, b1, b2, b3, u2, s2⟩ := draw (m := 29) u1 (by omega) (by omega) (by omega)
  obtain ⟨r3, p3, c1, c2, c3, u3, s3⟩ := draw (m := 5) u2 (by omega) (by omega) (by omega)
  have hlc : ∃ vs p4, lc_law_scheme_0 [some (.loc l), none, some (.int (2 + r1)), some (.int (2 + r2)), none] p2 = .ok (.lst vs) p4 ∧ vs.length = (2 + r3).toNat ∧ (∀ v ∈ vs, ∃ i, v = .int i ∧ 0 ≤ i ∧ i < 2 + r2) ∧ U (N + 3 + vs.length) l p4 ∧ Stp l p3 p4 := by
    unfold lc_law_scheme_0
    rw [mLC_ok (it := ⟨rngI 0 (2 + r3), []⟩) (ph1 := p3) (iRange1_ok (by simp only [sSeq, sIf, sRet, sRetN, sSet, sSetL, sRetL, sExpr, sNil, sUnp, sPar2, sPar3, sAug, mBin, mBinT, mUn, mCB, mTru, mAndT, mOrT, mNotT, mIf, mAndV, mOrV, mNotV, mNil, mCons, mTup, mLst, mCall, mCallK, mMeth, mMake, mFld, sSetFld, sAugFld, sSetIx, mChain, mChainT, mSl, oNone, oSome, mBM, eVar, eC, ok_bind, bad_bind, ok_st, nx_seq, rt_seq, bk_seq, ct_seq, ofO_some, List.getElem?_cons_zero, List.getElem?_cons_succ, List.set_cons_zero, List.set_cons_succ, List.length_cons, List.length_nil, List.append_nil, List.nil_append, List.cons_append, tgName, tgNil, tgCons, tgTup, setsE, List.foldl_cons, List.foldl_nil, List.map_cons, List.map_nil, tYesZ, wipeE, isNZ, PV.isN, Option.map_some, Option.bind_some, if_true, if_false, Bool.not_true, Bool.not_false, reduceIte, Bool.false_eq_true, permP, List.getD_cons_zero, List.getD_cons_succ, atI_0, atI_1, atI_2, atI_3, addZ_int, subZ_int, modZ_int, gtZ_int, ltZ_int, leZ_int, geZ_int, eqZ_int, neZ_int, intTyZ_int, truZ_bl, addI_int, maxZ_int, minZ_int, rb_bl, negZ_int, ixZ_tup, ixZ_lst, ixZ_scr, lenZ_tup, lenZ_lst, lenZ_scr, tupTyZ_lst, tupTyZ_tup, tyOk_str, Nat.reduceAdd, Nat.zero_add, lk0, lk1, lk2, lk3, lk4, lk5, lk6, lk7, lk8, lk9, lk10, lk11, lk12, and_self, and_true, true_and, Bool.and_true, Bool.true_and, Bool.and_self, Bool.or_false, Bool.false_or, cst0, cst1, cst2, cst3, cst4, cst5, cst6, cst7, cst8, cst9, cst10, cst11, cst12, sz0, sz1, sz2, sz3, sz4, sz5, sz6, sz7, sz8, sz9, sz10, sz11, sz12, is_non_int, is_non_bool, is_non_str, is_non_tuple, is_non_list, is_bl_int, is_bl_bool, is_bl_str, is_bl_tuple, is_bl_list, is_int_int, is_int_bool, is_int_str, is_int_tuple, is_int_list, is_str_int, is_str_bool, is_str_str, is_str_tuple, is_str_list, is_tup_int, is_tup_bool, is_tup_str, is_tup_tuple, is_tup_list, is_lst_int, is_lst_bool, is_lst_str, is_lst_tuple, is_lst_list, c1]) (by omega) (by omega)) (by rw [rngI_len]; omega)]
    obtain ⟨vs, p4, h1, h2, h3, h4, h5⟩ := lc_U (it := ⟨rngI 0 (2 + r3), []⟩) (g := tgName 4) (e := mCall 2 (m_law_draw) [] (mCons (eVar 0) (mCons (eVar 3) (mNil)))) (w := wipeE [some (.loc l), none, some (.int (2 + r1)), some (.int (2 + r2)), none] [4]) (P := fun v => ∃ i, v = .int i ∧ 0 ≤ i ∧ i < 2 + r2) rfl u3 (by rw [rngI_len]; omega) fun p _ n q hn uq => by
      obtain ⟨r, q', d1, d2, d3, d4, d5⟩ := draw (m := 2 + r2) uq hn (by omega) (by omega)
      exact ⟨[(4, p)], .int r, q', rfl, by simp only [sSeq, sIf, sRet, sRetN, sSet, sSetL, sRetL, sExpr, sNil, sUnp, sPar2, sPar3, sAug, mBin, mBinT, mUn, mCB, mTru, mAndT, mOrT, mNotT, mIf, mAndV, mOrV, mNotV, mNil, mCons, mTup, mLst, mCall, mCallK, mMeth, mMake, mFld, sSetFld, sAugFld, sSetIx, mChain, mChainT, mSl, oNone, oSome, mBM, eVar, eC, ok_bind, bad_bind, ok_st, nx_seq, rt_seq, bk_seq, ct_seq, ofO_some, List.getElem?_cons_zero, List.getElem?_cons_succ, List.set_cons_zero, List.set_cons_succ, List.length_cons, List.length_nil, List.append_nil, List.nil_append, List.cons_append, tgName, tgNil, tgCons, tgTup, setsE, List.foldl_cons, List.foldl_nil, List.map_cons, List.map_nil, tYesZ, wipeE, isNZ, PV.isN, Option.map_some, Option.bind_some, if_true, if_false, Bool.not_true, Bool.not_false, reduceIte, Bool.false_eq_true, permP, List.getD_cons_zero, List.getD_cons_succ, atI_0, atI_1, atI_2, atI_3, addZ_int, subZ_int, modZ_int, gtZ_int, ltZ_int, leZ_int, geZ_int, eqZ_int, neZ_int, intTyZ_int, truZ_bl, addI_int, maxZ_int, minZ_int, rb_bl, negZ_int, ixZ_tup, ixZ_lst, ixZ_scr, lenZ_tup, lenZ_lst, lenZ_scr, tupTyZ_lst, tupTyZ_tup, tyOk_str, Nat.reduceAdd, Nat.zero_add, lk0, lk1, lk2, lk3, lk4, lk5, lk6, lk7, lk8, lk9, lk10, lk11, lk12, and_self, and_true, true_and, Bool.and_true, Bool.true_and, Bool.and_self, Bool.or_false, Bool.false_or, cst0, cst1, cst2, cst3, cst4, cst5, cst6, cst7, cst8, cst9, cst10, cst11, cst12, sz0, sz1, sz2, sz3, sz4, sz5, sz6, sz7, sz8, sz9, sz10, sz11, sz12, is_non_int, is_non_bool, is_non_str, is_non_tuple, is_non_list, is_bl_int, is_bl_bool, is_bl_str, is_bl_tuple, is_bl_list, is_int_int, is_int_bool, is_int_str, is_int_tuple, is_int_list, is_str_int, is_str_bool, is_str_str, is_str_tuple, is_str_list, is_tup_int, is_tup_bool, is_tup_str, is_tup_tuple, is_tup_list, is_lst_int, is_lst_bool, is_lst_str, is_lst_tuple, is_lst_list, d1], ⟨r, rfl, d2, d3⟩, d4, d5⟩
    simp only [rngI_len] at h2 h4
    exact ⟨vs, p4, h1, h2, h3, by rw [h2]; exact h4, h5⟩
  obtain ⟨vs, p4, e1, e2, e3, u4, s4⟩ := hlc
  obtain ⟨ws, rfl, w1, w2⟩ := ints_of e3
  have hl : ws.length = (2 + r3).toNat := by rw [w1, e2]
  obtain ⟨r5, p5, f1, f2, f3, u5, s5⟩ := draw (m := 2 + r2) u4 (by simp only [List.length_map]; omega) (by omega) (by omega)
  have st := ((((s1.trans s2).trans s3).trans s4).trans s5)
  refine ⟨2 + r1, 2 + r2, ws, r5, p5, ?_, ⟨by omega, by omega, by omega, by omega, by omega, by omega, w2, f2, f3⟩, u5.mono (by simp only [List.length_map]; omega), st⟩
  unfold m_law_scheme
  refine dFn_rtS ?_ st.len
  rw [env1_5]
  unfold b_law_scheme
  simp only [sSeq, sIf, sRet, sRetN, sSet, sSetL, sRetL, sExpr, sNil, sUnp, sPar2, sPar3, sAug, mBin, mBinT, mUn, mCB, mTru, mAndT, mOrT, mNotT, mIf, mAndV, mOrV, mNotV, mNil, mCons, mTup, mLst, mCall, mCallK, mMeth, mMake, mFld, sSetFld, sAugFld, sSetIx, mChain, mChainT, mSl, oNone, oSome, mBM, eVar, eC, ok_bind, bad_bind, ok_st, nx_seq, rt_seq, bk_seq, ct_seq, ofO_some, List.getElem?_cons_zero, List.getElem?_cons_succ, List.set_cons_zero, List.set_cons_succ, List.length_cons, List.length_nil, List.append_nil, List.nil_append, List.cons_append, tgName, tgNil, tgCons, tgTup, setsE, List.foldl_cons, List.foldl_nil, List.map_cons, List.map_nil, tYesZ, wipeE, isNZ, PV.isN, Option.map_some, Option.bind_some, if_true, if_false, Bool.not_true, Bool.not_false, reduceIte, Bool.false_eq_true, permP, List.getD_cons_zero, List.getD_cons_succ, atI_0, atI_1, atI_2, atI_3, addZ_int, subZ_int, modZ_int, gtZ_int, ltZ_int, leZ_int, geZ_int, eqZ_int, neZ_int, intTyZ_int, truZ_bl, addI_int, maxZ_int, minZ_int, rb_bl, negZ_int, ixZ_tup, ixZ_lst, ixZ_scr, lenZ_tup, lenZ_lst, lenZ_scr, tupTyZ_lst, tupTyZ_tup, tyOk_str, Nat.reduceAdd, Nat.zero_add, lk0, lk1, lk2, lk3, lk4, lk5, lk6, lk7, lk8, lk9, lk10, lk11, lk12, and_self, and_true, true_and, Bool.and_true, Bool.true_and, Bool.and_self, Bool.or_false, Bool.false_or, cst0, cst1, cst2, cst3, cst4, cst5, cst6, cst7, cst8, cst9, cst10, cst11, cst12, sz0, sz1, sz2, sz3, sz4, sz5, sz6, sz7, sz8, sz9, sz10, sz11, sz12, is_non_int, is_non_bool, is_non_str, is_non_tuple, is_non_list, is_bl_int, is_bl_bool, is_bl_str, is_bl_tuple, is_bl_list, is_int_int, is_int_bool, is_int_str, is_int_tuple, is_int_list, is_str_int, is_str_bool, is_str_str, is_str_tuple, is_str_list, is_tup_int, is_tup_bool, is_tup_str, is_tup_tuple, is_tup_list, is_lst_int, is_lst_bool, is_lst_str, is_lst_tuple, is_lst_list, a1, b1, e1, f1]
  rfl

theorem is_integer_ok {i lo hi : Int} {ph : PH} : m_is_integer [.int i, .int lo, .int hi] ph = .ok (.bl (decide (lo ≤ i) && decide (i ≤ hi))) ph := by
  unfold m_is_integer
  refine dFn_rt ?_
  rw [env3_3]
  unfold b_is_integer
  by_cases h : lo ≤ i
  · simp only [sSeq, sIf, sRet, sRetN, sSet, sSetL, sRetL, sExpr, sNil, sUnp, sPar2, sPar3, sAug, mBin, mBinT, mUn, mCB, mTru, mAndT, mOrT, mNotT, mIf, mAndV, mOrV, mNotV, mNil, mCons, mTup, mLst, mCall, mCallK, mMeth, mMake, mFld, sSetFld, sAugFld, sSetIx, mChain, mChainT, mSl, oNone, oSome, mBM, eVar, eC, ok_bind, bad_bind, ok_st, nx_seq, rt_seq, bk_seq, ct_seq, ofO_some, List.getElem?_cons_zero, List.getElem?_cons_succ, List.set_cons_zero, List.set_cons_succ, List.length_cons, List.length_nil, List.append_nil, List.nil_append, List.cons_append, tgName, tgNil, tgCons, tgTup, setsE, List.foldl_cons, List.foldl_nil, List.map_cons, List.map_nil, tYesZ, wipeE, isNZ, PV.isN, Option.map_some, Option.bind_some, if_true, if_false, Bool.not_true, Bool.not_false, reduceIte, Bool.false_eq_true, permP, List.getD_cons_zero, List.getD_cons_succ, atI_0, atI_1, atI_2, atI_3, addZ_int, subZ_int, modZ_int, gtZ_int, ltZ_int, leZ_int, geZ_int, eqZ_int, neZ_int, intTyZ_int, truZ_bl, addI_int, maxZ_int, minZ_int, rb_bl, negZ_int, ixZ_tup, ixZ_lst, ixZ_scr, lenZ_tup, lenZ_lst, lenZ_scr, tupTyZ_lst, tupTyZ_tup, tyOk_str, Nat.reduceAdd, Nat.zero_add, lk0, lk1, lk2, lk3, lk4, lk5, lk6, lk7, lk8, lk9, lk10, lk11, lk12, and_self, and_true, true_and, Bool.and_true, Bool.true_and, Bool.and_self, Bool.or_false, Bool.false_or, cst0, cst1, cst2, cst3, cst4, cst5, cst6, cst7, cst8, cst9, cst10, cst11, cst12, sz0, sz1, sz2, sz3, sz4, sz5, sz6, sz7, sz8, sz9, sz10, sz11, sz12, is_non_int, is_non_bool, is_non_str, is_non_tuple, is_non_list, is_bl_int, is_bl_bool, is_bl_str, is_bl_tuple, is_bl_list, is_int_int, is_int_bool, is_int_str, is_int_tuple, is_int_list, is_str_int, is_str_bool, is_str_str, is_str_tuple, is_str_list, is_tup_int, is_tup_bool, is_tup_str, is_tup_tuple, is_tup_list, is_lst_int, is_lst_bool, is_lst_str, is_lst_tuple, is_lst_list, h, decide_true, Bool.true_and]
  · simp only [sSeq, sIf, sRet, sRetN, sSet, sSetL, sRetL, sExpr, sNil, sUnp, sPar2, sPar3, sAug, mBin, mBinT, mUn, mCB, mTru, mAndT, mOrT, mNotT, mIf, mAndV, mOrV, mNotV, mNil, mCons, mTup, mLst, mCall, mCallK, mMeth, mMake, mFld, sSetFld, sAugFld, sSetIx, mChain, mChainT, mSl, oNone, oSome, mBM, eVar, eC, ok_bind, bad_bind, ok_st, nx_seq, rt_seq, bk_seq, ct_seq, ofO_some, List.getElem?_cons_zero, List.getElem?_cons_succ, List.set_cons_zero, List.set_cons_succ, List.length_cons, List.length_nil, List.append_nil, List.nil_append, List.cons_append, tgName, tgNil, tgCons, tgTup, setsE, List.foldl_cons, List.foldl_nil, List.map_cons, List.map_nil, tYesZ, wipeE, isNZ, PV.isN, Option.map_some, Option.bind_some, if_true, if_false, Bool.not_true, Bool.not_false, reduceIte, Bool.false_eq_true, permP, List.getD_cons_zero, List.getD_cons_succ, atI_0, atI_1, atI_2, atI_3, addZ_int, subZ_int, modZ_int, gtZ_int, ltZ_int, leZ_int, geZ_int, eqZ_int, neZ_int, intTyZ_int, truZ_bl, addI_int, maxZ_int, minZ_int, rb_bl, negZ_int, ixZ_tup, ixZ_lst, ixZ_scr, lenZ_tup, lenZ_lst, lenZ_scr, tupTyZ_lst, tupTyZ_tup, tyOk_str, Nat.reduceAdd, Nat.zero_add, lk0, lk1, lk2, lk3, lk4, lk5, lk6, lk7, lk8, lk9, lk10, lk11, lk12, and_self, and_true, true_and, Bool.and_true, Bool.true_and, Bool.and_self, Bool.or_false, Bool.false_or, cst0, cst1, cst2, cst3, cst4, cst5, cst6, cst7, cst8, cst9, cst10, cst11, cst12, sz0, sz1, sz2, sz3, sz4, sz5, sz6, sz7, sz8, sz9, sz10, sz11, sz12, is_non_int, is_non_bool, is_non_str, is_non_tuple, is_non_list, is_bl_int, is_bl_bool, is_bl_str, is_bl_tuple, is_bl_list, is_int_int, is_int_bool, is_int_str, is_int_tuple, is_int_list, is_str_int, is_str_bool, is_str_str, is_str_tuple, is_str_list, is_tup_int, is_tup_bool, is_tup_str, is_tup_tuple, is_tup_list, is_lst_int, is_lst_bool, is_lst_str, is_lst_tuple, is_lst_list, h, decide_false, Bool.false_and]
theorem is_scheme_ok {b m r : Int} {ws : List Int} {ph : PH} (s : Scm b m ws r) : m_is_scheme [scmP b m ws r] ph = .ok (.bl true) ph := by
  have hb := s.b0; have hb1 := s.b1; have hm := s.m0; have hm1 := s.m1; have hl := s.l0; have hl1 := s.l1; have hr := s.r0; have hr1 := s.r1
  have h1 : decide (2 ≤ b) = true := decide_eq_true hb
  have h2 : decide (b ≤ 10) = true := decide_eq_true hb1
  have h3 : decide (2 ≤ m) = true := decide_eq_true hm
  have h4 : decide (m ≤ 30) = true := decide_eq_true hm1
  have h5 : decide ((2 : Int) ≤ ws.length) = true := decide_eq_true (by omega)
  have h6 : decide ((ws.length : Int) ≤ 6) = true := decide_eq_true (by omega)
  have h7 : decide (0 ≤ r) = true := decide_eq_true hr
  have h8 : decide (r ≤ m - 1) = true := decide_eq_true (by omega)
  unfold m_is_scheme
  refine dFn_rt ?_
  rw [env1_6]
  have e : lc_is_scheme_0 [some (scmP b m ws r), some (.int b), some (.int m), some (intsP ws), some (.int r), none] ph = .ok (.lst ((ws.map PV.int).map fun _ => .bl true)) ph := by
    unfold lc_is_scheme_0
    rw [mLC_ok (it := ⟨ws.map .int, []⟩) (ph1 := ph) (iSeq_tup (by simp only [sSeq, sIf, sRet, sRetN, sSet, sSetL, sRetL, sExpr, sNil, sUnp, sPar2, sPar3, sAug, mBin, mBinT, mUn, mCB, mTru, mAndT, mOrT, mNotT, mIf, mAndV, mOrV, mNotV, mNil, mCons, mTup, mLst, mCall, mCallK, mMeth, mMake, mFld, sSetFld, sAugFld, sSetIx, mChain, mChainT, mSl, oNone, oSome, mBM, eVar, eC, ok_bind, bad_bind, ok_st, nx_seq, rt_seq, bk_seq, ct_seq, ofO_some, List.getElem?_cons_zero, List.getElem?_cons_succ, List.set_cons_zero, List.set_cons_succ, List.length_cons, List.length_nil, List.append_nil, List.nil_append, List.cons_append, tgName, tgNil, tgCons, tgTup, setsE, List.foldl_cons, List.foldl_nil, List.map_cons, List.map_nil, tYesZ, wipeE, isNZ, PV.isN, Option.map_some, Option.bind_some, if_true, if_false, Bool.not_true, Bool.not_false, reduceIte, Bool.false_eq_true, permP, List.getD_cons_zero, List.getD_cons_succ, atI_0, atI_1, atI_2, atI_3, addZ_int, subZ_int, modZ_int, gtZ_int, ltZ_int, leZ_int, geZ_int, eqZ_int, neZ_int, intTyZ_int, truZ_bl, addI_int, maxZ_int, minZ_int, rb_bl, negZ_int, ixZ_tup, ixZ_lst, ixZ_scr, lenZ_tup, lenZ_lst, lenZ_scr, tupTyZ_lst, tupTyZ_tup, tyOk_str, Nat.reduceAdd, Nat.zero_add, lk0, lk1, lk2, lk3, lk4, lk5, lk6, lk7, lk8, lk9, lk10, lk11, lk12, and_self, and_true, true_and, Bool.and_true, Bool.true_and, Bool.and_self, Bool.or_false, Bool.false_or, cst0, cst1, cst2, cst3, cst4, cst5, cst6, cst7, cst8, cst9, cst10, cst11, cst12, sz0, sz1, sz2, sz3, sz4, sz5, sz6, sz7, sz8, sz9, sz10, sz11, sz12, is_non_int, is_non_bool, is_non_str, is_non_tuple, is_non_list, is_bl_int, is_bl_bool, is_bl_str, is_bl_tuple, is_bl_list, is_int_int, is_int_bool, is_int_str, is_int_tuple, is_int_list, is_str_int, is_str_bool, is_str_str, is_str_tuple, is_str_list, is_tup_int, is_tup_bool, is_tup_str, is_tup_tuple, is_tup_list, is_lst_int, is_lst_bool, is_lst_str, is_lst_tuple, is_lst_list]; rfl)) (by simp; omega)]
    refine lc_map0 chk0 fun p hp => ?_
    obtain ⟨x, hx, rfl⟩ := List.mem_map.mp hp
    obtain ⟨x0, x1⟩ := s.w x hx
    refine ⟨[(5, .int x)], rfl, ?_⟩
    simp only [sSeq, sIf, sRet, sRetN, sSet, sSetL, sRetL, sExpr, sNil, sUnp, sPar2, sPar3, sAug, mBin, mBinT, mUn, mCB, mTru, mAndT, mOrT, mNotT, mIf, mAndV, mOrV, mNotV, mNil, mCons, mTup, mLst, mCall, mCallK, mMeth, mMake, mFld, sSetFld, sAugFld, sSetIx, mChain, mChainT, mSl, oNone, oSome, mBM, eVar, eC, ok_bind, bad_bind, ok_st, nx_seq, rt_seq, bk_seq, ct_seq, ofO_some, List.getElem?_cons_zero, List.getElem?_cons_succ, List.set_cons_zero, List.set_cons_succ, List.length_cons, List.length_nil, List.append_nil, List.nil_append, List.cons_append, tgName, tgNil, tgCons, tgTup, setsE, List.foldl_cons, List.foldl_nil, List.map_cons, List.map_nil, tYesZ, wipeE, isNZ, PV.isN, Option.map_some, Option.bind_some, if_true, if_false, Bool.not_true, Bool.not_false, reduceIte, Bool.false_eq_true, permP, List.getD_cons_zero, List.getD_cons_succ, atI_0, atI_1, atI_2, atI_3, addZ_int, subZ_int, modZ_int, gtZ_int, ltZ_int, leZ_int, geZ_int, eqZ_int, neZ_int, intTyZ_int, truZ_bl, addI_int, maxZ_int, minZ_int, rb_bl, negZ_int, ixZ_tup, ixZ_lst, ixZ_scr, lenZ_tup, lenZ_lst, lenZ_scr, tupTyZ_lst, tupTyZ_tup, tyOk_str, Nat.reduceAdd, Nat.zero_add, lk0, lk1, lk2, lk3, lk4, lk5, lk6, lk7, lk8, lk9, lk10, lk11, lk12, and_self, and_true, true_and, Bool.and_true, Bool.true_and, Bool.and_self, Bool.or_false, Bool.false_or, cst0, cst1, cst2, cst3, cst4, cst5, cst6, cst7, cst8, cst9, cst10, cst11, cst12, sz0, sz1, sz2, sz3, sz4, sz5, sz6, sz7, sz8, sz9, sz10, sz11, sz12, is_non_int, is_non_bool, is_non_str, is_non_tuple, is_non_list, is_bl_int, is_bl_bool, is_bl_str, is_bl_tuple, is_bl_list, is_int_int, is_int_bool, is_int_str, is_int_tuple, is_int_list, is_str_int, is_str_bool, is_str_str, is_str_tuple, is_str_list, is_tup_int, is_tup_bool, is_tup_str, is_tup_tuple, is_tup_list, is_lst_int, is_lst_bool, is_lst_str, is_lst_tuple, is_lst_list, is_integer_ok, x0, decide_true, show x ≤ m - 1 from by omega, Bool.true_and]
  have e2 : allZ ph [.lst ((ws.map PV.int).map fun _ => .bl true)] = some (.bl true) := allZ_true fun v hv => by
    obtain ⟨_, _, rfl⟩ := List.mem_map.mp hv
    rfl
  unfold b_is_scheme
  unfold scmP intsP at *
  simp only [sSeq, sIf, sRet, sRetN, sSet, sSetL, sRetL, sExpr, sNil, sUnp, sPar2, sPar3, sAug, mBin, mBinT, mUn, mCB, mTru, mAndT, mOrT, mNotT, mIf, mAndV, mOrV, mNotV, mNil, mCons, mTup, mLst, mCall, mCallK, mMeth, mMake, mFld, sSetFld, sAugFld, sSetIx, mChain, mChainT, mSl, oNone, oSome, mBM, eVar, eC, ok_bind, bad_bind, ok_st, nx_seq, rt_seq, bk_seq, ct_seq, ofO_some, List.getElem?_cons_zero, List.getElem?_cons_succ, List.set_cons_zero, List.set_cons_succ, List.length_cons, List.length_nil, List.append_nil, List.nil_append, List.cons_append, tgName, tgNil, tgCons, tgTup, setsE, List.foldl_cons, List.foldl_nil, List.map_cons, List.map_nil, tYesZ, wipeE, isNZ, PV.isN, Option.map_some, Option.bind_some, if_true, if_false, Bool.not_true, Bool.not_false, reduceIte, Bool.false_eq_true, permP, List.getD_cons_zero, List.getD_cons_succ, atI_0, atI_1, atI_2, atI_3, addZ_int, subZ_int, modZ_int, gtZ_int, ltZ_int, leZ_int, geZ_int, eqZ_int, neZ_int, intTyZ_int, truZ_bl, addI_int, maxZ_int, minZ_int, rb_bl, negZ_int, ixZ_tup, ixZ_lst, ixZ_scr, lenZ_tup, lenZ_lst, lenZ_scr, tupTyZ_lst, tupTyZ_tup, tyOk_str, Nat.reduceAdd, Nat.zero_add, lk0, lk1, lk2, lk3, lk4, lk5, lk6, lk7, lk8, lk9, lk10, lk11, lk12, and_self, and_true, true_and, Bool.and_true, Bool.true_and, Bool.and_self, Bool.or_false, Bool.false_or, cst0, cst1, cst2, cst3, cst4, cst5, cst6, cst7, cst8, cst9, cst10, cst11, cst12, sz0, sz1, sz2, sz3, sz4, sz5, sz6, sz7, sz8, sz9, sz10, sz11, sz12, is_non_int, is_non_bool, is_non_str, is_non_tuple, is_non_list, is_bl_int, is_bl_bool, is_bl_str, is_bl_tuple, is_bl_list, is_int_int, is_int_bool, is_int_str, is_int_tuple, is_int_list, is_str_int, is_str_bool, is_str_str, is_str_tuple, is_str_list, is_tup_int, is_tup_bool, is_tup_str, is_tup_tuple, is_tup_list, is_lst_int, is_lst_bool, is_lst_str, is_lst_tuple, is_lst_list, is_integer_ok, h1, h2, h3, h4, h7, h8, Bool.and_self, List.length_map, h5, h6, e, e2, decide_true]
/-! codes -/
def digs (ds : List Int) : List Nat := ds.map fun d => 48 + d.toNat
theorem mem_digs {ds : List Int} {b : Int} (h : ∀ d ∈ ds, 0 ≤ d ∧ d < b) (hb : b ≤ 10) : ∀ c ∈ digs ds, 48 ≤ c ∧ c < 58 := fun c hc => by
  obtain ⟨d, hd, rfl⟩ := List.mem_map.mp hc
  have := h d hd
  omega
theorem show_code_ok {ds : List Int} {b : Int} {ph : PH} (h : ∀ d ∈ ds, 0 ≤ d ∧ d < b) (hb : b ≤ 10) (hl : ds.length ≤ 1000) : m_show_code [intsP ds] ph = .ok (.str (S (digs ds))) ph := by
  unfold m_show_code
  refine dFn_rt ?_
  rw [env1_2]
  have e : lc_show_code_0 [some (intsP ds), none] ph = .ok (.lst (ds.map fun d => .str (S [48 + d.toNat]))) ph := by
    unfold lc_show_code_0
    rw [mLC_ok (it := ⟨ds.map .int, []⟩) (ph1 := ph) (iSeq_tup (by simp only [sSeq, sIf, sRet, sRetN, sSet, sSetL, sRetL, sExpr, sNil, sUnp, sPar2, sPar3, sAug, mBin, mBinT, mUn, mCB, mTru, mAndT, mOrT, mNotT, mIf, mAndV, mOrV, mNotV, mNil, mCons, mTup, mLst, mCall, mCallK, mMeth, mMake, mFld, sSetFld, sAugFld, sSetIx, mChain, mChainT, mSl, oNone, oSome, mBM, eVar, eC, ok_bind, bad_bind, ok_st, nx_seq, rt_seq, bk_seq, ct_seq, ofO_some, List.getElem?_cons_zero, List.getElem?_cons_succ, List.set_cons_zero, List.set_cons_succ, List.length_cons, List.length_nil, List.append_nil, List.nil_append, List.cons_append, tgName, tgNil, tgCons, tgTup, setsE, List.foldl_cons, List.foldl_nil, List.map_cons, List.map_nil, tYesZ, wipeE, isNZ, PV.isN, Option.map_some, Option.bind_some, if_true, if_false, Bool.not_true, Bool.not_false, reduceIte, Bool.false_eq_true, permP, List.getD_cons_zero, List.getD_cons_succ, atI_0, atI_1, atI_2, atI_3, addZ_int, subZ_int, modZ_int, gtZ_int, ltZ_int, leZ_int, geZ_int, eqZ_int, neZ_int, intTyZ_int, truZ_bl, addI_int, maxZ_int, minZ_int, rb_bl, negZ_int, ixZ_tup, ixZ_lst, ixZ_scr, lenZ_tup, lenZ_lst, lenZ_scr, tupTyZ_lst, tupTyZ_tup, tyOk_str, Nat.reduceAdd, Nat.zero_add, lk0, lk1, lk2, lk3, lk4, lk5, lk6, lk7, lk8, lk9, lk10, lk11, lk12, and_self, and_true, true_and, Bool.and_true, Bool.true_and, Bool.and_self, Bool.or_false, Bool.false_or, cst0, cst1, cst2, cst3, cst4, cst5, cst6, cst7, cst8, cst9, cst10, cst11, cst12, sz0, sz1, sz2, sz3, sz4, sz5, sz6, sz7, sz8, sz9, sz10, sz11, sz12, is_non_int, is_non_bool, is_non_str, is_non_tuple, is_non_list, is_bl_int, is_bl_bool, is_bl_str, is_bl_tuple, is_bl_list, is_int_int, is_int_bool, is_int_str, is_int_tuple, is_int_list, is_str_int, is_str_bool, is_str_str, is_str_tuple, is_str_list, is_tup_int, is_tup_bool, is_tup_str, is_tup_tuple, is_tup_list, is_lst_int, is_lst_bool, is_lst_str, is_lst_tuple, is_lst_list]; rfl)) (by simp; omega)]
    rw [lc_map0 (f := fun p => match p with | .int d => .str (S [48 + d.toNat]) | p => p) chk0 fun p hp => ?_]
    · simp only [List.map_map]; rfl
    · obtain ⟨x, hx, rfl⟩ := List.mem_map.mp hp
      obtain ⟨x0, x1⟩ := h x hx
      refine ⟨[(1, .int x)], rfl, ?_⟩
      simp only [sSeq, sIf, sRet, sRetN, sSet, sSetL, sRetL, sExpr, sNil, sUnp, sPar2, sPar3, sAug, mBin, mBinT, mUn, mCB, mTru, mAndT, mOrT, mNotT, mIf, mAndV, mOrV, mNotV, mNil, mCons, mTup, mLst, mCall, mCallK, mMeth, mMake, mFld, sSetFld, sAugFld, sSetIx, mChain, mChainT, mSl, oNone, oSome, mBM, eVar, eC, ok_bind, bad_bind, ok_st, nx_seq, rt_seq, bk_seq, ct_seq, ofO_some, List.getElem?_cons_zero, List.getElem?_cons_succ, List.set_cons_zero, List.set_cons_succ, List.length_cons, List.length_nil, List.append_nil, List.nil_append, List.cons_append, tgName, tgNil, tgCons, tgTup, setsE, List.foldl_cons, List.foldl_nil, List.map_cons, List.map_nil, tYesZ, wipeE, isNZ, PV.isN, Option.map_some, Option.bind_some, if_true, if_false, Bool.not_true, Bool.not_false, reduceIte, Bool.false_eq_true, permP, List.getD_cons_zero, List.getD_cons_succ, atI_0, atI_1, atI_2, atI_3, addZ_int, subZ_int, modZ_int, gtZ_int, ltZ_int, leZ_int, geZ_int, eqZ_int, neZ_int, intTyZ_int, truZ_bl, addI_int, maxZ_int, minZ_int, rb_bl, negZ_int, ixZ_tup, ixZ_lst, ixZ_scr, lenZ_tup, lenZ_lst, lenZ_scr, tupTyZ_lst, tupTyZ_tup, tyOk_str, Nat.reduceAdd, Nat.zero_add, lk0, lk1, lk2, lk3, lk4, lk5, lk6, lk7, lk8, lk9, lk10, lk11, lk12, and_self, and_true, true_and, Bool.and_true, Bool.true_and, Bool.and_self, Bool.or_false, Bool.false_or, cst0, cst1, cst2, cst3, cst4, cst5, cst6, cst7, cst8, cst9, cst10, cst11, cst12, sz0, sz1, sz2, sz3, sz4, sz5, sz6, sz7, sz8, sz9, sz10, sz11, sz12, is_non_int, is_non_bool, is_non_str, is_non_tuple, is_non_list, is_bl_int, is_bl_bool, is_bl_str, is_bl_tuple, is_bl_list, is_int_int, is_int_bool, is_int_str, is_int_tuple, is_int_list, is_str_int, is_str_bool, is_str_str, is_str_tuple, is_str_list, is_tup_int, is_tup_bool, is_tup_str, is_tup_tuple, is_tup_list, is_lst_int, is_lst_bool, is_lst_str, is_lst_tuple, is_lst_list, strTyZ_dig x0 (show x < 10 by omega)]
  have e2 : joinZ ph (.str (S [])) [.lst (ds.map fun d => .str (S [48 + d.toNat]))] = some (.str (S (digs ds)), ph) := by
    refine joinZ_signs (cs := digs ds) ?_ (by simp [digs]; omega)
    simp only [digs, List.map_map]; rfl
  unfold b_show_code
  simp only [lit_0, lit_1, lit_2, lit_3, lit_4, lit_5, lit_6, lit_7, lit_8, lit_9, lit_10, lit_11, lit_12, lit_13, lit_14, lit_15]
  simp only [sSeq, sIf, sRet, sRetN, sSet, sSetL, sRetL, sExpr, sNil, sUnp, sPar2, sPar3, sAug, mBin, mBinT, mUn, mCB, mTru, mAndT, mOrT, mNotT, mIf, mAndV, mOrV, mNotV, mNil, mCons, mTup, mLst, mCall, mCallK, mMeth, mMake, mFld, sSetFld, sAugFld, sSetIx, mChain, mChainT, mSl, oNone, oSome, mBM, eVar, eC, ok_bind, bad_bind, ok_st, nx_seq, rt_seq, bk_seq, ct_seq, ofO_some, List.getElem?_cons_zero, List.getElem?_cons_succ, List.set_cons_zero, List.set_cons_succ, List.length_cons, List.length_nil, List.append_nil, List.nil_append, List.cons_append, tgName, tgNil, tgCons, tgTup, setsE, List.foldl_cons, List.foldl_nil, List.map_cons, List.map_nil, tYesZ, wipeE, isNZ, PV.isN, Option.map_some, Option.bind_some, if_true, if_false, Bool.not_true, Bool.not_false, reduceIte, Bool.false_eq_true, permP, List.getD_cons_zero, List.getD_cons_succ, atI_0, atI_1, atI_2, atI_3, addZ_int, subZ_int, modZ_int, gtZ_int, ltZ_int, leZ_int, geZ_int, eqZ_int, neZ_int, intTyZ_int, truZ_bl, addI_int, maxZ_int, minZ_int, rb_bl, negZ_int, ixZ_tup, ixZ_lst, ixZ_scr, lenZ_tup, lenZ_lst, lenZ_scr, tupTyZ_lst, tupTyZ_tup, tyOk_str, Nat.reduceAdd, Nat.zero_add, lk0, lk1, lk2, lk3, lk4, lk5, lk6, lk7, lk8, lk9, lk10, lk11, lk12, and_self, and_true, true_and, Bool.and_true, Bool.true_and, Bool.and_self, Bool.or_false, Bool.false_or, cst0, cst1, cst2, cst3, cst4, cst5, cst6, cst7, cst8, cst9, cst10, cst11, cst12, sz0, sz1, sz2, sz3, sz4, sz5, sz6, sz7, sz8, sz9, sz10, sz11, sz12, is_non_int, is_non_bool, is_non_str, is_non_tuple, is_non_list, is_bl_int, is_bl_bool, is_bl_str, is_bl_tuple, is_bl_list, is_int_int, is_int_bool, is_int_str, is_int_tuple, is_int_list, is_str_int, is_str_bool, is_str_str, is_str_tuple, is_str_list, is_tup_int, is_tup_bool, is_tup_str, is_tup_tuple, is_tup_list, is_lst_int, is_lst_bool, is_lst_str, is_lst_tuple, is_lst_list, e, tyOk, decide_true, beq_self_eq_true, e2]

theorem need_scheme_ok {b m r : Int} {ws : List Int} {ph : PH} (s : Scm b m ws r) : m_need_scheme [scmP b m ws r] ph = .ok .non ph := by
  unfold m_need_scheme
  refine dFn_nx (e := [some (scmP b m ws r)]) ?_
  rw [env1_1]
  unfold b_need_scheme
  simp only [sSeq, sIf, sRet, sRetN, sSet, sSetL, sRetL, sExpr, sNil, sUnp, sPar2, sPar3, sAug, mBin, mBinT, mUn, mCB, mTru, mAndT, mOrT, mNotT, mIf, mAndV, mOrV, mNotV, mNil, mCons, mTup, mLst, mCall, mCallK, mMeth, mMake, mFld, sSetFld, sAugFld, sSetIx, mChain, mChainT, mSl, oNone, oSome, mBM, eVar, eC, ok_bind, bad_bind, ok_st, nx_seq, rt_seq, bk_seq, ct_seq, ofO_some, List.getElem?_cons_zero, List.getElem?_cons_succ, List.set_cons_zero, List.set_cons_succ, List.length_cons, List.length_nil, List.append_nil, List.nil_append, List.cons_append, tgName, tgNil, tgCons, tgTup, setsE, List.foldl_cons, List.foldl_nil, List.map_cons, List.map_nil, tYesZ, wipeE, isNZ, PV.isN, Option.map_some, Option.bind_some, if_true, if_false, Bool.not_true, Bool.not_false, reduceIte, Bool.false_eq_true, permP, List.getD_cons_zero, List.getD_cons_succ, atI_0, atI_1, atI_2, atI_3, addZ_int, subZ_int, modZ_int, gtZ_int, ltZ_int, leZ_int, geZ_int, eqZ_int, neZ_int, intTyZ_int, truZ_bl, addI_int, maxZ_int, minZ_int, rb_bl, negZ_int, ixZ_tup, ixZ_lst, ixZ_scr, lenZ_tup, lenZ_lst, lenZ_scr, tupTyZ_lst, tupTyZ_tup, tyOk_str, Nat.reduceAdd, Nat.zero_add, lk0, lk1, lk2, lk3, lk4, lk5, lk6, lk7, lk8, lk9, lk10, lk11, lk12, and_self, and_true, true_and, Bool.and_true, Bool.true_and, Bool.and_self, Bool.or_false, Bool.false_or, cst0, cst1, cst2, cst3, cst4, cst5, cst6, cst7, cst8, cst9, cst10, cst11, cst12, sz0, sz1, sz2, sz3, sz4, sz5, sz6, sz7, sz8, sz9, sz10, sz11, sz12, is_non_int, is_non_bool, is_non_str, is_non_tuple, is_non_list, is_bl_int, is_bl_bool, is_bl_str, is_bl_tuple, is_bl_list, is_int_int, is_int_bool, is_int_str, is_int_tuple, is_int_list, is_str_int, is_str_bool, is_str_str, is_str_tuple, is_str_list, is_tup_int, is_tup_bool, is_tup_str, is_tup_tuple, is_tup_list, is_lst_int, is_lst_bool, is_lst_str, is_lst_tuple, is_lst_list, is_scheme_ok s]
theorem take_digits {b : Int} (h0 : 2 ≤ b) (h1 : b ≤ 10) : Txt.slice (S [48, 49, 50, 51, 52, 53, 54, 55, 56, 57]) none (some b) = S ((List.range b.toNat).map (48 + ·)) := by
  have : b = 2 ∨ b = 3 ∨ b = 4 ∨ b = 5 ∨ b = 6 ∨ b = 7 ∨ b = 8 ∨ b = 9 ∨ b = 10 := by omega
  rcases this with rfl | rfl | rfl | rfl | rfl | rfl | rfl | rfl | rfl <;> decide +kernel
theorem read_code_ok {b m r : Int} {ws ds : List Int} {ph : PH} (s : Scm b m ws r) (h : ∀ d ∈ ds, 0 ≤ d ∧ d < b) (hl : ds.length = ws.length) : m_read_code [scmP b m ws r, .str (S (digs ds))] ph = .ok (intsP ds) ph := by
  have hb0 := s.b0; have hb := s.b1; have hl1 := s.l1
  have hd : (digs ds).length = ds.length := by simp [digs]
  unfold m_read_code
  refine dFn_rt ?_
  rw [env2_6]
  have e : ∀ v5 v6, lc_read_code_0 [some (scmP b m ws r), some (.str (S (digs ds))), some (.int ws.length), some (.str (S ((List.range b.toNat).map (48 + ·)))), v5, v6] ph = .ok (.lst (ds.map .int)) ph := fun v5 v6 => by
    unfold lc_read_code_0
    rw [mLC_ok (it := ⟨(digs ds).map fun c => .str (S [c]), []⟩) (ph1 := ph) (iText_S (by simp only [sSeq, sIf, sRet, sRetN, sSet, sSetL, sRetL, sExpr, sNil, sUnp, sPar2, sPar3, sAug, mBin, mBinT, mUn, mCB, mTru, mAndT, mOrT, mNotT, mIf, mAndV, mOrV, mNotV, mNil, mCons, mTup, mLst, mCall, mCallK, mMeth, mMake, mFld, sSetFld, sAugFld, sSetIx, mChain, mChainT, mSl, oNone, oSome, mBM, eVar, eC, ok_bind, bad_bind, ok_st, nx_seq, rt_seq, bk_seq, ct_seq, ofO_some, List.getElem?_cons_zero, List.getElem?_cons_succ, List.set_cons_zero, List.set_cons_succ, List.length_cons, List.length_nil, List.append_nil, List.nil_append, List.cons_append, tgName, tgNil, tgCons, tgTup, setsE, List.foldl_cons, List.foldl_nil, List.map_cons, List.map_nil, tYesZ, wipeE, isNZ, PV.isN, Option.map_some, Option.bind_some, if_true, if_false, Bool.not_true, Bool.not_false, reduceIte, Bool.false_eq_true, permP, List.getD_cons_zero, List.getD_cons_succ, atI_0, atI_1, atI_2, atI_3, addZ_int, subZ_int, modZ_int, gtZ_int, ltZ_int, leZ_int, geZ_int, eqZ_int, neZ_int, intTyZ_int, truZ_bl, addI_int, maxZ_int, minZ_int, rb_bl, negZ_int, ixZ_tup, ixZ_lst, ixZ_scr, lenZ_tup, lenZ_lst, lenZ_scr, tupTyZ_lst, tupTyZ_tup, tyOk_str, Nat.reduceAdd, Nat.zero_add, lk0, lk1, lk2, lk3, lk4, lk5, lk6, lk7, lk8, lk9, lk10, lk11, lk12, and_self, and_true, true_and, Bool.and_true, Bool.true_and, Bool.and_self, Bool.or_false, Bool.false_or, cst0, cst1, cst2, cst3, cst4, cst5, cst6, cst7, cst8, cst9, cst10, cst11, cst12, sz0, sz1, sz2, sz3, sz4, sz5, sz6, sz7, sz8, sz9, sz10, sz11, sz12, is_non_int, is_non_bool, is_non_str, is_non_tuple, is_non_list, is_bl_int, is_bl_bool, is_bl_str, is_bl_tuple, is_bl_list, is_int_int, is_int_bool, is_int_str, is_int_tuple, is_int_list, is_str_int, is_str_bool, is_str_str, is_str_tuple, is_str_list, is_tup_int, is_tup_bool, is_tup_str, is_tup_tuple, is_tup_list, is_lst_int, is_lst_bool, is_lst_str, is_lst_tuple, is_lst_list])) (by simp [digs]; omega)]
    rw [lc_map0 (f := fun p => match p with | .str x => .int ((x.cps.toList.headD 0 : Nat) - 48 : Int) | p => p) chk0 fun p hp => ?_]
    · simp only [digs, List.map_map]
      congr 2
      refine List.map_congr_left fun d hd => ?_
      have := h d hd
      simp [Function.comp_def]
      omega
    · simp only [digs, List.map_map] at hp
      obtain ⟨x, hx, rfl⟩ := List.mem_map.mp hp
      obtain ⟨x0, x1⟩ := h x hx
      refine ⟨[(5, .str (S [48 + x.toNat]))], rfl, ?_⟩
      simp only [sSeq, sIf, sRet, sRetN, sSet, sSetL, sRetL, sExpr, sNil, sUnp, sPar2, sPar3, sAug, mBin, mBinT, mUn, mCB, mTru, mAndT, mOrT, mNotT, mIf, mAndV, mOrV, mNotV, mNil, mCons, mTup, mLst, mCall, mCallK, mMeth, mMake, mFld, sSetFld, sAugFld, sSetIx, mChain, mChainT, mSl, oNone, oSome, mBM, eVar, eC, ok_bind, bad_bind, ok_st, nx_seq, rt_seq, bk_seq, ct_seq, ofO_some, List.getElem?_cons_zero, List.getElem?_cons_succ, List.set_cons_zero, List.set_cons_succ, List.length_cons, List.length_nil, List.append_nil, List.nil_append, List.cons_append, tgName, tgNil, tgCons, tgTup, setsE, List.foldl_cons, List.foldl_nil, List.map_cons, List.map_nil, tYesZ, wipeE, isNZ, PV.isN, Option.map_some, Option.bind_some, if_true, if_false, Bool.not_true, Bool.not_false, reduceIte, Bool.false_eq_true, permP, List.getD_cons_zero, List.getD_cons_succ, atI_0, atI_1, atI_2, atI_3, addZ_int, subZ_int, modZ_int, gtZ_int, ltZ_int, leZ_int, geZ_int, eqZ_int, neZ_int, intTyZ_int, truZ_bl, addI_int, maxZ_int, minZ_int, rb_bl, negZ_int, ixZ_tup, ixZ_lst, ixZ_scr, lenZ_tup, lenZ_lst, lenZ_scr, tupTyZ_lst, tupTyZ_tup, tyOk_str, Nat.reduceAdd, Nat.zero_add, lk0, lk1, lk2, lk3, lk4, lk5, lk6, lk7, lk8, lk9, lk10, lk11, lk12, and_self, and_true, true_and, Bool.and_true, Bool.true_and, Bool.and_self, Bool.or_false, Bool.false_or, cst0, cst1, cst2, cst3, cst4, cst5, cst6, cst7, cst8, cst9, cst10, cst11, cst12, sz0, sz1, sz2, sz3, sz4, sz5, sz6, sz7, sz8, sz9, sz10, sz11, sz12, is_non_int, is_non_bool, is_non_str, is_non_tuple, is_non_list, is_bl_int, is_bl_bool, is_bl_str, is_bl_tuple, is_bl_list, is_int_int, is_int_bool, is_int_str, is_int_tuple, is_int_list, is_str_int, is_str_bool, is_str_str, is_str_tuple, is_str_list, is_tup_int, is_tup_bool, is_tup_str, is_tup_tuple, is_tup_list, is_lst_int, is_lst_bool, is_lst_str, is_lst_tuple, is_lst_list, Function.comp_apply, intTyZ_dig x0 (show x < 10 by omega)]
      simp
      omega
  have e2 : ∃ v5 v6, fo_read_code_0 [some (scmP b m ws r), some (.str (S (digs ds))), some (.int ws.length), some (.str (S ((List.range b.toNat).map (48 + ·)))), none, none] ph = .nx [some (scmP b m ws r), some (.str (S (digs ds))), some (.int ws.length), some (.str (S ((List.range b.toNat).map (48 + ·)))), v5, v6] ph := by
    unfold fo_read_code_0
    rw [sFor_ok (it := ⟨enumP ((digs ds).map fun c => .str (S [c])), []⟩) (ph1 := ph) (iEnum_S (by simp only [sSeq, sIf, sRet, sRetN, sSet, sSetL, sRetL, sExpr, sNil, sUnp, sPar2, sPar3, sAug, mBin, mBinT, mUn, mCB, mTru, mAndT, mOrT, mNotT, mIf, mAndV, mOrV, mNotV, mNil, mCons, mTup, mLst, mCall, mCallK, mMeth, mMake, mFld, sSetFld, sAugFld, sSetIx, mChain, mChainT, mSl, oNone, oSome, mBM, eVar, eC, ok_bind, bad_bind, ok_st, nx_seq, rt_seq, bk_seq, ct_seq, ofO_some, List.getElem?_cons_zero, List.getElem?_cons_succ, List.set_cons_zero, List.set_cons_succ, List.length_cons, List.length_nil, List.append_nil, List.nil_append, List.cons_append, tgName, tgNil, tgCons, tgTup, setsE, List.foldl_cons, List.foldl_nil, List.map_cons, List.map_nil, tYesZ, wipeE, isNZ, PV.isN, Option.map_some, Option.bind_some, if_true, if_false, Bool.not_true, Bool.not_false, reduceIte, Bool.false_eq_true, permP, List.getD_cons_zero, List.getD_cons_succ, atI_0, atI_1, atI_2, atI_3, addZ_int, subZ_int, modZ_int, gtZ_int, ltZ_int, leZ_int, geZ_int, eqZ_int, neZ_int, intTyZ_int, truZ_bl, addI_int, maxZ_int, minZ_int, rb_bl, negZ_int, ixZ_tup, ixZ_lst, ixZ_scr, lenZ_tup, lenZ_lst, lenZ_scr, tupTyZ_lst, tupTyZ_tup, tyOk_str, Nat.reduceAdd, Nat.zero_add, lk0, lk1, lk2, lk3, lk4, lk5, lk6, lk7, lk8, lk9, lk10, lk11, lk12, and_self, and_true, true_and, Bool.and_true, Bool.true_and, Bool.and_self, Bool.or_false, Bool.false_or, cst0, cst1, cst2, cst3, cst4, cst5, cst6, cst7, cst8, cst9, cst10, cst11, cst12, sz0, sz1, sz2, sz3, sz4, sz5, sz6, sz7, sz8, sz9, sz10, sz11, sz12, is_non_int, is_non_bool, is_non_str, is_non_tuple, is_non_list, is_bl_int, is_bl_bool, is_bl_str, is_bl_tuple, is_bl_list, is_int_int, is_int_bool, is_int_str, is_int_tuple, is_int_list, is_str_int, is_str_bool, is_str_str, is_str_tuple, is_str_list, is_tup_int, is_tup_bool, is_tup_str, is_tup_tuple, is_tup_list, is_lst_int, is_lst_bool, is_lst_str, is_lst_tuple, is_lst_list]))]
    have hz := for_inv (it := ⟨enumP ((digs ds).map fun c => .str (S [c])), []⟩) (g := tgTup 2 (tgCons (tgName 4) (tgCons (tgName 5) (tgNil)))) (b := sIf (mOrT (mBinT geZ (eVar 4) (eVar 2)) (mBinT (inZ true) (eVar 5) (eVar 3))) (sBad) (sNil))
      (J := fun _ env q => q = ph ∧ ∃ v5 v6, env = [some (scmP b m ws r), some (.str (S (digs ds))), some (.int ws.length), some (.str (S ((List.range b.toNat).map (48 + ·)))), v5, v6]) (enumP ((digs ds).map fun c => .str (S [c]))) 0 [some (scmP b m ws r), some (.str (S (digs ds))), some (.int ws.length), some (.str (S ((List.range b.toNat).map (48 + ·)))), none, none] ph
    obtain ⟨env', ph', f1, f2, v5, v6, f3⟩ := hz (fun k p hp env q hj => by
      obtain ⟨rfl, v5, v6, rfl⟩ := hj
      obtain ⟨x, hx, rfl⟩ := enumP_get hp
      rw [List.getElem?_map] at hx
      cases hc : (digs ds)[k]? with
      | none => rw [hc] at hx; cases hx
      | some c =>
        rw [hc] at hx
        cases hx
        have hk := (List.getElem?_eq_some_iff.mp hc).1
        obtain ⟨c0, c1⟩ := mem_digs h hb c (List.mem_of_getElem? hc)
        obtain ⟨d, hd1, hd2⟩ := List.mem_map.mp (List.mem_of_getElem? hc)
        have hd3 := h d hd1
        have hin : c ∈ (List.range b.toNat).map (48 + ·) := List.mem_map.mpr ⟨d.toNat, by simp; omega, hd2⟩
        refine ⟨chk0, [(4, .int k), (5, .str (S [c]))], _, q, rfl, .inl ?_, rfl, some (.int k), some (.str (S [c])), rfl⟩
        simp only [sSeq, sIf, sRet, sRetN, sSet, sSetL, sRetL, sExpr, sNil, sUnp, sPar2, sPar3, sAug, mBin, mBinT, mUn, mCB, mTru, mAndT, mOrT, mNotT, mIf, mAndV, mOrV, mNotV, mNil, mCons, mTup, mLst, mCall, mCallK, mMeth, mMake, mFld, sSetFld, sAugFld, sSetIx, mChain, mChainT, mSl, oNone, oSome, mBM, eVar, eC, ok_bind, bad_bind, ok_st, nx_seq, rt_seq, bk_seq, ct_seq, ofO_some, List.getElem?_cons_zero, List.getElem?_cons_succ, List.set_cons_zero, List.set_cons_succ, List.length_cons, List.length_nil, List.append_nil, List.nil_append, List.cons_append, tgName, tgNil, tgCons, tgTup, setsE, List.foldl_cons, List.foldl_nil, List.map_cons, List.map_nil, tYesZ, wipeE, isNZ, PV.isN, Option.map_some, Option.bind_some, if_true, if_false, Bool.not_true, Bool.not_false, reduceIte, Bool.false_eq_true, permP, List.getD_cons_zero, List.getD_cons_succ, atI_0, atI_1, atI_2, atI_3, addZ_int, subZ_int, modZ_int, gtZ_int, ltZ_int, leZ_int, geZ_int, eqZ_int, neZ_int, intTyZ_int, truZ_bl, addI_int, maxZ_int, minZ_int, rb_bl, negZ_int, ixZ_tup, ixZ_lst, ixZ_scr, lenZ_tup, lenZ_lst, lenZ_scr, tupTyZ_lst, tupTyZ_tup, tyOk_str, Nat.reduceAdd, Nat.zero_add, lk0, lk1, lk2, lk3, lk4, lk5, lk6, lk7, lk8, lk9, lk10, lk11, lk12, and_self, and_true, true_and, Bool.and_true, Bool.true_and, Bool.and_self, Bool.or_false, Bool.false_or, cst0, cst1, cst2, cst3, cst4, cst5, cst6, cst7, cst8, cst9, cst10, cst11, cst12, sz0, sz1, sz2, sz3, sz4, sz5, sz6, sz7, sz8, sz9, sz10, sz11, sz12, is_non_int, is_non_bool, is_non_str, is_non_tuple, is_non_list, is_bl_int, is_bl_bool, is_bl_str, is_bl_tuple, is_bl_list, is_int_int, is_int_bool, is_int_str, is_int_tuple, is_int_list, is_str_int, is_str_bool, is_str_str, is_str_tuple, is_str_list, is_tup_int, is_tup_bool, is_tup_str, is_tup_tuple, is_tup_list, is_lst_int, is_lst_bool, is_lst_str, is_lst_tuple, is_lst_list, show decide ((ws.length : Int) ≤ (k : Int)) = false from decide_eq_false (by omega), ninZ_sign, hin, decide_true]) (fun _ _ _ => chk0) ⟨rfl, none, none, rfl⟩
    exact ⟨v5, v6, by rw [f1, f2, f3]⟩
  obtain ⟨v5, v6, e2⟩ := e2
  have e3 : ixZ ph (scmP b m ws r) (.int 2) = some (intsP ws) := rfl
  have e4 : ixZ ph (scmP b m ws r) (.int 0) = some (.int b) := rfl
  have e5 : lenZ ph [intsP ws] = some (.int ws.length) := by simp [intsP, lenZ_tup]
  unfold b_read_code
  simp only [lit_0, lit_1, lit_2, lit_3, lit_4, lit_5, lit_6, lit_7, lit_8, lit_9, lit_10, lit_11, lit_12, lit_13, lit_14, lit_15]
  simp only [sSeq, sIf, sRet, sRetN, sSet, sSetL, sRetL, sExpr, sNil, sUnp, sPar2, sPar3, sAug, mBin, mBinT, mUn, mCB, mTru, mAndT, mOrT, mNotT, mIf, mAndV, mOrV, mNotV, mNil, mCons, mTup, mLst, mCall, mCallK, mMeth, mMake, mFld, sSetFld, sAugFld, sSetIx, mChain, mChainT, mSl, oNone, oSome, mBM, eVar, eC, ok_bind, bad_bind, ok_st, nx_seq, rt_seq, bk_seq, ct_seq, ofO_some, List.getElem?_cons_zero, List.getElem?_cons_succ, List.set_cons_zero, List.set_cons_succ, List.length_cons, List.length_nil, List.append_nil, List.nil_append, List.cons_append, tgName, tgNil, tgCons, tgTup, setsE, List.foldl_cons, List.foldl_nil, List.map_cons, List.map_nil, tYesZ, wipeE, isNZ, PV.isN, Option.map_some, Option.bind_some, if_true, if_false, Bool.not_true, Bool.not_false, reduceIte, Bool.false_eq_true, permP, List.getD_cons_zero, List.getD_cons_succ, atI_0, atI_1, atI_2, atI_3, addZ_int, subZ_int, modZ_int, gtZ_int, ltZ_int, leZ_int, geZ_int, eqZ_int, neZ_int, intTyZ_int, truZ_bl, addI_int, maxZ_int, minZ_int, rb_bl, negZ_int, ixZ_tup, ixZ_lst, ixZ_scr, lenZ_tup, lenZ_lst, lenZ_scr, tupTyZ_lst, tupTyZ_tup, tyOk_str, Nat.reduceAdd, Nat.zero_add, lk0, lk1, lk2, lk3, lk4, lk5, lk6, lk7, lk8, lk9, lk10, lk11, lk12, and_self, and_true, true_and, Bool.and_true, Bool.true_and, Bool.and_self, Bool.or_false, Bool.false_or, cst0, cst1, cst2, cst3, cst4, cst5, cst6, cst7, cst8, cst9, cst10, cst11, cst12, sz0, sz1, sz2, sz3, sz4, sz5, sz6, sz7, sz8, sz9, sz10, sz11, sz12, is_non_int, is_non_bool, is_non_str, is_non_tuple, is_non_list, is_bl_int, is_bl_bool, is_bl_str, is_bl_tuple, is_bl_list, is_int_int, is_int_bool, is_int_str, is_int_tuple, is_int_list, is_str_int, is_str_bool, is_str_str, is_str_tuple, is_str_list, is_tup_int, is_tup_bool, is_tup_str, is_tup_tuple, is_tup_list, is_lst_int, is_lst_bool, is_lst_str, is_lst_tuple, is_lst_list, need_scheme_ok s, e3, e4, e5, slZ_str (a := [48, 49, 50, 51, 52, 53, 54, 55, 56, 57]) (by decide), take_digits hb0 hb, e2, lenZ_str (show (digs ds).length ≤ 10000 by omega), hd, hl, show decide ((ws.length : Int) < ws.length) = false from decide_eq_false (by omega), e]
  rfl

theorem ix_dig {ph : PH} {d : Int} (h0 : 0 ≤ d) (h1 : d < 10) : ixZ ph (.str (S [48, 49, 50, 51, 52, 53, 54, 55, 56, 57])) (.int d) = some (.str (S [48 + d.toNat])) := by
  rcases ten h0 h1 with rfl | rfl | rfl | rfl | rfl | rfl | rfl | rfl | rfl | rfl <;> exact ixZ_str (a := [48, 49, 50, 51, 52, 53, 54, 55, 56, 57]) (k := _) (by decide) (by decide)
theorem gd_ints {ds : List Int} (h : ds.length ≤ 1000) : Gd 6 (intsP ds) := .inr (.inr ⟨_, rfl, by simpa using h, fun x hx => by
  obtain ⟨i, _, rfl⟩ := List.mem_map.mp hx
  exact .inl ⟨i, rfl⟩⟩)
theorem gd_str {a : List Nat} (h : ∀ c ∈ a, c < 0x110000) : Gd 6 (.str (S a)) := .inr (.inl ⟨a, rfl, h⟩)
theorem codes_right_ok {N l : Nat} {ph : PH} (u : U N l ph) (hN : N ≤ 10 ^ 5) : ∃ ph', m_law_codes_right [.loc l] ph = .ok (.bl true) ph' ∧ U (N + 20) l ph' ∧ Stp l ph ph' := by
  obtain ⟨b, m, ws, r, p1, a1, sc, u1, s1⟩ := scheme u hN
  have hb0 := sc.b0; have hb1 := sc.b1; have hl1 := sc.l1
  have e3 : ∀ ph, ixZ ph (scmP b m ws r) (.int 2) = some (intsP ws) := fun _ => rfl
  have e4 : ∀ ph, ixZ ph (scmP b m ws r) (.int 0) = some (.int b) := fun _ => rfl
  have hlc : ∃ vs p2, lc_law_codes_right_0 [some (.loc l), some (scmP b m ws r), none, none, none, none] p1 = .ok (.lst vs) p2 ∧ vs.length = ws.length ∧ (∀ v ∈ vs, ∃ i, v = .int i ∧ 0 ≤ i ∧ i < b) ∧ U (N + 20) l p2 ∧ Stp l p1 p2 := by
    unfold lc_law_codes_right_0
    rw [mLC_ok (it := ⟨ws.map .int, []⟩) (ph1 := p1) (iSeq_tup (by simp only [sSeq, sIf, sRet, sRetN, sSet, sSetL, sRetL, sExpr, sNil, sUnp, sPar2, sPar3, sAug, mBin, mBinT, mUn, mCB, mTru, mAndT, mOrT, mNotT, mIf, mAndV, mOrV, mNotV, mNil, mCons, mTup, mLst, mCall, mCallK, mMeth, mMake, mFld, sSetFld, sAugFld, sSetIx, mChain, mChainT, mSl, oNone, oSome, mBM, eVar, eC, ok_bind, bad_bind, ok_st, nx_seq, rt_seq, bk_seq, ct_seq, ofO_some, List.getElem?_cons_zero, List.getElem?_cons_succ, List.set_cons_zero, List.set_cons_succ, List.length_cons, List.length_nil, List.append_nil, List.nil_append, List.cons_append, tgName, tgNil, tgCons, tgTup, setsE, List.foldl_cons, List.foldl_nil, List.map_cons, List.map_nil, tYesZ, wipeE, isNZ, PV.isN, Option.map_some, Option.bind_some, if_true, if_false, Bool.not_true, Bool.not_false, reduceIte, Bool.false_eq_true, permP, List.getD_cons_zero, List.getD_cons_succ, atI_0, atI_1, atI_2, atI_3, addZ_int, subZ_int, modZ_int, gtZ_int, ltZ_int, leZ_int, geZ_int, eqZ_int, neZ_int, intTyZ_int, truZ_bl, addI_int, maxZ_int, minZ_int, rb_bl, negZ_int, ixZ_tup, ixZ_lst, ixZ_scr, lenZ_tup, lenZ_lst, lenZ_scr, tupTyZ_lst, tupTyZ_tup, tyOk_str, Nat.reduceAdd, Nat.zero_add, lk0, lk1, lk2, lk3, lk4, lk5, lk6, lk7, lk8, lk9, lk10, lk11, lk12, and_self, and_true, true_and, Bool.and_true, Bool.true_and, Bool.and_self, Bool.or_false, Bool.false_or, cst0, cst1, cst2, cst3, cst4, cst5, cst6, cst7, cst8, cst9, cst10, cst11, cst12, sz0, sz1, sz2, sz3, sz4, sz5, sz6, sz7, sz8, sz9, sz10, sz11, sz12, is_non_int, is_non_bool, is_non_str, is_non_tuple, is_non_list, is_bl_int, is_bl_bool, is_bl_str, is_bl_tuple, is_bl_list, is_int_int, is_int_bool, is_int_str, is_int_tuple, is_int_list, is_str_int, is_str_bool, is_str_str, is_str_tuple, is_str_list, is_tup_int, is_tup_bool, is_tup_str, is_tup_tuple, is_tup_list, is_lst_int, is_lst_bool, is_lst_str, is_lst_tuple, is_lst_list, e3]; rfl)) (by simp; omega)]
    obtain ⟨vs, p4, h1, h2, h3, h4, h5⟩ := lc_U (it := ⟨ws.map .int, []⟩) (g := tgName 4) (e := mCall 2 (m_law_draw) [] (mCons (eVar 0) (mCons (mBin ixZ (eVar 1) (eC (.int 0))) (mNil)))) (w := wipeE [some (.loc l), some (scmP b m ws r), none, none, none, none] [4]) (P := fun v => ∃ i, v = .int i ∧ 0 ≤ i ∧ i < b) rfl u1 (by simp; omega) fun p _ n q hn uq => by
      obtain ⟨r, q', d1, d2, d3, d4, d5⟩ := draw (m := b) uq hn (by omega) (by omega)
      exact ⟨[(4, p)], .int r, q', rfl, by simp only [sSeq, sIf, sRet, sRetN, sSet, sSetL, sRetL, sExpr, sNil, sUnp, sPar2, sPar3, sAug, mBin, mBinT, mUn, mCB, mTru, mAndT, mOrT, mNotT, mIf, mAndV, mOrV, mNotV, mNil, mCons, mTup, mLst, mCall, mCallK, mMeth, mMake, mFld, sSetFld, sAugFld, sSetIx, mChain, mChainT, mSl, oNone, oSome, mBM, eVar, eC, ok_bind, bad_bind, ok_st, nx_seq, rt_seq, bk_seq, ct_seq, ofO_some, List.getElem?_cons_zero, List.getElem?_cons_succ, List.set_cons_zero, List.set_cons_succ, List.length_cons, List.length_nil, List.append_nil, List.nil_append, List.cons_append, tgName, tgNil, tgCons, tgTup, setsE, List.foldl_cons, List.foldl_nil, List.map_cons, List.map_nil, tYesZ, wipeE, isNZ, PV.isN, Option.map_some, Option.bind_some, if_true, if_false, Bool.not_true, Bool.not_false, reduceIte, Bool.false_eq_true, permP, List.getD_cons_zero, List.getD_cons_succ, atI_0, atI_1, atI_2, atI_3, addZ_int, subZ_int, modZ_int, gtZ_int, ltZ_int, leZ_int, geZ_int, eqZ_int, neZ_int, intTyZ_int, truZ_bl, addI_int, maxZ_int, minZ_int, rb_bl, negZ_int, ixZ_tup, ixZ_lst, ixZ_scr, lenZ_tup, lenZ_lst, lenZ_scr, tupTyZ_lst, tupTyZ_tup, tyOk_str, Nat.reduceAdd, Nat.zero_add, lk0, lk1, lk2, lk3, lk4, lk5, lk6, lk7, lk8, lk9, lk10, lk11, lk12, and_self, and_true, true_and, Bool.and_true, Bool.true_and, Bool.and_self, Bool.or_false, Bool.false_or, cst0, cst1, cst2, cst3, cst4, cst5, cst6, cst7, cst8, cst9, cst10, cst11, cst12, sz0, sz1, sz2, sz3, sz4, sz5, sz6, sz7, sz8, sz9, sz10, sz11, sz12, is_non_int, is_non_bool, is_non_str, is_non_tuple, is_non_list, is_bl_int, is_bl_bool, is_bl_str, is_bl_tuple, is_bl_list, is_int_int, is_int_bool, is_int_str, is_int_tuple, is_int_list, is_str_int, is_str_bool, is_str_str, is_str_tuple, is_str_list, is_tup_int, is_tup_bool, is_tup_str, is_tup_tuple, is_tup_list, is_lst_int, is_lst_bool, is_lst_str, is_lst_tuple, is_lst_list, e4, d1], ⟨r, rfl, d2, d3⟩, d4, d5⟩
    simp only [List.length_map] at h2 h4
    exact ⟨vs, p4, h1, h2, h3, h4.mono (by omega), h5⟩
  obtain ⟨vs, p2, a2, v1, v2, u2, s2⟩ := hlc
  obtain ⟨ds, rfl, d1, d2⟩ := ints_of v2
  have hdl : ds.length = ws.length := by rw [d1, v1]
  have hdg : (digs ds).length = ds.length := by simp [digs]
  have e5 : lc_law_codes_right_1 [some (.loc l), some (scmP b m ws r), some (intsP ds), none, none, none] p2 = .ok (.lst ((digs ds).map fun c => .str (S [c]))) p2 := by
    unfold lc_law_codes_right_1
    rw [mLC_ok (it := ⟨ds.map .int, []⟩) (ph1 := p2) (iSeq_tup (by simp only [sSeq, sIf, sRet, sRetN, sSet, sSetL, sRetL, sExpr, sNil, sUnp, sPar2, sPar3, sAug, mBin, mBinT, mUn, mCB, mTru, mAndT, mOrT, mNotT, mIf, mAndV, mOrV, mNotV, mNil, mCons, mTup, mLst, mCall, mCallK, mMeth, mMake, mFld, sSetFld, sAugFld, sSetIx, mChain, mChainT, mSl, oNone, oSome, mBM, eVar, eC, ok_bind, bad_bind, ok_st, nx_seq, rt_seq, bk_seq, ct_seq, ofO_some, List.getElem?_cons_zero, List.getElem?_cons_succ, List.set_cons_zero, List.set_cons_succ, List.length_cons, List.length_nil, List.append_nil, List.nil_append, List.cons_append, tgName, tgNil, tgCons, tgTup, setsE, List.foldl_cons, List.foldl_nil, List.map_cons, List.map_nil, tYesZ, wipeE, isNZ, PV.isN, Option.map_some, Option.bind_some, if_true, if_false, Bool.not_true, Bool.not_false, reduceIte, Bool.false_eq_true, permP, List.getD_cons_zero, List.getD_cons_succ, atI_0, atI_1, atI_2, atI_3, addZ_int, subZ_int, modZ_int, gtZ_int, ltZ_int, leZ_int, geZ_int, eqZ_int, neZ_int, intTyZ_int, truZ_bl, addI_int, maxZ_int, minZ_int, rb_bl, negZ_int, ixZ_tup, ixZ_lst, ixZ_scr, lenZ_tup, lenZ_lst, lenZ_scr, tupTyZ_lst, tupTyZ_tup, tyOk_str, Nat.reduceAdd, Nat.zero_add, lk0, lk1, lk2, lk3, lk4, lk5, lk6, lk7, lk8, lk9, lk10, lk11, lk12, and_self, and_true, true_and, Bool.and_true, Bool.true_and, Bool.and_self, Bool.or_false, Bool.false_or, cst0, cst1, cst2, cst3, cst4, cst5, cst6, cst7, cst8, cst9, cst10, cst11, cst12, sz0, sz1, sz2, sz3, sz4, sz5, sz6, sz7, sz8, sz9, sz10, sz11, sz12, is_non_int, is_non_bool, is_non_str, is_non_tuple, is_non_list, is_bl_int, is_bl_bool, is_bl_str, is_bl_tuple, is_bl_list, is_int_int, is_int_bool, is_int_str, is_int_tuple, is_int_list, is_str_int, is_str_bool, is_str_str, is_str_tuple, is_str_list, is_tup_int, is_tup_bool, is_tup_str, is_tup_tuple, is_tup_list, is_lst_int, is_lst_bool, is_lst_str, is_lst_tuple, is_lst_list]; rfl)) (by simp; omega)]
    rw [lc_map0 (f := fun p => match p with | .int d => .str (S [48 + d.toNat]) | p => p) chk0 fun p hp => ?_]
    · simp only [digs, List.map_map]; rfl
    · obtain ⟨x, hx, rfl⟩ := List.mem_map.mp hp
      obtain ⟨x0, x1⟩ := d2 x hx
      refine ⟨[(5, .int x)], rfl, ?_⟩
      simp only [lit_0, lit_1, lit_2, lit_3, lit_4, lit_5, lit_6, lit_7, lit_8, lit_9, lit_10, lit_11, lit_12, lit_13, lit_14, lit_15]
      simp only [sSeq, sIf, sRet, sRetN, sSet, sSetL, sRetL, sExpr, sNil, sUnp, sPar2, sPar3, sAug, mBin, mBinT, mUn, mCB, mTru, mAndT, mOrT, mNotT, mIf, mAndV, mOrV, mNotV, mNil, mCons, mTup, mLst, mCall, mCallK, mMeth, mMake, mFld, sSetFld, sAugFld, sSetIx, mChain, mChainT, mSl, oNone, oSome, mBM, eVar, eC, ok_bind, bad_bind, ok_st, nx_seq, rt_seq, bk_seq, ct_seq, ofO_some, List.getElem?_cons_zero, List.getElem?_cons_succ, List.set_cons_zero, List.set_cons_succ, List.length_cons, List.length_nil, List.append_nil, List.nil_append, List.cons_append, tgName, tgNil, tgCons, tgTup, setsE, List.foldl_cons, List.foldl_nil, List.map_cons, List.map_nil, tYesZ, wipeE, isNZ, PV.isN, Option.map_some, Option.bind_some, if_true, if_false, Bool.not_true, Bool.not_false, reduceIte, Bool.false_eq_true, permP, List.getD_cons_zero, List.getD_cons_succ, atI_0, atI_1, atI_2, atI_3, addZ_int, subZ_int, modZ_int, gtZ_int, ltZ_int, leZ_int, geZ_int, eqZ_int, neZ_int, intTyZ_int, truZ_bl, addI_int, maxZ_int, minZ_int, rb_bl, negZ_int, ixZ_tup, ixZ_lst, ixZ_scr, lenZ_tup, lenZ_lst, lenZ_scr, tupTyZ_lst, tupTyZ_tup, tyOk_str, Nat.reduceAdd, Nat.zero_add, lk0, lk1, lk2, lk3, lk4, lk5, lk6, lk7, lk8, lk9, lk10, lk11, lk12, and_self, and_true, true_and, Bool.and_true, Bool.true_and, Bool.and_self, Bool.or_false, Bool.false_or, cst0, cst1, cst2, cst3, cst4, cst5, cst6, cst7, cst8, cst9, cst10, cst11, cst12, sz0, sz1, sz2, sz3, sz4, sz5, sz6, sz7, sz8, sz9, sz10, sz11, sz12, is_non_int, is_non_bool, is_non_str, is_non_tuple, is_non_list, is_bl_int, is_bl_bool, is_bl_str, is_bl_tuple, is_bl_list, is_int_int, is_int_bool, is_int_str, is_int_tuple, is_int_list, is_str_int, is_str_bool, is_str_str, is_str_tuple, is_str_list, is_tup_int, is_tup_bool, is_tup_str, is_tup_tuple, is_tup_list, is_lst_int, is_lst_bool, is_lst_str, is_lst_tuple, is_lst_list, ix_dig x0 (show x < 10 by omega)]
  have hc : ∀ c ∈ digs ds, c < 0x110000 := fun c h => by
    have := mem_digs d2 hb1 c h
    omega
  have g1 := same_refl 6 (.str (S (digs ds))) p2 (gd_str hc)
  have g2 := same_refl 6 (intsP ds) p2 (gd_ints (by omega))
  have j1 : joinZ p2 (.str (S [])) [.lst ((digs ds).map fun c => .str (S [c]))] = some (.str (S (digs ds)), p2) := joinZ_signs rfl (by omega)
  have w1 : ∀ ph, m_show_code [intsP ds] ph = .ok (.str (S (digs ds))) ph := fun ph => show_code_ok d2 hb1 (by omega)
  have w2 : ∀ ph, m_read_code [scmP b m ws r, .str (S (digs ds))] ph = .ok (intsP ds) ph := fun ph => read_code_ok sc d2 hdl
  have st := s1.trans s2
  refine ⟨p2, ?_, u2, st⟩
  unfold m_law_codes_right
  refine dFn_rtS ?_ st.len
  rw [env1_6]
  unfold b_law_codes_right
  simp only [lit_0, lit_1, lit_2, lit_3, lit_4, lit_5, lit_6, lit_7, lit_8, lit_9, lit_10, lit_11, lit_12, lit_13, lit_14, lit_15]
  have t1 : tupTyZ p2 [.lst (ds.map .int)] = some (intsP ds) := rfl
  simp only [sSeq, sIf, sRet, sRetN, sSet, sSetL, sRetL, sExpr, sNil, sUnp, sPar2, sPar3, sAug, mBin, mBinT, mUn, mCB, mTru, mAndT, mOrT, mNotT, mIf, mAndV, mOrV, mNotV, mNil, mCons, mTup, mLst, mCall, mCallK, mMeth, mMake, mFld, sSetFld, sAugFld, sSetIx, mChain, mChainT, mSl, oNone, oSome, mBM, eVar, eC, ok_bind, bad_bind, ok_st, nx_seq, rt_seq, bk_seq, ct_seq, ofO_some, List.getElem?_cons_zero, List.getElem?_cons_succ, List.set_cons_zero, List.set_cons_succ, List.length_cons, List.length_nil, List.append_nil, List.nil_append, List.cons_append, tgName, tgNil, tgCons, tgTup, setsE, List.foldl_cons, List.foldl_nil, List.map_cons, List.map_nil, tYesZ, wipeE, isNZ, PV.isN, Option.map_some, Option.bind_some, if_true, if_false, Bool.not_true, Bool.not_false, reduceIte, Bool.false_eq_true, permP, List.getD_cons_zero, List.getD_cons_succ, atI_0, atI_1, atI_2, atI_3, addZ_int, subZ_int, modZ_int, gtZ_int, ltZ_int, leZ_int, geZ_int, eqZ_int, neZ_int, intTyZ_int, truZ_bl, addI_int, maxZ_int, minZ_int, rb_bl, negZ_int, ixZ_tup, ixZ_lst, ixZ_scr, lenZ_tup, lenZ_lst, lenZ_scr, tupTyZ_lst, tupTyZ_tup, tyOk_str, Nat.reduceAdd, Nat.zero_add, lk0, lk1, lk2, lk3, lk4, lk5, lk6, lk7, lk8, lk9, lk10, lk11, lk12, and_self, and_true, true_and, Bool.and_true, Bool.true_and, Bool.and_self, Bool.or_false, Bool.false_or, cst0, cst1, cst2, cst3, cst4, cst5, cst6, cst7, cst8, cst9, cst10, cst11, cst12, sz0, sz1, sz2, sz3, sz4, sz5, sz6, sz7, sz8, sz9, sz10, sz11, sz12, is_non_int, is_non_bool, is_non_str, is_non_tuple, is_non_list, is_bl_int, is_bl_bool, is_bl_str, is_bl_tuple, is_bl_list, is_int_int, is_int_bool, is_int_str, is_int_tuple, is_int_list, is_str_int, is_str_bool, is_str_str, is_str_tuple, is_str_list, is_tup_int, is_tup_bool, is_tup_str, is_tup_tuple, is_tup_list, is_lst_int, is_lst_bool, is_lst_str, is_lst_tuple, is_lst_list, a1, a2, e5, t1, j1, tyOk, beq_self_eq_true, w1, w2, g1, g2, neZ_str hc hc, decide_true]

/-! words -/
def strsP (W : List (List Nat)) : PV := .lst (W.map fun w => .str (S w))
def wdO (W : List (List Nat)) (i : Nat) : PO := .ins (Str.ofString "Words") [((Str.ofString "all_words"), strsP W), ((Str.ofString "next_index"), .int i)]
theorem put_1 {v : PV} : putP (Str.ofString "all_words") v [] = [((Str.ofString "all_words"), v)] := rfl
theorem put_2 {v x : PV} : putP (Str.ofString "next_index") v [((Str.ofString "all_words"), x)] = [((Str.ofString "all_words"), x), ((Str.ofString "next_index"), v)] := rfl
theorem put_3 {v x y : PV} : putP (Str.ofString "next_index") v [((Str.ofString "all_words"), x), ((Str.ofString "next_index"), y)] = [((Str.ofString "all_words"), x), ((Str.ofString "next_index"), v)] := rfl
theorem look_1 {x y : PV} : List.lookup (Str.ofString "all_words") [((Str.ofString "all_words"), x), ((Str.ofString "next_index"), y)] = some x := rfl
theorem look_2 {x y : PV} : List.lookup (Str.ofString "next_index") [((Str.ofString "all_words"), x), ((Str.ofString "next_index"), y)] = some y := rfl
theorem look_peek {x y : PV} : List.lookup (Str.ofString "peek") [((Str.ofString "all_words"), x), ((Str.ofString "next_index"), y)] = none := rfl
theorem look_skip {x y : PV} : List.lookup (Str.ofString "skip") [((Str.ofString "all_words"), x), ((Str.ofString "next_index"), y)] = none := rfl
theorem look_one_of {x y : PV} : List.lookup (Str.ofString "one_of") [((Str.ofString "all_words"), x), ((Str.ofString "next_index"), y)] = none := rfl
theorem look_integer {x y : PV} : List.lookup (Str.ofString "integer") [((Str.ofString "all_words"), x), ((Str.ofString "next_index"), y)] = none := rfl
theorem look_end {x y : PV} : List.lookup (Str.ofString "end") [((Str.ofString "all_words"), x), ((Str.ofString "next_index"), y)] = none := rfl
theorem words_init {n : Nat} {ph : PH} {a : List Nat} (h : ph[n]? = some (.ins "Words" [])) (hl : a.length ≤ 100000) : m_Words___init__ [.loc n, .str (S a)] ph = .ok .non (ph.set n (wdO (TL.spl [32] 0 [] a) 0)) := by
  unfold m_Words___init__
  refine dFn_nxS (e := envZ 2 [.loc n, .str (S a)]) ?_ (by simp)
  have e1 : envZ 2 [.loc n, .str (S a)] = [some (.loc n), some (.str (S a))] := rfl
  rw [e1]
  unfold b_Words___init__
  simp only [lit_0, lit_1, lit_2, lit_3, lit_4, lit_5, lit_6, lit_7, lit_8, lit_9, lit_10, lit_11, lit_12, lit_13, lit_14, lit_15]
  simp only [sSeq, sIf, sRet, sRetN, sSet, sSetL, sRetL, sExpr, sNil, sUnp, sPar2, sPar3, sAug, mBin, mBinT, mUn, mCB, mTru, mAndT, mOrT, mNotT, mIf, mAndV, mOrV, mNotV, mNil, mCons, mTup, mLst, mCall, mCallK, mMeth, mMake, mFld, sSetFld, sAugFld, sSetIx, mChain, mChainT, mSl, oNone, oSome, mBM, eVar, eC, ok_bind, bad_bind, ok_st, nx_seq, rt_seq, bk_seq, ct_seq, ofO_some, List.getElem?_cons_zero, List.getElem?_cons_succ, List.set_cons_zero, List.set_cons_succ, List.length_cons, List.length_nil, List.append_nil, List.nil_append, List.cons_append, tgName, tgNil, tgCons, tgTup, setsE, List.foldl_cons, List.foldl_nil, List.map_cons, List.map_nil, tYesZ, wipeE, isNZ, PV.isN, Option.map_some, Option.bind_some, if_true, if_false, Bool.not_true, Bool.not_false, reduceIte, Bool.false_eq_true, permP, List.getD_cons_zero, List.getD_cons_succ, atI_0, atI_1, atI_2, atI_3, addZ_int, subZ_int, modZ_int, gtZ_int, ltZ_int, leZ_int, geZ_int, eqZ_int, neZ_int, intTyZ_int, truZ_bl, addI_int, maxZ_int, minZ_int, rb_bl, negZ_int, ixZ_tup, ixZ_lst, ixZ_scr, lenZ_tup, lenZ_lst, lenZ_scr, tupTyZ_lst, tupTyZ_tup, tyOk_str, Nat.reduceAdd, Nat.zero_add, lk0, lk1, lk2, lk3, lk4, lk5, lk6, lk7, lk8, lk9, lk10, lk11, lk12, and_self, and_true, true_and, Bool.and_true, Bool.true_and, Bool.and_self, Bool.or_false, Bool.false_or, cst0, cst1, cst2, cst3, cst4, cst5, cst6, cst7, cst8, cst9, cst10, cst11, cst12, sz0, sz1, sz2, sz3, sz4, sz5, sz6, sz7, sz8, sz9, sz10, sz11, sz12, is_non_int, is_non_bool, is_non_str, is_non_tuple, is_non_list, is_bl_int, is_bl_bool, is_bl_str, is_bl_tuple, is_bl_list, is_int_int, is_int_bool, is_int_str, is_int_tuple, is_int_list, is_str_int, is_str_bool, is_str_str, is_str_tuple, is_str_list, is_tup_int, is_tup_bool, is_tup_str, is_tup_tuple, is_tup_list, is_lst_int, is_lst_bool, is_lst_str, is_lst_tuple, is_lst_list, tyOk, beq_self_eq_true, splitZ_S (a := a) (b := [32]) (by decide) (by decide) hl, insV_at h, put_1, put_get h, insV_at (put_get h), put_2, set_twice]
  rfl

/-- the word at hand -/
def pk (W : List (List Nat)) (i : Nat) : PV := match W[i]? with
  | some w => .str (S w)
  | none => .non
theorem words_peek {n i : Nat} {ph : PH} {W : List (List Nat)} (h : ph[n]? = some (wdO W i)) : m_Words_peek [.loc n] ph = .ok (pk W i) ph := by
  unfold m_Words_peek
  refine dFn_rt ?_
  rw [env1_1]
  unfold b_Words_peek
  unfold wdO at h
  unfold pk
  cases q : W[i]? with
  | none =>
    have hi := List.getElem?_eq_none_iff.mp q
    simp only [sSeq, sIf, sRet, sRetN, sSet, sSetL, sRetL, sExpr, sNil, sUnp, sPar2, sPar3, sAug, mBin, mBinT, mUn, mCB, mTru, mAndT, mOrT, mNotT, mIf, mAndV, mOrV, mNotV, mNil, mCons, mTup, mLst, mCall, mCallK, mMeth, mMake, mFld, sSetFld, sAugFld, sSetIx, mChain, mChainT, mSl, oNone, oSome, mBM, eVar, eC, ok_bind, bad_bind, ok_st, nx_seq, rt_seq, bk_seq, ct_seq, ofO_some, List.getElem?_cons_zero, List.getElem?_cons_succ, List.set_cons_zero, List.set_cons_succ, List.length_cons, List.length_nil, List.append_nil, List.nil_append, List.cons_append, tgName, tgNil, tgCons, tgTup, setsE, List.foldl_cons, List.foldl_nil, List.map_cons, List.map_nil, tYesZ, wipeE, isNZ, PV.isN, Option.map_some, Option.bind_some, if_true, if_false, Bool.not_true, Bool.not_false, reduceIte, Bool.false_eq_true, permP, List.getD_cons_zero, List.getD_cons_succ, atI_0, atI_1, atI_2, atI_3, addZ_int, subZ_int, modZ_int, gtZ_int, ltZ_int, leZ_int, geZ_int, eqZ_int, neZ_int, intTyZ_int, truZ_bl, addI_int, maxZ_int, minZ_int, rb_bl, negZ_int, ixZ_tup, ixZ_lst, ixZ_scr, lenZ_tup, lenZ_lst, lenZ_scr, tupTyZ_lst, tupTyZ_tup, tyOk_str, Nat.reduceAdd, Nat.zero_add, lk0, lk1, lk2, lk3, lk4, lk5, lk6, lk7, lk8, lk9, lk10, lk11, lk12, and_self, and_true, true_and, Bool.and_true, Bool.true_and, Bool.and_self, Bool.or_false, Bool.false_or, cst0, cst1, cst2, cst3, cst4, cst5, cst6, cst7, cst8, cst9, cst10, cst11, cst12, sz0, sz1, sz2, sz3, sz4, sz5, sz6, sz7, sz8, sz9, sz10, sz11, sz12, is_non_int, is_non_bool, is_non_str, is_non_tuple, is_non_list, is_bl_int, is_bl_bool, is_bl_str, is_bl_tuple, is_bl_list, is_int_int, is_int_bool, is_int_str, is_int_tuple, is_int_list, is_str_int, is_str_bool, is_str_str, is_str_tuple, is_str_list, is_tup_int, is_tup_bool, is_tup_str, is_tup_tuple, is_tup_list, is_lst_int, is_lst_bool, is_lst_str, is_lst_tuple, is_lst_list, insV_at h, look_1, look_2, strsP, List.length_map, show decide ((i : Int) < (W.length : Int)) = false from decide_eq_false (by omega)]
  | some w =>
    obtain ⟨hi, e⟩ := List.getElem?_eq_some_iff.mp q
    have e2 : atI (W.map fun w => PV.str (S w)) (i : Int) = some (.str (S w)) := by
      rw [atI_nat (by simpa using hi), List.getElem_map, e]
    simp only [sSeq, sIf, sRet, sRetN, sSet, sSetL, sRetL, sExpr, sNil, sUnp, sPar2, sPar3, sAug, mBin, mBinT, mUn, mCB, mTru, mAndT, mOrT, mNotT, mIf, mAndV, mOrV, mNotV, mNil, mCons, mTup, mLst, mCall, mCallK, mMeth, mMake, mFld, sSetFld, sAugFld, sSetIx, mChain, mChainT, mSl, oNone, oSome, mBM, eVar, eC, ok_bind, bad_bind, ok_st, nx_seq, rt_seq, bk_seq, ct_seq, ofO_some, List.getElem?_cons_zero, List.getElem?_cons_succ, List.set_cons_zero, List.set_cons_succ, List.length_cons, List.length_nil, List.append_nil, List.nil_append, List.cons_append, tgName, tgNil, tgCons, tgTup, setsE, List.foldl_cons, List.foldl_nil, List.map_cons, List.map_nil, tYesZ, wipeE, isNZ, PV.isN, Option.map_some, Option.bind_some, if_true, if_false, Bool.not_true, Bool.not_false, reduceIte, Bool.false_eq_true, permP, List.getD_cons_zero, List.getD_cons_succ, atI_0, atI_1, atI_2, atI_3, addZ_int, subZ_int, modZ_int, gtZ_int, ltZ_int, leZ_int, geZ_int, eqZ_int, neZ_int, intTyZ_int, truZ_bl, addI_int, maxZ_int, minZ_int, rb_bl, negZ_int, ixZ_tup, ixZ_lst, ixZ_scr, lenZ_tup, lenZ_lst, lenZ_scr, tupTyZ_lst, tupTyZ_tup, tyOk_str, Nat.reduceAdd, Nat.zero_add, lk0, lk1, lk2, lk3, lk4, lk5, lk6, lk7, lk8, lk9, lk10, lk11, lk12, and_self, and_true, true_and, Bool.and_true, Bool.true_and, Bool.and_self, Bool.or_false, Bool.false_or, cst0, cst1, cst2, cst3, cst4, cst5, cst6, cst7, cst8, cst9, cst10, cst11, cst12, sz0, sz1, sz2, sz3, sz4, sz5, sz6, sz7, sz8, sz9, sz10, sz11, sz12, is_non_int, is_non_bool, is_non_str, is_non_tuple, is_non_list, is_bl_int, is_bl_bool, is_bl_str, is_bl_tuple, is_bl_list, is_int_int, is_int_bool, is_int_str, is_int_tuple, is_int_list, is_str_int, is_str_bool, is_str_str, is_str_tuple, is_str_list, is_tup_int, is_tup_bool, is_tup_str, is_tup_tuple, is_tup_list, is_lst_int, is_lst_bool, is_lst_str, is_lst_tuple, is_lst_list, insV_at h, look_1, look_2, strsP, List.length_map, show decide ((i : Int) < (W.length : Int)) = true from decide_eq_true (by omega), e2]
theorem words_skip {n i : Nat} {ph : PH} {W : List (List Nat)} (h : ph[n]? = some (wdO W i)) : m_Words_skip [.loc n] ph = .ok .non (ph.set n (wdO W (i + 1))) := by
  unfold m_Words_skip
  refine dFn_nxS (e := [some (.loc n)]) ?_ (by simp)
  rw [env1_1]
  unfold b_Words_skip
  unfold wdO at *
  simp only [sSeq, sIf, sRet, sRetN, sSet, sSetL, sRetL, sExpr, sNil, sUnp, sPar2, sPar3, sAug, mBin, mBinT, mUn, mCB, mTru, mAndT, mOrT, mNotT, mIf, mAndV, mOrV, mNotV, mNil, mCons, mTup, mLst, mCall, mCallK, mMeth, mMake, mFld, sSetFld, sAugFld, sSetIx, mChain, mChainT, mSl, oNone, oSome, mBM, eVar, eC, ok_bind, bad_bind, ok_st, nx_seq, rt_seq, bk_seq, ct_seq, ofO_some, List.getElem?_cons_zero, List.getElem?_cons_succ, List.set_cons_zero, List.set_cons_succ, List.length_cons, List.length_nil, List.append_nil, List.nil_append, List.cons_append, tgName, tgNil, tgCons, tgTup, setsE, List.foldl_cons, List.foldl_nil, List.map_cons, List.map_nil, tYesZ, wipeE, isNZ, PV.isN, Option.map_some, Option.bind_some, if_true, if_false, Bool.not_true, Bool.not_false, reduceIte, Bool.false_eq_true, permP, List.getD_cons_zero, List.getD_cons_succ, atI_0, atI_1, atI_2, atI_3, addZ_int, subZ_int, modZ_int, gtZ_int, ltZ_int, leZ_int, geZ_int, eqZ_int, neZ_int, intTyZ_int, truZ_bl, addI_int, maxZ_int, minZ_int, rb_bl, negZ_int, ixZ_tup, ixZ_lst, ixZ_scr, lenZ_tup, lenZ_lst, lenZ_scr, tupTyZ_lst, tupTyZ_tup, tyOk_str, Nat.reduceAdd, Nat.zero_add, lk0, lk1, lk2, lk3, lk4, lk5, lk6, lk7, lk8, lk9, lk10, lk11, lk12, and_self, and_true, true_and, Bool.and_true, Bool.true_and, Bool.and_self, Bool.or_false, Bool.false_or, cst0, cst1, cst2, cst3, cst4, cst5, cst6, cst7, cst8, cst9, cst10, cst11, cst12, sz0, sz1, sz2, sz3, sz4, sz5, sz6, sz7, sz8, sz9, sz10, sz11, sz12, is_non_int, is_non_bool, is_non_str, is_non_tuple, is_non_list, is_bl_int, is_bl_bool, is_bl_str, is_bl_tuple, is_bl_list, is_int_int, is_int_bool, is_int_str, is_int_tuple, is_int_list, is_str_int, is_str_bool, is_str_str, is_str_tuple, is_str_list, is_tup_int, is_tup_bool, is_tup_str, is_tup_tuple, is_tup_list, is_lst_int, is_lst_bool, is_lst_str, is_lst_tuple, is_lst_list, insV_at h, look_2, put_3]
  rfl
theorem env3_3' {a b : PV} : envZ 3 [a, b] = [some a, some b, none] := rfl
theorem words_one_of {n i : Nat} {ph : PH} {W : List (List Nat)} {w : List Nat} {cs : PV} (h : ph[n]? = some (wdO W i)) (hw : W[i]? = some w) (hin : inZ true ph (.str (S w)) cs = some (.bl false)) : m_Words_one_of [.loc n, cs] ph = .ok (.str (S w)) (ph.set n (wdO W (i + 1))) := by
  unfold m_Words_one_of
  refine dFn_rtS ?_ (by simp)
  rw [env3_3']
  unfold b_Words_one_of
  have e := words_peek h
  unfold pk at e
  rw [hw] at e
  have e2 := words_skip h
  unfold wdO at *
  simp only [sSeq, sIf, sRet, sRetN, sSet, sSetL, sRetL, sExpr, sNil, sUnp, sPar2, sPar3, sAug, mBin, mBinT, mUn, mCB, mTru, mAndT, mOrT, mNotT, mIf, mAndV, mOrV, mNotV, mNil, mCons, mTup, mLst, mCall, mCallK, mMeth, mMake, mFld, sSetFld, sAugFld, sSetIx, mChain, mChainT, mSl, oNone, oSome, mBM, eVar, eC, ok_bind, bad_bind, ok_st, nx_seq, rt_seq, bk_seq, ct_seq, ofO_some, List.getElem?_cons_zero, List.getElem?_cons_succ, List.set_cons_zero, List.set_cons_succ, List.length_cons, List.length_nil, List.append_nil, List.nil_append, List.cons_append, tgName, tgNil, tgCons, tgTup, setsE, List.foldl_cons, List.foldl_nil, List.map_cons, List.map_nil, tYesZ, wipeE, isNZ, PV.isN, Option.map_some, Option.bind_some, if_true, if_false, Bool.not_true, Bool.not_false, reduceIte, Bool.false_eq_true, permP, List.getD_cons_zero, List.getD_cons_succ, atI_0, atI_1, atI_2, atI_3, addZ_int, subZ_int, modZ_int, gtZ_int, ltZ_int, leZ_int, geZ_int, eqZ_int, neZ_int, intTyZ_int, truZ_bl, addI_int, maxZ_int, minZ_int, rb_bl, negZ_int, ixZ_tup, ixZ_lst, ixZ_scr, lenZ_tup, lenZ_lst, lenZ_scr, tupTyZ_lst, tupTyZ_tup, tyOk_str, Nat.reduceAdd, Nat.zero_add, lk0, lk1, lk2, lk3, lk4, lk5, lk6, lk7, lk8, lk9, lk10, lk11, lk12, and_self, and_true, true_and, Bool.and_true, Bool.true_and, Bool.and_self, Bool.or_false, Bool.false_or, cst0, cst1, cst2, cst3, cst4, cst5, cst6, cst7, cst8, cst9, cst10, cst11, cst12, sz0, sz1, sz2, sz3, sz4, sz5, sz6, sz7, sz8, sz9, sz10, sz11, sz12, is_non_int, is_non_bool, is_non_str, is_non_tuple, is_non_list, is_bl_int, is_bl_bool, is_bl_str, is_bl_tuple, is_bl_list, is_int_int, is_int_bool, is_int_str, is_int_tuple, is_int_list, is_str_int, is_str_bool, is_str_str, is_str_tuple, is_str_list, is_tup_int, is_tup_bool, is_tup_str, is_tup_tuple, is_tup_list, is_lst_int, is_lst_bool, is_lst_str, is_lst_tuple, is_lst_list, insV_at h, look_peek, look_skip, e, hin, e2]
theorem words_end {n i : Nat} {ph : PH} {W : List (List Nat)} (h : ph[n]? = some (wdO W i)) (hw : W.length ≤ i) : m_Words_end [.loc n] ph = .ok .non ph := by
  unfold m_Words_end
  refine dFn_nx (e := [some (.loc n)]) ?_
  rw [env1_1]
  unfold b_Words_end
  have e := words_peek h
  unfold pk at e
  rw [List.getElem?_eq_none_iff.mpr hw] at e
  unfold wdO at *
  simp only [sSeq, sIf, sRet, sRetN, sSet, sSetL, sRetL, sExpr, sNil, sUnp, sPar2, sPar3, sAug, mBin, mBinT, mUn, mCB, mTru, mAndT, mOrT, mNotT, mIf, mAndV, mOrV, mNotV, mNil, mCons, mTup, mLst, mCall, mCallK, mMeth, mMake, mFld, sSetFld, sAugFld, sSetIx, mChain, mChainT, mSl, oNone, oSome, mBM, eVar, eC, ok_bind, bad_bind, ok_st, nx_seq, rt_seq, bk_seq, ct_seq, ofO_some, List.getElem?_cons_zero, List.getElem?_cons_succ, List.set_cons_zero, List.set_cons_succ, List.length_cons, List.length_nil, List.append_nil, List.nil_append, List.cons_append, tgName, tgNil, tgCons, tgTup, setsE, List.foldl_cons, List.foldl_nil, List.map_cons, List.map_nil, tYesZ, wipeE, isNZ, PV.isN, Option.map_some, Option.bind_some, if_true, if_false, Bool.not_true, Bool.not_false, reduceIte, Bool.false_eq_true, permP, List.getD_cons_zero, List.getD_cons_succ, atI_0, atI_1, atI_2, atI_3, addZ_int, subZ_int, modZ_int, gtZ_int, ltZ_int, leZ_int, geZ_int, eqZ_int, neZ_int, intTyZ_int, truZ_bl, addI_int, maxZ_int, minZ_int, rb_bl, negZ_int, ixZ_tup, ixZ_lst, ixZ_scr, lenZ_tup, lenZ_lst, lenZ_scr, tupTyZ_lst, tupTyZ_tup, tyOk_str, Nat.reduceAdd, Nat.zero_add, lk0, lk1, lk2, lk3, lk4, lk5, lk6, lk7, lk8, lk9, lk10, lk11, lk12, and_self, and_true, true_and, Bool.and_true, Bool.true_and, Bool.and_self, Bool.or_false, Bool.false_or, cst0, cst1, cst2, cst3, cst4, cst5, cst6, cst7, cst8, cst9, cst10, cst11, cst12, sz0, sz1, sz2, sz3, sz4, sz5, sz6, sz7, sz8, sz9, sz10, sz11, sz12, is_non_int, is_non_bool, is_non_str, is_non_tuple, is_non_list, is_bl_int, is_bl_bool, is_bl_str, is_bl_tuple, is_bl_list, is_int_int, is_int_bool, is_int_str, is_int_tuple, is_int_list, is_str_int, is_str_bool, is_str_str, is_str_tuple, is_str_list, is_tup_int, is_tup_bool, is_tup_str, is_tup_tuple, is_tup_list, is_lst_int, is_lst_bool, is_lst_str, is_lst_tuple, is_lst_list, insV_at h, look_peek, e]

/-! routes -/
def lets : List Nat := [97, 98, 99, 100, 101, 102, 103, 104, 105, 106, 107, 108, 109, 110, 111, 112, 113, 114, 115, 116, 117, 118, 119, 120, 121, 122, 43]
theorem lets_ok : ∀ c ∈ lets, c < 0x110000 ∧ c ≠ 32 ∧ c ≠ 46 := by decide
def sgs (cs : List Nat) : List (List Nat) := cs.map fun c => [c]
def tupS (ws : List (List Nat)) : PV := .tup (ws.map fun w => .str (S w))
structure Rt (cs : List Nat) : Prop where
  len : cs.length ≤ 8
  mem : ∀ c ∈ cs, c ∈ lets
theorem Rt.sgs_ok {cs : List Nat} (r : Rt cs) : ∀ w ∈ sgs cs, OkT w := fun w hw c hc => by
  obtain ⟨d, hd, rfl⟩ := List.mem_map.mp hw
  simp at hc
  subst hc
  exact (lets_ok _ (r.mem _ hd)).1
def rtxt (cs : List Nat) : List Nat := if cs = [] then [46] else TL.joinL [32] (sgs cs)
theorem signs_of {vs : List PV} {P : Nat → Prop} (h : ∀ v ∈ vs, ∃ c, v = .str (S [c]) ∧ P c) : ∃ cs : List Nat, vs = (sgs cs).map (fun w => .str (S w)) ∧ cs.length = vs.length ∧ ∀ c ∈ cs, P c := by
  induction vs with
  | nil => exact ⟨[], rfl, rfl, fun _ h => absurd h List.not_mem_nil⟩
  | cons v vs ih =>
    obtain ⟨c, rfl, h1⟩ := h v List.mem_cons_self
    obtain ⟨cs, rfl, k1, k2⟩ := ih fun x hx => h x (List.mem_cons_of_mem _ hx)
    refine ⟨c :: cs, rfl, by simp at k1 ⊢; exact k1, fun x hx => ?_⟩
    rcases List.mem_cons.mp hx with rfl | hx
    · exact h1
    · exact k2 x hx
theorem law_route_ok {N l : Nat} {ph : PH} (u : U N l ph) (hN : N ≤ 10 ^ 5) : ∃ cs ph', m_law_route [.loc l] ph = .ok (tupS (sgs cs)) ph' ∧ Rt cs ∧ U (N + 12) l ph' ∧ Stp l ph ph' := by
  obtain ⟨r1, p1, a1, a2, a3, u1, s1⟩ := draw (m := 2) u (by omega) (by omega) (by omega)
  have hfew : ∃ fs : List Nat, ixZ p1 (.lst [.str (S [43, 97, 98, 99, 100, 101, 102, 103, 104, 105, 106, 107, 108, 109, 110, 111, 112, 113, 114, 115, 116, 117, 118, 119, 120, 121, 122]), .str (S [43, 97, 122])]) (.int r1) = some (.str (S fs)) ∧ 0 < fs.length ∧ fs.length < 100 ∧ ∀ c ∈ fs, c ∈ lets := by
    have : r1 = 0 ∨ r1 = 1 := by omega
    rcases this with rfl | rfl
    · exact ⟨_, rfl, by decide, by decide, by decide⟩
    · exact ⟨_, rfl, by decide, by decide, by decide⟩
  obtain ⟨fs, f1, f2, f3, f4⟩ := hfew
  obtain ⟨r2, p2, b1, b2, b3, u2, s2⟩ := draw (m := 9) u1 (by omega) (by omega) (by omega)
  have hlc : ∀ v1, ∃ vs p4, lc_law_route_0 [some (.loc l), v1, some (.str (S fs)), none] p1 = .ok (.lst vs) p4 ∧ vs.length = r2.toNat ∧ (∀ v ∈ vs, ∃ c, v = .str (S [c]) ∧ c ∈ lets) ∧ U (N + 2 + vs.length) l p4 ∧ Stp l p2 p4 := fun v1 => by
    unfold lc_law_route_0
    rw [mLC_ok (it := ⟨rngI 0 r2, []⟩) (ph1 := p2) (iRange1_ok (by simp only [sSeq, sIf, sRet, sRetN, sSet, sSetL, sRetL, sExpr, sNil, sUnp, sPar2, sPar3, sAug, mBin, mBinT, mUn, mCB, mTru, mAndT, mOrT, mNotT, mIf, mAndV, mOrV, mNotV, mNil, mCons, mTup, mLst, mCall, mCallK, mMeth, mMake, mFld, sSetFld, sAugFld, sSetIx, mChain, mChainT, mSl, oNone, oSome, mBM, eVar, eC, ok_bind, bad_bind, ok_st, nx_seq, rt_seq, bk_seq, ct_seq, ofO_some, List.getElem?_cons_zero, List.getElem?_cons_succ, List.set_cons_zero, List.set_cons_succ, List.length_cons, List.length_nil, List.append_nil, List.nil_append, List.cons_append, tgName, tgNil, tgCons, tgTup, setsE, List.foldl_cons, List.foldl_nil, List.map_cons, List.map_nil, tYesZ, wipeE, isNZ, PV.isN, Option.map_some, Option.bind_some, if_true, if_false, Bool.not_true, Bool.not_false, reduceIte, Bool.false_eq_true, permP, List.getD_cons_zero, List.getD_cons_succ, atI_0, atI_1, atI_2, atI_3, addZ_int, subZ_int, modZ_int, gtZ_int, ltZ_int, leZ_int, geZ_int, eqZ_int, neZ_int, intTyZ_int, truZ_bl, addI_int, maxZ_int, minZ_int, rb_bl, negZ_int, ixZ_tup, ixZ_lst, ixZ_scr, lenZ_tup, lenZ_lst, lenZ_scr, tupTyZ_lst, tupTyZ_tup, tyOk_str, Nat.reduceAdd, Nat.zero_add, lk0, lk1, lk2, lk3, lk4, lk5, lk6, lk7, lk8, lk9, lk10, lk11, lk12, and_self, and_true, true_and, Bool.and_true, Bool.true_and, Bool.and_self, Bool.or_false, Bool.false_or, cst0, cst1, cst2, cst3, cst4, cst5, cst6, cst7, cst8, cst9, cst10, cst11, cst12, sz0, sz1, sz2, sz3, sz4, sz5, sz6, sz7, sz8, sz9, sz10, sz11, sz12, is_non_int, is_non_bool, is_non_str, is_non_tuple, is_non_list, is_bl_int, is_bl_bool, is_bl_str, is_bl_tuple, is_bl_list, is_int_int, is_int_bool, is_int_str, is_int_tuple, is_int_list, is_str_int, is_str_bool, is_str_str, is_str_tuple, is_str_list, is_tup_int, is_tup_bool, is_tup_str, is_tup_tuple, is_tup_list, is_lst_int, is_lst_bool, is_lst_str, is_lst_tuple, is_lst_list, b1]) (by omega) (by omega)) (by rw [rngI_len]; omega)]
    obtain ⟨vs, p4, h1, h2, h3, h4, h5⟩ := lc_U (it := ⟨rngI 0 r2, []⟩) (g := tgName 3) (e := mBin ixZ (eVar 2) (mCall 2 (m_law_draw) [] (mCons (eVar 0) (mCons (mCB lenZ (mCons (eVar 2) (mNil))) (mNil))))) (w := wipeE [some (.loc l), v1, some (.str (S fs)), none] [3]) (P := fun v => ∃ c, v = .str (S [c]) ∧ c ∈ lets) rfl u2 (by rw [rngI_len]; omega) fun p _ n q hn uq => by
      obtain ⟨r, q', d1, d2, d3, d4, d5⟩ := draw (m := fs.length) uq hn (by omega) (by omega)
      have hk : r.toNat < fs.length := by omega
      have e1 : ixZ q' (.str (S fs)) (.int r) = some (.str (S [fs[r.toNat]])) := by
        have := ixZ_str (ph := q') (a := fs) (k := r.toNat) hk (by omega)
        rw [show ((r.toNat : Nat) : Int) = r from Int.toNat_of_nonneg d2] at this
        exact this
      exact ⟨[(3, p)], .str (S [fs[r.toNat]]), q', rfl, by simp only [sSeq, sIf, sRet, sRetN, sSet, sSetL, sRetL, sExpr, sNil, sUnp, sPar2, sPar3, sAug, mBin, mBinT, mUn, mCB, mTru, mAndT, mOrT, mNotT, mIf, mAndV, mOrV, mNotV, mNil, mCons, mTup, mLst, mCall, mCallK, mMeth, mMake, mFld, sSetFld, sAugFld, sSetIx, mChain, mChainT, mSl, oNone, oSome, mBM, eVar, eC, ok_bind, bad_bind, ok_st, nx_seq, rt_seq, bk_seq, ct_seq, ofO_some, List.getElem?_cons_zero, List.getElem?_cons_succ, List.set_cons_zero, List.set_cons_succ, List.length_cons, List.length_nil, List.append_nil, List.nil_append, List.cons_append, tgName, tgNil, tgCons, tgTup, setsE, List.foldl_cons, List.foldl_nil, List.map_cons, List.map_nil, tYesZ, wipeE, isNZ, PV.isN, Option.map_some, Option.bind_some, if_true, if_false, Bool.not_true, Bool.not_false, reduceIte, Bool.false_eq_true, permP, List.getD_cons_zero, List.getD_cons_succ, atI_0, atI_1, atI_2, atI_3, addZ_int, subZ_int, modZ_int, gtZ_int, ltZ_int, leZ_int, geZ_int, eqZ_int, neZ_int, intTyZ_int, truZ_bl, addI_int, maxZ_int, minZ_int, rb_bl, negZ_int, ixZ_tup, ixZ_lst, ixZ_scr, lenZ_tup, lenZ_lst, lenZ_scr, tupTyZ_lst, tupTyZ_tup, tyOk_str, Nat.reduceAdd, Nat.zero_add, lk0, lk1, lk2, lk3, lk4, lk5, lk6, lk7, lk8, lk9, lk10, lk11, lk12, and_self, and_true, true_and, Bool.and_true, Bool.true_and, Bool.and_self, Bool.or_false, Bool.false_or, cst0, cst1, cst2, cst3, cst4, cst5, cst6, cst7, cst8, cst9, cst10, cst11, cst12, sz0, sz1, sz2, sz3, sz4, sz5, sz6, sz7, sz8, sz9, sz10, sz11, sz12, is_non_int, is_non_bool, is_non_str, is_non_tuple, is_non_list, is_bl_int, is_bl_bool, is_bl_str, is_bl_tuple, is_bl_list, is_int_int, is_int_bool, is_int_str, is_int_tuple, is_int_list, is_str_int, is_str_bool, is_str_str, is_str_tuple, is_str_list, is_tup_int, is_tup_bool, is_tup_str, is_tup_tuple, is_tup_list, is_lst_int, is_lst_bool, is_lst_str, is_lst_tuple, is_lst_list, lenZ_str (show fs.length ≤ 10000 by omega), d1, e1], ⟨_, rfl, f4 _ (List.getElem_mem hk)⟩, d4, d5⟩
    simp only [rngI_len] at h2 h4
    exact ⟨vs, p4, h1, h2, h3, by rw [h2]; exact h4, h5⟩
  obtain ⟨vs, p4, e1, e2, e3, u4, s4⟩ := hlc (some (.str (S [43, 97, 98, 99, 100, 101, 102, 103, 104, 105, 106, 107, 108, 109, 110, 111, 112, 113, 114, 115, 116, 117, 118, 119, 120, 121, 122])))
  obtain ⟨cs, rfl, w1, w2⟩ := signs_of e3
  have st := (s1.trans s2).trans s4
  refine ⟨cs, p4, ?_, ⟨by omega, w2⟩, u4.mono (by omega), st⟩
  unfold m_law_route
  refine dFn_rtS ?_ st.len
  rw [env1_4]
  unfold b_law_route
  simp only [lit_0, lit_1, lit_2, lit_3, lit_4, lit_5, lit_6, lit_7, lit_8, lit_9, lit_10, lit_11, lit_12, lit_13, lit_14, lit_15]
  simp only [sSeq, sIf, sRet, sRetN, sSet, sSetL, sRetL, sExpr, sNil, sUnp, sPar2, sPar3, sAug, mBin, mBinT, mUn, mCB, mTru, mAndT, mOrT, mNotT, mIf, mAndV, mOrV, mNotV, mNil, mCons, mTup, mLst, mCall, mCallK, mMeth, mMake, mFld, sSetFld, sAugFld, sSetIx, mChain, mChainT, mSl, oNone, oSome, mBM, eVar, eC, ok_bind, bad_bind, ok_st, nx_seq, rt_seq, bk_seq, ct_seq, ofO_some, List.getElem?_cons_zero, List.getElem?_cons_succ, List.set_cons_zero, List.set_cons_succ, List.length_cons, List.length_nil, List.append_nil, List.nil_append, List.cons_append, tgName, tgNil, tgCons, tgTup, setsE, List.foldl_cons, List.foldl_nil, List.map_cons, List.map_nil, tYesZ, wipeE, isNZ, PV.isN, Option.map_some, Option.bind_some, if_true, if_false, Bool.not_true, Bool.not_false, reduceIte, Bool.false_eq_true, permP, List.getD_cons_zero, List.getD_cons_succ, atI_0, atI_1, atI_2, atI_3, addZ_int, subZ_int, modZ_int, gtZ_int, ltZ_int, leZ_int, geZ_int, eqZ_int, neZ_int, intTyZ_int, truZ_bl, addI_int, maxZ_int, minZ_int, rb_bl, negZ_int, ixZ_tup, ixZ_lst, ixZ_scr, lenZ_tup, lenZ_lst, lenZ_scr, tupTyZ_lst, tupTyZ_tup, tyOk_str, Nat.reduceAdd, Nat.zero_add, lk0, lk1, lk2, lk3, lk4, lk5, lk6, lk7, lk8, lk9, lk10, lk11, lk12, and_self, and_true, true_and, Bool.and_true, Bool.true_and, Bool.and_self, Bool.or_false, Bool.false_or, cst0, cst1, cst2, cst3, cst4, cst5, cst6, cst7, cst8, cst9, cst10, cst11, cst12, sz0, sz1, sz2, sz3, sz4, sz5, sz6, sz7, sz8, sz9, sz10, sz11, sz12, is_non_int, is_non_bool, is_non_str, is_non_tuple, is_non_list, is_bl_int, is_bl_bool, is_bl_str, is_bl_tuple, is_bl_list, is_int_int, is_int_bool, is_int_str, is_int_tuple, is_int_list, is_str_int, is_str_bool, is_str_str, is_str_tuple, is_str_list, is_tup_int, is_tup_bool, is_tup_str, is_tup_tuple, is_tup_list, is_lst_int, is_lst_bool, is_lst_str, is_lst_tuple, is_lst_list, a1, f1, e1]
  rfl
theorem show_route_ok {cs : List Nat} {ph : PH} (r : Rt cs) : m_show_route [tupS (sgs cs)] ph = .ok (.str (S (rtxt cs))) ph := by
  unfold m_show_route
  refine dFn_rt ?_
  rw [env1_1]
  unfold b_show_route
  simp only [lit_0, lit_1, lit_2, lit_3, lit_4, lit_5, lit_6, lit_7, lit_8, lit_9, lit_10, lit_11, lit_12, lit_13, lit_14, lit_15]
  have hl := r.len
  have e1 : eqZ true ph (tupS (sgs cs)) (.tup []) = some (.bl (!decide (sgs cs = []))) := eqZ_strs (neg := true) (vs := []) r.sgs_ok (fun _ h => absurd h List.not_mem_nil)
  have e2 : joinZ ph (.str (S [32])) [tupS (sgs cs)] = some (.str (S (TL.joinL [32] (sgs cs))), ph) := joinZ_S rfl (by rw [sgs, sum_ones]; simp; omega)
  by_cases hc : cs = []
  · subst hc
    have h0 : decide (sgs ([] : List Nat) = []) = true := rfl
    have h1 : rtxt [] = [46] := rfl
    simp only [sSeq, sIf, sRet, sRetN, sSet, sSetL, sRetL, sExpr, sNil, sUnp, sPar2, sPar3, sAug, mBin, mBinT, mUn, mCB, mTru, mAndT, mOrT, mNotT, mIf, mAndV, mOrV, mNotV, mNil, mCons, mTup, mLst, mCall, mCallK, mMeth, mMake, mFld, sSetFld, sAugFld, sSetIx, mChain, mChainT, mSl, oNone, oSome, mBM, eVar, eC, ok_bind, bad_bind, ok_st, nx_seq, rt_seq, bk_seq, ct_seq, ofO_some, List.getElem?_cons_zero, List.getElem?_cons_succ, List.set_cons_zero, List.set_cons_succ, List.length_cons, List.length_nil, List.append_nil, List.nil_append, List.cons_append, tgName, tgNil, tgCons, tgTup, setsE, List.foldl_cons, List.foldl_nil, List.map_cons, List.map_nil, tYesZ, wipeE, isNZ, PV.isN, Option.map_some, Option.bind_some, if_true, if_false, Bool.not_true, Bool.not_false, reduceIte, Bool.false_eq_true, permP, List.getD_cons_zero, List.getD_cons_succ, atI_0, atI_1, atI_2, atI_3, addZ_int, subZ_int, modZ_int, gtZ_int, ltZ_int, leZ_int, geZ_int, eqZ_int, neZ_int, intTyZ_int, truZ_bl, addI_int, maxZ_int, minZ_int, rb_bl, negZ_int, ixZ_tup, ixZ_lst, ixZ_scr, lenZ_tup, lenZ_lst, lenZ_scr, tupTyZ_lst, tupTyZ_tup, tyOk_str, Nat.reduceAdd, Nat.zero_add, lk0, lk1, lk2, lk3, lk4, lk5, lk6, lk7, lk8, lk9, lk10, lk11, lk12, and_self, and_true, true_and, Bool.and_true, Bool.true_and, Bool.and_self, Bool.or_false, Bool.false_or, cst0, cst1, cst2, cst3, cst4, cst5, cst6, cst7, cst8, cst9, cst10, cst11, cst12, sz0, sz1, sz2, sz3, sz4, sz5, sz6, sz7, sz8, sz9, sz10, sz11, sz12, is_non_int, is_non_bool, is_non_str, is_non_tuple, is_non_list, is_bl_int, is_bl_bool, is_bl_str, is_bl_tuple, is_bl_list, is_int_int, is_int_bool, is_int_str, is_int_tuple, is_int_list, is_str_int, is_str_bool, is_str_str, is_str_tuple, is_str_list, is_tup_int, is_tup_bool, is_tup_str, is_tup_tuple, is_tup_list, is_lst_int, is_lst_bool, is_lst_str, is_lst_tuple, is_lst_list, e1, h0, h1]
  · have : ¬ sgs cs = [] := by simpa [sgs] using hc
    simp only [sSeq, sIf, sRet, sRetN, sSet, sSetL, sRetL, sExpr, sNil, sUnp, sPar2, sPar3, sAug, mBin, mBinT, mUn, mCB, mTru, mAndT, mOrT, mNotT, mIf, mAndV, mOrV, mNotV, mNil, mCons, mTup, mLst, mCall, mCallK, mMeth, mMake, mFld, sSetFld, sAugFld, sSetIx, mChain, mChainT, mSl, oNone, oSome, mBM, eVar, eC, ok_bind, bad_bind, ok_st, nx_seq, rt_seq, bk_seq, ct_seq, ofO_some, List.getElem?_cons_zero, List.getElem?_cons_succ, List.set_cons_zero, List.set_cons_succ, List.length_cons, List.length_nil, List.append_nil, List.nil_append, List.cons_append, tgName, tgNil, tgCons, tgTup, setsE, List.foldl_cons, List.foldl_nil, List.map_cons, List.map_nil, tYesZ, wipeE, isNZ, PV.isN, Option.map_some, Option.bind_some, if_true, if_false, Bool.not_true, Bool.not_false, reduceIte, Bool.false_eq_true, permP, List.getD_cons_zero, List.getD_cons_succ, atI_0, atI_1, atI_2, atI_3, addZ_int, subZ_int, modZ_int, gtZ_int, ltZ_int, leZ_int, geZ_int, eqZ_int, neZ_int, intTyZ_int, truZ_bl, addI_int, maxZ_int, minZ_int, rb_bl, negZ_int, ixZ_tup, ixZ_lst, ixZ_scr, lenZ_tup, lenZ_lst, lenZ_scr, tupTyZ_lst, tupTyZ_tup, tyOk_str, Nat.reduceAdd, Nat.zero_add, lk0, lk1, lk2, lk3, lk4, lk5, lk6, lk7, lk8, lk9, lk10, lk11, lk12, and_self, and_true, true_and, Bool.and_true, Bool.true_and, Bool.and_self, Bool.or_false, Bool.false_or, cst0, cst1, cst2, cst3, cst4, cst5, cst6, cst7, cst8, cst9, cst10, cst11, cst12, sz0, sz1, sz2, sz3, sz4, sz5, sz6, sz7, sz8, sz9, sz10, sz11, sz12, is_non_int, is_non_bool, is_non_str, is_non_tuple, is_non_list, is_bl_int, is_bl_bool, is_bl_str, is_bl_tuple, is_bl_list, is_int_int, is_int_bool, is_int_str, is_int_tuple, is_int_list, is_str_int, is_str_bool, is_str_str, is_str_tuple, is_str_list, is_tup_int, is_tup_bool, is_tup_str, is_tup_tuple, is_tup_list, is_lst_int, is_lst_bool, is_lst_str, is_lst_tuple, is_lst_list, e1, e2, this, decide_false, rtxt, hc]

theorem wd_cl {W : List (List Nat)} {i k : Nat} : (wdO W i).cl k = true := by
  simp [wdO, PO.cl, PV.clL, PV.cl, strsP, clL_strs]
/-- the letters are taken one after another -/
theorem route_loop {cs : List Nat} (r : Rt cs) {n L : Nat} : ∀ (m i : Nat) (ph : PH), cs.length = i + m → ph.length = L → ph[n]? = some (wdO (sgs cs) i) → ∀ k, m < k →
    whZ (mAndT (mBinT (inZ false) (mMeth "Words" "peek" 1 (m_Words_peek) [] (eVar 0) mNil) (eVar 1)) (mBinT ltZ (mCB lenZ (mCons (eVar 2) (mNil))) (eC (.int 8)))) (sExpr (mBM "list" appendZ (eVar 2) (mCons (mMeth "Words" "one_of" 2 (m_Words_one_of) [] (eVar 0) (mCons (eVar 1) (mNil))) (mNil)))) k
      [some (.loc n), some (tupS (sgs lets)), some (.loc L)] (ph ++ [.lst ((sgs (cs.take i)).map fun w => .str (S w))]) = .nx [some (.loc n), some (tupS (sgs lets)), some (.loc L)] (ph.set n (wdO (sgs cs) cs.length) ++ [.lst ((sgs cs).map fun w => .str (S w))]) := by
  have hlen := r.len
  have ol : ∀ w ∈ sgs lets, OkT w := fun w hw c hc => by
    obtain ⟨d, hd, rfl⟩ := List.mem_map.mp hw
    simp at hc
    subst hc
    exact (lets_ok _ hd).1
  intro m
  induction m with
  | zero =>
    intro i ph h1 hL h2 k hk
    subst hL
    cases k with
    | zero => omega
    | succ k =>
      have hi : i = cs.length := by omega
      subst hi
      have h3 := app_l (o := .lst ((sgs (cs.take cs.length)).map fun w => .str (S w))) h2
      have e := words_peek h3
      unfold pk at e
      rw [List.getElem?_eq_none_iff.mpr (by simp [sgs])] at e
      have h4 := h3
      unfold wdO at h4
      rw [wh_stop (ph1 := ph ++ [.lst ((sgs (cs.take cs.length)).map fun w => .str (S w))])]
      · rw [List.take_length]
        congr 2
        apply List.ext_getElem?
        intro j
        by_cases hj : n = j
        · subst hj
          rw [h2, List.getElem?_set_self (List.getElem?_eq_some_iff.mp h2).1]
        · rw [List.getElem?_set_ne hj]
      · have e2 := inZ_non (ph := ph ++ [.lst ((sgs (cs.take cs.length)).map fun w => .str (S w))]) (neg := false) ol
        unfold tupS
        simp only [sSeq, sIf, sRet, sRetN, sSet, sSetL, sRetL, sExpr, sNil, sUnp, sPar2, sPar3, sAug, mBin, mBinT, mUn, mCB, mTru, mAndT, mOrT, mNotT, mIf, mAndV, mOrV, mNotV, mNil, mCons, mTup, mLst, mCall, mCallK, mMeth, mMake, mFld, sSetFld, sAugFld, sSetIx, mChain, mChainT, mSl, oNone, oSome, mBM, eVar, eC, ok_bind, bad_bind, ok_st, nx_seq, rt_seq, bk_seq, ct_seq, ofO_some, List.getElem?_cons_zero, List.getElem?_cons_succ, List.set_cons_zero, List.set_cons_succ, List.length_cons, List.length_nil, List.append_nil, List.nil_append, List.cons_append, tgName, tgNil, tgCons, tgTup, setsE, List.foldl_cons, List.foldl_nil, List.map_cons, List.map_nil, tYesZ, wipeE, isNZ, PV.isN, Option.map_some, Option.bind_some, if_true, if_false, Bool.not_true, Bool.not_false, reduceIte, Bool.false_eq_true, permP, List.getD_cons_zero, List.getD_cons_succ, atI_0, atI_1, atI_2, atI_3, addZ_int, subZ_int, modZ_int, gtZ_int, ltZ_int, leZ_int, geZ_int, eqZ_int, neZ_int, intTyZ_int, truZ_bl, addI_int, maxZ_int, minZ_int, rb_bl, negZ_int, ixZ_tup, ixZ_lst, ixZ_scr, lenZ_tup, lenZ_lst, lenZ_scr, tupTyZ_lst, tupTyZ_tup, tyOk_str, Nat.reduceAdd, Nat.zero_add, lk0, lk1, lk2, lk3, lk4, lk5, lk6, lk7, lk8, lk9, lk10, lk11, lk12, and_self, and_true, true_and, Bool.and_true, Bool.true_and, Bool.and_self, Bool.or_false, Bool.false_or, cst0, cst1, cst2, cst3, cst4, cst5, cst6, cst7, cst8, cst9, cst10, cst11, cst12, sz0, sz1, sz2, sz3, sz4, sz5, sz6, sz7, sz8, sz9, sz10, sz11, sz12, is_non_int, is_non_bool, is_non_str, is_non_tuple, is_non_list, is_bl_int, is_bl_bool, is_bl_str, is_bl_tuple, is_bl_list, is_int_int, is_int_bool, is_int_str, is_int_tuple, is_int_list, is_str_int, is_str_bool, is_str_str, is_str_tuple, is_str_list, is_tup_int, is_tup_bool, is_tup_str, is_tup_tuple, is_tup_list, is_lst_int, is_lst_bool, is_lst_str, is_lst_tuple, is_lst_list, insV_at h4, look_peek, e, e2]
  | succ m ih =>
    intro i ph h1 hL h2 k hk
    subst hL
    cases k with
    | zero => omega
    | succ k =>
      have hi : i < cs.length := by omega
      have h3 := app_l (o := .lst ((sgs (cs.take i)).map fun w => .str (S w))) h2
      have hw : (sgs cs)[i]? = some [cs[i]] := by simp [sgs, hi]
      have e := words_peek h3
      unfold pk at e
      rw [hw] at e
      have h4 := h3
      unfold wdO at h4
      have hm : cs[i] ∈ lets := r.mem _ (List.getElem_mem hi)
      have hm2 : [cs[i]] ∈ sgs lets := List.mem_map.mpr ⟨_, hm, rfl⟩
      have ok1 : OkT [cs[i]] := ol _ hm2
      have i1 : ∀ q : PH, inZ false q (.str (S [cs[i]])) (.tup ((sgs lets).map fun w => .str (S w))) = some (.bl true) := fun q => by
        rw [inZ_strs ok1 ol]; simp [hm2]
      have i2 : ∀ q : PH, inZ true q (.str (S [cs[i]])) (.tup ((sgs lets).map fun w => .str (S w))) = some (.bl false) := fun q => by
        rw [inZ_strs ok1 ol]; simp [hm2]
      have e3 := words_one_of h3 hw (i2 _)
      rw [app_setl h2] at e3
      have e4 : lenZ (ph ++ [.lst ((sgs (cs.take i)).map fun w => .str (S w))]) [.loc ph.length] = some (.int i) := by
        rw [lenZ_loc app_r]
        simp [sgs]; omega
      have hset : ph.length = (ph.set n (wdO (sgs cs) (i + 1))).length := by simp
      have e5 : appendZ (ph.set n (wdO (sgs cs) (i + 1)) ++ [.lst ((sgs (cs.take i)).map fun w => .str (S w))]) (.loc ph.length) [.str (S [cs[i]])] = some (.non, ph.set n (wdO (sgs cs) (i + 1)) ++ [.lst ((sgs (cs.take (i + 1))).map fun w => .str (S w))]) := by
        have hx : (sgs (cs.take i)).map (fun w => PV.str (S w)) ++ [PV.str (S [cs[i]])] = (sgs (cs.take (i + 1))).map fun w => PV.str (S w) := by
          rw [List.take_succ_eq_append_getElem hi]
          unfold sgs
          rw [List.map_append, List.map_append]
          rfl
        rw [hset, appendZ_at app_r (by simp [sgs]; omega), app_setr, hx]
      have e6 : tyOk "list" (ph ++ [.lst ((sgs (cs.take i)).map fun w => .str (S w))]) (.loc ph.length) = true := tyOk_lst app_r
      rw [wh_go (ph1 := ph ++ [.lst ((sgs (cs.take i)).map fun w => .str (S w))]) (e := [some (.loc n), some (tupS (sgs lets)), some (.loc ph.length)]) (ph2 := ph.set n (wdO (sgs cs) (i + 1)) ++ [.lst ((sgs (cs.take (i + 1))).map fun w => .str (S w))])]
      · rw [ih (i + 1) (ph.set n (wdO (sgs cs) (i + 1))) (by omega) (by simp) (put_get h2) k (by omega), set_twice]
      · unfold tupS
        simp only [sSeq, sIf, sRet, sRetN, sSet, sSetL, sRetL, sExpr, sNil, sUnp, sPar2, sPar3, sAug, mBin, mBinT, mUn, mCB, mTru, mAndT, mOrT, mNotT, mIf, mAndV, mOrV, mNotV, mNil, mCons, mTup, mLst, mCall, mCallK, mMeth, mMake, mFld, sSetFld, sAugFld, sSetIx, mChain, mChainT, mSl, oNone, oSome, mBM, eVar, eC, ok_bind, bad_bind, ok_st, nx_seq, rt_seq, bk_seq, ct_seq, ofO_some, List.getElem?_cons_zero, List.getElem?_cons_succ, List.set_cons_zero, List.set_cons_succ, List.length_cons, List.length_nil, List.append_nil, List.nil_append, List.cons_append, tgName, tgNil, tgCons, tgTup, setsE, List.foldl_cons, List.foldl_nil, List.map_cons, List.map_nil, tYesZ, wipeE, isNZ, PV.isN, Option.map_some, Option.bind_some, if_true, if_false, Bool.not_true, Bool.not_false, reduceIte, Bool.false_eq_true, permP, List.getD_cons_zero, List.getD_cons_succ, atI_0, atI_1, atI_2, atI_3, addZ_int, subZ_int, modZ_int, gtZ_int, ltZ_int, leZ_int, geZ_int, eqZ_int, neZ_int, intTyZ_int, truZ_bl, addI_int, maxZ_int, minZ_int, rb_bl, negZ_int, ixZ_tup, ixZ_lst, ixZ_scr, lenZ_tup, lenZ_lst, lenZ_scr, tupTyZ_lst, tupTyZ_tup, tyOk_str, Nat.reduceAdd, Nat.zero_add, lk0, lk1, lk2, lk3, lk4, lk5, lk6, lk7, lk8, lk9, lk10, lk11, lk12, and_self, and_true, true_and, Bool.and_true, Bool.true_and, Bool.and_self, Bool.or_false, Bool.false_or, cst0, cst1, cst2, cst3, cst4, cst5, cst6, cst7, cst8, cst9, cst10, cst11, cst12, sz0, sz1, sz2, sz3, sz4, sz5, sz6, sz7, sz8, sz9, sz10, sz11, sz12, is_non_int, is_non_bool, is_non_str, is_non_tuple, is_non_list, is_bl_int, is_bl_bool, is_bl_str, is_bl_tuple, is_bl_list, is_int_int, is_int_bool, is_int_str, is_int_tuple, is_int_list, is_str_int, is_str_bool, is_str_str, is_str_tuple, is_str_list, is_tup_int, is_tup_bool, is_tup_str, is_tup_tuple, is_tup_list, is_lst_int, is_lst_bool, is_lst_str, is_lst_tuple, is_lst_list, insV_at h4, look_peek, e, i1, e4, show decide ((i : Int) < 8) = true from decide_eq_true (by omega)]
      · unfold tupS at *
        simp only [sSeq, sIf, sRet, sRetN, sSet, sSetL, sRetL, sExpr, sNil, sUnp, sPar2, sPar3, sAug, mBin, mBinT, mUn, mCB, mTru, mAndT, mOrT, mNotT, mIf, mAndV, mOrV, mNotV, mNil, mCons, mTup, mLst, mCall, mCallK, mMeth, mMake, mFld, sSetFld, sAugFld, sSetIx, mChain, mChainT, mSl, oNone, oSome, mBM, eVar, eC, ok_bind, bad_bind, ok_st, nx_seq, rt_seq, bk_seq, ct_seq, ofO_some, List.getElem?_cons_zero, List.getElem?_cons_succ, List.set_cons_zero, List.set_cons_succ, List.length_cons, List.length_nil, List.append_nil, List.nil_append, List.cons_append, tgName, tgNil, tgCons, tgTup, setsE, List.foldl_cons, List.foldl_nil, List.map_cons, List.map_nil, tYesZ, wipeE, isNZ, PV.isN, Option.map_some, Option.bind_some, if_true, if_false, Bool.not_true, Bool.not_false, reduceIte, Bool.false_eq_true, permP, List.getD_cons_zero, List.getD_cons_succ, atI_0, atI_1, atI_2, atI_3, addZ_int, subZ_int, modZ_int, gtZ_int, ltZ_int, leZ_int, geZ_int, eqZ_int, neZ_int, intTyZ_int, truZ_bl, addI_int, maxZ_int, minZ_int, rb_bl, negZ_int, ixZ_tup, ixZ_lst, ixZ_scr, lenZ_tup, lenZ_lst, lenZ_scr, tupTyZ_lst, tupTyZ_tup, tyOk_str, Nat.reduceAdd, Nat.zero_add, lk0, lk1, lk2, lk3, lk4, lk5, lk6, lk7, lk8, lk9, lk10, lk11, lk12, and_self, and_true, true_and, Bool.and_true, Bool.true_and, Bool.and_self, Bool.or_false, Bool.false_or, cst0, cst1, cst2, cst3, cst4, cst5, cst6, cst7, cst8, cst9, cst10, cst11, cst12, sz0, sz1, sz2, sz3, sz4, sz5, sz6, sz7, sz8, sz9, sz10, sz11, sz12, is_non_int, is_non_bool, is_non_str, is_non_tuple, is_non_list, is_bl_int, is_bl_bool, is_bl_str, is_bl_tuple, is_bl_list, is_int_int, is_int_bool, is_int_str, is_int_tuple, is_int_list, is_str_int, is_str_bool, is_str_str, is_str_tuple, is_str_list, is_tup_int, is_tup_bool, is_tup_str, is_tup_tuple, is_tup_list, is_lst_int, is_lst_bool, is_lst_str, is_lst_tuple, is_lst_list, insV_at h4, look_one_of, e3, e5, e6]

theorem cl_tupS {k : Nat} {ws : List (List Nat)} : (tupS ws).cl k = true := by
  unfold tupS
  rw [PV.cl]
  exact clL_strs k ws
theorem next_route_ok {cs : List Nat} (r : Rt cs) {n : Nat} {ph : PH} {W : List (List Nat)} (hW : W = if cs = [] then [[46]] else sgs cs) (h : ph[n]? = some (wdO W 0)) : m_next_route [.loc n, tupS (sgs lets)] ph = .ok (tupS (sgs cs)) (ph.set n (wdO W W.length)) := by
  have hlen := r.len
  have ol : ∀ w ∈ sgs lets, OkT w := fun w hw c hc => by
    obtain ⟨d, hd, rfl⟩ := List.mem_map.mp hw
    simp at hc
    subst hc
    exact (lets_ok _ hd).1
  unfold m_next_route
  rw [show dFn 3 b_next_route = dFn 3 b_next_route from rfl]
  have e := words_peek h
  unfold pk at e
  have h4 := h
  unfold wdO at h4
  by_cases hc : cs = []
  · subst hc
    have hW' : W = [[46]] := hW
    subst hW'
    have e2 := words_skip h
    refine dFn_tail (tl := []) ?_ (by simp) (fun k z => nomatch z) cl_tupS (ho_set wd_cl)
    rw [env3_3', List.append_nil]
    unfold b_next_route
    simp only [lit_0, lit_1, lit_2, lit_3, lit_4, lit_5, lit_6, lit_7, lit_8, lit_9, lit_10, lit_11, lit_12, lit_13, lit_14, lit_15]
    have ok46 : ∀ c ∈ [46], c < 0x110000 := by decide
    have e1 : m_Words_peek [.loc n] ph = .ok (.str (S [46])) ph := e
    simp only [sSeq, sIf, sRet, sRetN, sSet, sSetL, sRetL, sExpr, sNil, sUnp, sPar2, sPar3, sAug, mBin, mBinT, mUn, mCB, mTru, mAndT, mOrT, mNotT, mIf, mAndV, mOrV, mNotV, mNil, mCons, mTup, mLst, mCall, mCallK, mMeth, mMake, mFld, sSetFld, sAugFld, sSetIx, mChain, mChainT, mSl, oNone, oSome, mBM, eVar, eC, ok_bind, bad_bind, ok_st, nx_seq, rt_seq, bk_seq, ct_seq, ofO_some, List.getElem?_cons_zero, List.getElem?_cons_succ, List.set_cons_zero, List.set_cons_succ, List.length_cons, List.length_nil, List.append_nil, List.nil_append, List.cons_append, tgName, tgNil, tgCons, tgTup, setsE, List.foldl_cons, List.foldl_nil, List.map_cons, List.map_nil, tYesZ, wipeE, isNZ, PV.isN, Option.map_some, Option.bind_some, if_true, if_false, Bool.not_true, Bool.not_false, reduceIte, Bool.false_eq_true, permP, List.getD_cons_zero, List.getD_cons_succ, atI_0, atI_1, atI_2, atI_3, addZ_int, subZ_int, modZ_int, gtZ_int, ltZ_int, leZ_int, geZ_int, eqZ_int, neZ_int, intTyZ_int, truZ_bl, addI_int, maxZ_int, minZ_int, rb_bl, negZ_int, ixZ_tup, ixZ_lst, ixZ_scr, lenZ_tup, lenZ_lst, lenZ_scr, tupTyZ_lst, tupTyZ_tup, tyOk_str, Nat.reduceAdd, Nat.zero_add, lk0, lk1, lk2, lk3, lk4, lk5, lk6, lk7, lk8, lk9, lk10, lk11, lk12, and_self, and_true, true_and, Bool.and_true, Bool.true_and, Bool.and_self, Bool.or_false, Bool.false_or, cst0, cst1, cst2, cst3, cst4, cst5, cst6, cst7, cst8, cst9, cst10, cst11, cst12, sz0, sz1, sz2, sz3, sz4, sz5, sz6, sz7, sz8, sz9, sz10, sz11, sz12, is_non_int, is_non_bool, is_non_str, is_non_tuple, is_non_list, is_bl_int, is_bl_bool, is_bl_str, is_bl_tuple, is_bl_list, is_int_int, is_int_bool, is_int_str, is_int_tuple, is_int_list, is_str_int, is_str_bool, is_str_str, is_str_tuple, is_str_list, is_tup_int, is_tup_bool, is_tup_str, is_tup_tuple, is_tup_list, is_lst_int, is_lst_bool, is_lst_str, is_lst_tuple, is_lst_list, insV_at h4, look_peek, look_skip, e1, eqZ_str ok46 ok46, e2, decide_true]
    rfl
  · rw [if_neg hc] at hW
    subst hW
    have hp : 0 < cs.length := by cases cs with | nil => exact absurd rfl hc | cons => simp
    have hw : (sgs cs)[0]? = some [cs[0]] := by simp [sgs, hp]
    rw [hw] at e
    have e1 : m_Words_peek [.loc n] ph = .ok (.str (S [cs[0]])) ph := e
    have hm : cs[0] ∈ lets := r.mem _ (List.getElem_mem hp)
    obtain ⟨m1, m2, m3⟩ := lets_ok _ hm
    have hm2 : [cs[0]] ∈ sgs lets := List.mem_map.mpr ⟨_, hm, rfl⟩
    have ok1 : ∀ c ∈ [cs[0]], c < 0x110000 := fun c hc => by simp at hc; omega
    have ok46 : ∀ c ∈ [46], c < 0x110000 := by decide
    have i2 : ∀ q : PH, inZ true q (.str (S [cs[0]])) (.tup ((sgs lets).map fun w => .str (S w))) = some (.bl false) := fun q => by
      rw [inZ_strs ok1 ol]; simp [hm2]
    have e3 := words_one_of h hw (i2 _)
    have hl1 : (ph.set n (wdO (sgs cs) (0 + 1))).length = ph.length := by simp
    have e5 := route_loop r (n := n) (L := ph.length) (cs.length - 1) 1 (ph.set n (wdO (sgs cs) (0 + 1))) (by omega) hl1 (put_get h) 12 (by omega)
    have e6 : (sgs (cs.take 1)).map (fun w => PV.str (S w)) = [.str (S [cs[0]])] := by
      cases cs with
      | nil => exact absurd rfl hc
      | cons c cs => simp [sgs]
    rw [set_twice, e6] at e5
    have hs : (sgs cs).length = cs.length := by simp [sgs]
    refine dFn_tail (tl := [.lst ((sgs cs).map fun w => .str (S w))]) ?_ (by simp) (fun k z => nomatch z) cl_tupS (ho_set wd_cl)
    rw [env3_3']
    unfold b_next_route wh_next_route_0 sWhile
    simp only [lit_0, lit_1, lit_2, lit_3, lit_4, lit_5, lit_6, lit_7, lit_8, lit_9, lit_10, lit_11, lit_12, lit_13, lit_14, lit_15]
    have e7 : tupTyZ (ph.set n (wdO (sgs cs) cs.length) ++ [.lst ((sgs cs).map fun w => .str (S w))]) [.loc ph.length] = some (tupS (sgs cs)) := by
      have := tupTyZ_loc (app_r (ph := ph.set n (wdO (sgs cs) cs.length)) (o := .lst ((sgs cs).map fun w => .str (S w))))
      rw [List.length_set] at this
      exact this
    unfold tupS at *
    have h46 : decide ([cs[0]] = [46]) = false := decide_eq_false (by simpa using m3)
    simp only [sSeq, sIf, sRet, sRetN, sSet, sSetL, sRetL, sExpr, sNil, sUnp, sPar2, sPar3, sAug, mBin, mBinT, mUn, mCB, mTru, mAndT, mOrT, mNotT, mIf, mAndV, mOrV, mNotV, mNil, mCons, mTup, mLst, mCall, mCallK, mMeth, mMake, mFld, sSetFld, sAugFld, sSetIx, mChain, mChainT, mSl, oNone, oSome, mBM, eVar, eC, ok_bind, bad_bind, ok_st, nx_seq, rt_seq, bk_seq, ct_seq, ofO_some, List.getElem?_cons_zero, List.getElem?_cons_succ, List.set_cons_zero, List.set_cons_succ, List.length_cons, List.length_nil, List.append_nil, List.nil_append, List.cons_append, tgName, tgNil, tgCons, tgTup, setsE, List.foldl_cons, List.foldl_nil, List.map_cons, List.map_nil, tYesZ, wipeE, isNZ, PV.isN, Option.map_some, Option.bind_some, if_true, if_false, Bool.not_true, Bool.not_false, reduceIte, Bool.false_eq_true, permP, List.getD_cons_zero, List.getD_cons_succ, atI_0, atI_1, atI_2, atI_3, addZ_int, subZ_int, modZ_int, gtZ_int, ltZ_int, leZ_int, geZ_int, eqZ_int, neZ_int, intTyZ_int, truZ_bl, addI_int, maxZ_int, minZ_int, rb_bl, negZ_int, ixZ_tup, ixZ_lst, ixZ_scr, lenZ_tup, lenZ_lst, lenZ_scr, tupTyZ_lst, tupTyZ_tup, tyOk_str, Nat.reduceAdd, Nat.zero_add, lk0, lk1, lk2, lk3, lk4, lk5, lk6, lk7, lk8, lk9, lk10, lk11, lk12, and_self, and_true, true_and, Bool.and_true, Bool.true_and, Bool.and_self, Bool.or_false, Bool.false_or, cst0, cst1, cst2, cst3, cst4, cst5, cst6, cst7, cst8, cst9, cst10, cst11, cst12, sz0, sz1, sz2, sz3, sz4, sz5, sz6, sz7, sz8, sz9, sz10, sz11, sz12, is_non_int, is_non_bool, is_non_str, is_non_tuple, is_non_list, is_bl_int, is_bl_bool, is_bl_str, is_bl_tuple, is_bl_list, is_int_int, is_int_bool, is_int_str, is_int_tuple, is_int_list, is_str_int, is_str_bool, is_str_str, is_str_tuple, is_str_list, is_tup_int, is_tup_bool, is_tup_str, is_tup_tuple, is_tup_list, is_lst_int, is_lst_bool, is_lst_str, is_lst_tuple, is_lst_list, insV_at h4, look_peek, look_one_of, e1, eqZ_str ok1 ok46, h46, e3, hl1, e5, e7, hs]

theorem spl_rtxt {cs : List Nat} (r : Rt cs) : TL.spl [32] 0 [] (rtxt cs) = if cs = [] then [[46]] else sgs cs := by
  unfold rtxt
  by_cases hc : cs = []
  · rw [if_pos hc, if_pos hc]; decide
  · rw [if_neg hc, if_neg hc]
    refine SX.spl_join (c := 32) (sep := []) (by simpa [sgs] using hc) fun p hp => ?_
    obtain ⟨d, hd, rfl⟩ := List.mem_map.mp hp
    have := (lets_ok _ (r.mem _ hd)).2.1
    simp; omega
theorem sum_joinL (cs : List Nat) : (TL.joinL [32] (sgs cs)).length ≤ 2 * cs.length := by
  cases cs with
  | nil => simp [sgs, TL.joinL]
  | cons c cs =>
    rw [show sgs (c :: cs) = [c] :: sgs cs from rfl, joinL_cons]
    have : ((sgs cs).flatMap ([32] ++ ·)).length = 2 * cs.length := by
      induction cs with
      | nil => rfl
      | cons d cs ih => simp [sgs] at ih ⊢; omega
    rw [List.length_append, this]
    simp; omega
theorem rtxt_len {cs : List Nat} (r : Rt cs) : (rtxt cs).length ≤ 16 := by
  have h := sum_joinL cs
  have hl := r.len
  unfold rtxt
  split
  · decide
  · omega
theorem read_route_ok {cs : List Nat} {ph : PH} (r : Rt cs) : m_read_route [.str (S (rtxt cs))] ph = .ok (tupS (sgs cs)) ph := by
  have e1 := words_init (n := ph.length) (ph := ph ++ [.ins (Str.ofString "Words") []]) (a := rtxt cs) app_r (by have := rtxt_len r; omega)
  rw [spl_rtxt r, app_setr] at e1
  have e2 := next_route_ok (W := if cs = [] then [[46]] else sgs cs) r (n := ph.length) (ph := ph ++ [wdO (if cs = [] then [[46]] else sgs cs) 0]) rfl app_r
  rw [app_setr] at e2
  have e3 := words_end (n := ph.length) (ph := ph ++ [wdO (if cs = [] then [[46]] else sgs cs) (if cs = [] then [[46]] else sgs cs).length]) app_r (Nat.le_refl _)
  have h4 : (ph ++ [wdO (if cs = [] then [[46]] else sgs cs) (if cs = [] then [[46]] else sgs cs).length])[ph.length]? = some (wdO (if cs = [] then [[46]] else sgs cs) (if cs = [] then [[46]] else sgs cs).length) := app_r
  unfold m_read_route
  refine dFn_tail (tl := [wdO (if cs = [] then [[46]] else sgs cs) (if cs = [] then [[46]] else sgs cs).length]) ?_ rfl (fun k z => nomatch z) cl_tupS ho_same
  rw [env1_3]
  unfold b_read_route
  simp only [lit_0, lit_1, lit_2, lit_3, lit_4, lit_5, lit_6, lit_7, lit_8, lit_9, lit_10, lit_11, lit_12, lit_13, lit_14, lit_15]
  have e5 : ∀ q : PH, addZ q (.tup (([97, 98, 99, 100, 101, 102, 103, 104, 105, 106, 107, 108, 109, 110, 111, 112, 113, 114, 115, 116, 117, 118, 119, 120, 121, 122] : List Nat).map fun c => PV.str (S [c]))) (.tup [.str (S [43])]) = some (tupS (sgs lets)) := fun q => by
    rw [addZ_tup (by decide)]; rfl
  have e6 : ∀ q : PH, tupStrZ q [.str (S [97, 98, 99, 100, 101, 102, 103, 104, 105, 106, 107, 108, 109, 110, 111, 112, 113, 114, 115, 116, 117, 118, 119, 120, 121, 122])] = some (.tup (([97, 98, 99, 100, 101, 102, 103, 104, 105, 106, 107, 108, 109, 110, 111, 112, 113, 114, 115, 116, 117, 118, 119, 120, 121, 122] : List Nat).map fun c => PV.str (S [c]))) := fun q => tupStrZ_S (by decide)
  have h5 := h4
  unfold wdO at h5
  generalize hW : (if cs = [] then [[46]] else sgs cs) = W at *
  have h6 := insV_at h5
  generalize hq : ([97, 98, 99, 100, 101, 102, 103, 104, 105, 106, 107, 108, 109, 110, 111, 112, 113, 114, 115, 116, 117, 118, 119, 120, 121, 122] : List Nat) = az at *
  generalize hz : (az.map fun c => PV.str (S [c])) = zs at *
  rw [show (PO.ins (Str.ofString "Words") [(Str.ofString "all_words", strsP W), (Str.ofString "next_index", PV.int (W.length : Nat))]) = wdO W W.length from rfl] at h6
  simp only [sSeq, sIf, sRet, sRetN, sSet, sSetL, sRetL, sExpr, sNil, sUnp, sPar2, sPar3, sAug, mBin, mBinT, mUn, mCB, mTru, mAndT, mOrT, mNotT, mIf, mAndV, mOrV, mNotV, mNil, mCons, mTup, mLst, mCall, mCallK, mMeth, mMake, mFld, sSetFld, sAugFld, sSetIx, mChain, mChainT, mSl, oNone, oSome, mBM, eVar, eC, ok_bind, bad_bind, ok_st, nx_seq, rt_seq, bk_seq, ct_seq, ofO_some, List.getElem?_cons_zero, List.getElem?_cons_succ, List.set_cons_zero, List.set_cons_succ, List.length_cons, List.length_nil, List.append_nil, List.nil_append, List.cons_append, tgName, tgNil, tgCons, tgTup, setsE, List.foldl_cons, List.foldl_nil, List.map_cons, List.map_nil, tYesZ, wipeE, isNZ, PV.isN, Option.map_some, Option.bind_some, if_true, if_false, Bool.not_true, Bool.not_false, reduceIte, Bool.false_eq_true, permP, List.getD_cons_zero, List.getD_cons_succ, atI_0, atI_1, atI_2, atI_3, addZ_int, subZ_int, modZ_int, gtZ_int, ltZ_int, leZ_int, geZ_int, eqZ_int, neZ_int, intTyZ_int, truZ_bl, addI_int, maxZ_int, minZ_int, rb_bl, negZ_int, ixZ_tup, ixZ_lst, ixZ_scr, lenZ_tup, lenZ_lst, lenZ_scr, tupTyZ_lst, tupTyZ_tup, tyOk_str, Nat.reduceAdd, Nat.zero_add, lk0, lk1, lk2, lk3, lk4, lk5, lk6, lk7, lk8, lk9, lk10, lk11, lk12, and_self, and_true, true_and, Bool.and_true, Bool.true_and, Bool.and_self, Bool.or_false, Bool.false_or, cst0, cst1, cst2, cst3, cst4, cst5, cst6, cst7, cst8, cst9, cst10, cst11, cst12, sz0, sz1, sz2, sz3, sz4, sz5, sz6, sz7, sz8, sz9, sz10, sz11, sz12, is_non_int, is_non_bool, is_non_str, is_non_tuple, is_non_list, is_bl_int, is_bl_bool, is_bl_str, is_bl_tuple, is_bl_list, is_int_int, is_int_bool, is_int_str, is_int_tuple, is_int_list, is_str_int, is_str_bool, is_str_str, is_str_tuple, is_str_list, is_tup_int, is_tup_bool, is_tup_str, is_tup_tuple, is_tup_list, is_lst_int, is_lst_bool, is_lst_str, is_lst_tuple, is_lst_list, e1, e6, e5, e2, h6, look_end, e3]
theorem routes_right_ok {N l : Nat} {ph : PH} (u : U N l ph) (hN : N ≤ 10 ^ 5) : ∃ ph', m_law_routes_right [.loc l] ph = .ok (.bl true) ph' ∧ U (N + 20) l ph' ∧ Stp l ph ph' := by
  obtain ⟨cs, p1, a1, r, u1, s1⟩ := law_route_ok u hN
  have hl := r.len
  have hok : ∀ c ∈ rtxt cs, c < 0x110000 := by
    intro c hc
    unfold rtxt at hc
    split at hc
    · simp at hc; omega
    · cases cs with
      | nil => simp [sgs, TL.joinL] at hc
      | cons d cs =>
        rw [show sgs (d :: cs) = [d] :: sgs cs from rfl, joinL_cons] at hc
        rcases List.mem_append.mp hc with h | h
        · simp at h; subst h; exact (lets_ok _ (r.mem _ List.mem_cons_self)).1
        · obtain ⟨w, h1, h2⟩ := List.mem_flatMap.mp h
          obtain ⟨x, hx, rfl⟩ := List.mem_map.mp h1
          simp at h2
          rcases h2 with rfl | rfl
          · omega
          · exact (lets_ok _ (r.mem _ (List.mem_cons_of_mem _ hx))).1
  have g1 := same_refl 6 (.str (S (rtxt cs))) p1 (gd_str hok)
  have g2 := same_refl 6 (tupS (sgs cs)) p1 (.inr (.inr ⟨_, rfl, by simp [sgs]; omega, fun x hx => by
    obtain ⟨w, hw, rfl⟩ := List.mem_map.mp hx
    exact .inr (.inl ⟨w, rfl, r.sgs_ok w hw⟩)⟩))
  have e2 : joinZ p1 (.str (S [32])) [tupS (sgs cs)] = some (.str (S (TL.joinL [32] (sgs cs))), p1) := joinZ_S rfl (by rw [sgs, sum_ones]; simp; omega)
  have e3 : eqZ false p1 (tupS (sgs cs)) (.tup []) = some (.bl (decide (sgs cs = []))) := eqZ_strs (neg := false) (vs := []) r.sgs_ok (fun _ h => absurd h List.not_mem_nil)
  have w1 := show_route_ok (ph := p1) r
  have w2 := read_route_ok (ph := p1) r
  refine ⟨p1, ?_, u1.mono (by omega), s1⟩
  unfold m_law_routes_right
  refine dFn_rtS ?_ s1.len
  rw [env1_3]
  unfold b_law_routes_right
  simp only [lit_0, lit_1, lit_2, lit_3, lit_4, lit_5, lit_6, lit_7, lit_8, lit_9, lit_10, lit_11, lit_12, lit_13, lit_14, lit_15]
  by_cases hc : cs = []
  · have h0 : decide (sgs cs = []) = true := by rw [hc]; rfl
    have h1 : rtxt cs = [46] := by rw [hc]; rfl
    rw [h1] at w1 w2 g1 hok
    simp only [sSeq, sIf, sRet, sRetN, sSet, sSetL, sRetL, sExpr, sNil, sUnp, sPar2, sPar3, sAug, mBin, mBinT, mUn, mCB, mTru, mAndT, mOrT, mNotT, mIf, mAndV, mOrV, mNotV, mNil, mCons, mTup, mLst, mCall, mCallK, mMeth, mMake, mFld, sSetFld, sAugFld, sSetIx, mChain, mChainT, mSl, oNone, oSome, mBM, eVar, eC, ok_bind, bad_bind, ok_st, nx_seq, rt_seq, bk_seq, ct_seq, ofO_some, List.getElem?_cons_zero, List.getElem?_cons_succ, List.set_cons_zero, List.set_cons_succ, List.length_cons, List.length_nil, List.append_nil, List.nil_append, List.cons_append, tgName, tgNil, tgCons, tgTup, setsE, List.foldl_cons, List.foldl_nil, List.map_cons, List.map_nil, tYesZ, wipeE, isNZ, PV.isN, Option.map_some, Option.bind_some, if_true, if_false, Bool.not_true, Bool.not_false, reduceIte, Bool.false_eq_true, permP, List.getD_cons_zero, List.getD_cons_succ, atI_0, atI_1, atI_2, atI_3, addZ_int, subZ_int, modZ_int, gtZ_int, ltZ_int, leZ_int, geZ_int, eqZ_int, neZ_int, intTyZ_int, truZ_bl, addI_int, maxZ_int, minZ_int, rb_bl, negZ_int, ixZ_tup, ixZ_lst, ixZ_scr, lenZ_tup, lenZ_lst, lenZ_scr, tupTyZ_lst, tupTyZ_tup, tyOk_str, Nat.reduceAdd, Nat.zero_add, lk0, lk1, lk2, lk3, lk4, lk5, lk6, lk7, lk8, lk9, lk10, lk11, lk12, and_self, and_true, true_and, Bool.and_true, Bool.true_and, Bool.and_self, Bool.or_false, Bool.false_or, cst0, cst1, cst2, cst3, cst4, cst5, cst6, cst7, cst8, cst9, cst10, cst11, cst12, sz0, sz1, sz2, sz3, sz4, sz5, sz6, sz7, sz8, sz9, sz10, sz11, sz12, is_non_int, is_non_bool, is_non_str, is_non_tuple, is_non_list, is_bl_int, is_bl_bool, is_bl_str, is_bl_tuple, is_bl_list, is_int_int, is_int_bool, is_int_str, is_int_tuple, is_int_list, is_str_int, is_str_bool, is_str_str, is_str_tuple, is_str_list, is_tup_int, is_tup_bool, is_tup_str, is_tup_tuple, is_tup_list, is_lst_int, is_lst_bool, is_lst_str, is_lst_tuple, is_lst_list, a1, e2, e3, h0, w1, w2, g1, g2, neZ_str hok hok, decide_true]
  · have h0 : decide (sgs cs = []) = false := decide_eq_false (by simpa [sgs] using hc)
    have h1 : rtxt cs = TL.joinL [32] (sgs cs) := by unfold rtxt; rw [if_neg hc]
    rw [h1] at w1 w2 g1 hok
    simp only [sSeq, sIf, sRet, sRetN, sSet, sSetL, sRetL, sExpr, sNil, sUnp, sPar2, sPar3, sAug, mBin, mBinT, mUn, mCB, mTru, mAndT, mOrT, mNotT, mIf, mAndV, mOrV, mNotV, mNil, mCons, mTup, mLst, mCall, mCallK, mMeth, mMake, mFld, sSetFld, sAugFld, sSetIx, mChain, mChainT, mSl, oNone, oSome, mBM, eVar, eC, ok_bind, bad_bind, ok_st, nx_seq, rt_seq, bk_seq, ct_seq, ofO_some, List.getElem?_cons_zero, List.getElem?_cons_succ, List.set_cons_zero, List.set_cons_succ, List.length_cons, List.length_nil, List.append_nil, List.nil_append, List.cons_append, tgName, tgNil, tgCons, tgTup, setsE, List.foldl_cons, List.foldl_nil, List.map_cons, List.map_nil, tYesZ, wipeE, isNZ, PV.isN, Option.map_some, Option.bind_some, if_true, if_false, Bool.not_true, Bool.not_false, reduceIte, Bool.false_eq_true, permP, List.getD_cons_zero, List.getD_cons_succ, atI_0, atI_1, atI_2, atI_3, addZ_int, subZ_int, modZ_int, gtZ_int, ltZ_int, leZ_int, geZ_int, eqZ_int, neZ_int, intTyZ_int, truZ_bl, addI_int, maxZ_int, minZ_int, rb_bl, negZ_int, ixZ_tup, ixZ_lst, ixZ_scr, lenZ_tup, lenZ_lst, lenZ_scr, tupTyZ_lst, tupTyZ_tup, tyOk_str, Nat.reduceAdd, Nat.zero_add, lk0, lk1, lk2, lk3, lk4, lk5, lk6, lk7, lk8, lk9, lk10, lk11, lk12, and_self, and_true, true_and, Bool.and_true, Bool.true_and, Bool.and_self, Bool.or_false, Bool.false_or, cst0, cst1, cst2, cst3, cst4, cst5, cst6, cst7, cst8, cst9, cst10, cst11, cst12, sz0, sz1, sz2, sz3, sz4, sz5, sz6, sz7, sz8, sz9, sz10, sz11, sz12, is_non_int, is_non_bool, is_non_str, is_non_tuple, is_non_list, is_bl_int, is_bl_bool, is_bl_str, is_bl_tuple, is_bl_list, is_int_int, is_int_bool, is_int_str, is_int_tuple, is_int_list, is_str_int, is_str_bool, is_str_str, is_str_tuple, is_str_list, is_tup_int, is_tup_bool, is_tup_str, is_tup_tuple, is_tup_list, is_lst_int, is_lst_bool, is_lst_str, is_lst_tuple, is_lst_list, a1, e2, e3, h0, w1, w2, g1, g2, neZ_str hok hok, decide_true]

/-! spans -/
def okS (p : Int × Int) : Prop := -30 ≤ p.1 ∧ p.1 ≤ p.2 ∧ p.2 ≤ 30
def ltS (p q : Int × Int) : Prop := p.1 < q.1 ∨ (p.1 = q.1 ∧ p.2 < q.2)
inductive Sp : List (Int × Int) → Prop where
  | nil : Sp []
  | one {p} (h : okS p) : Sp [p]
  | two {p q} (h : okS p) (k : okS q) (l : ltS p q) : Sp [p, q]
def spansP (xs : List (Int × Int)) : PV := .tup (xs.map spanP)
theorem draw_app {N l : Nat} {ph : PH} {o : PO} {m : Int} (u : U N l ph) (hN : N ≤ 10 ^ 6) (hm : 0 < m) (hm2 : m < 1000) : ∃ r ph', m_law_draw [.loc l, .int m] (ph ++ [o]) = .ok (.int r) (ph' ++ [o]) ∧ 0 ≤ r ∧ r < m ∧ U (N + 1) l ph' ∧ Stp l ph ph' := by
  obtain ⟨a, b, c, u⟩ := u
  have u' : Urn N l (ph ++ [o]) a b c := ⟨app_l u.at_, u.a0, u.b0, u.b1, u.c0, u.c1⟩
  obtain ⟨r, a', c', h1, h2, h3, h4, h5, h6⟩ := draw_a u' hN hm hm2
  rw [app_setl u.at_] at h1
  have hl : l < ph.length := (List.getElem?_eq_some_iff.mp u.at_).1
  exact ⟨r, _, h1, h2, h3, ⟨a', b, c', by simp [hl], h4, u.b0, u.b1, h5, by simpa using h6⟩, by simp, fun i hi => by rw [List.getElem?_set_ne (Ne.symm hi)]⟩
theorem U.lt {N l : Nat} {ph : PH} (u : U N l ph) : l < ph.length := by
  obtain ⟨a, b, c, u⟩ := u
  exact (List.getElem?_eq_some_iff.mp u.at_).1
theorem U.cl {N l k : Nat} {ph : PH} {o : PO} (u : U N l ph) (h : ph[l]? = some o) : o.cl k = true := by
  obtain ⟨a, b, c, u⟩ := u
  rw [u.at_] at h
  cases h
  simp [PO.cl, PV.clL, PV.cl]
theorem Stp.ho {N l : Nat} {ph ph' : PH} (s : Stp l ph ph') (u : U N l ph') : ∀ (i : Nat) (o : PO), ph'[i]? = some o → ph[i]? = some o ∨ o.cl ph.length = true := fun i o e => by
  by_cases hi : i = l
  · subst hi; exact .inr (u.cl e)
  · rw [s.ne i hi] at e; exact .inl e
theorem cl_spans {k : Nat} {xs : List (Int × Int)} : (spansP xs).cl k = true := by
  unfold spansP
  rw [PV.cl]
  induction xs with
  | nil => simp [PV.clL]
  | cons x xs ih => rw [List.map_cons, PV.clL, ih]; simp [PV.cl, PV.clL]
theorem law_spans_ok {N l : Nat} {ph : PH} (u : U N l ph) (hN : N ≤ 10 ^ 5) : ∃ xs ph', m_law_spans [.loc l] ph = .ok (spansP xs) ph' ∧ Sp xs ∧ U (N + 10) l ph' ∧ Stp l ph ph' := by
  obtain ⟨r0, p0, a1, a2, a3, u0, s0⟩ := draw_app (o := .lst ([].map spanP)) (m := 3) u (by omega) (by omega) (by omega)
  have hz := for_inv (it := ⟨rngI 0 r0, []⟩) (g := tgName 2) (b := sSeq (sSet 3 (mBin subZ (mCall 2 (m_law_draw) [] (mCons (eVar 0) (mCons (eC (.int 61)) (mNil)))) (eC (.int 30)))) (sSeq (sSet 4 (mTup (mCons (eVar 3) (mCons (mCB minZ (mCons (eC (.int 30)) (mCons (mBin addZ (eVar 3) (mCall 2 (m_law_draw) [] (mCons (eVar 0) (mCons (mBin ixZ (mLst (mCons (eC (.int 61)) (mCons (eC (.int 3)) (mNil)))) (mCall 2 (m_law_draw) [] (mCons (eVar 0) (mCons (eC (.int 2)) (mNil))))) (mNil))))) (mNil)))) (mNil))))) (sIf (mBinT (inZ true) (eVar 4) (eVar 1)) (sExpr (mBM "list" appendZ (eVar 1) (mCons (eVar 4) (mNil)))) (sNil))))
    (J := fun k env q => ∃ (p : PH) (xs : List (Int × Int)) (v2 v3 v4 : Option PV), q = p ++ [.lst (xs.map spanP)] ∧ env = [some (.loc l), some (.loc ph.length), v2, v3, v4] ∧ (k ≤ 2 → U (N + 1 + 3 * k) l p) ∧ Stp l ph p ∧ xs.Nodup ∧ (∀ x ∈ xs, okS x) ∧ xs.length ≤ k)
    (rngI 0 r0) 0 [some (.loc l), some (.loc ph.length), none, none, none] (p0 ++ [.lst ([].map spanP)])
  obtain ⟨env', q', f1, p, xs, v2, v3, v4, rfl, rfl, f2, f3, f4, f5, f6⟩ := hz (fun k x hx env q hj => by
    obtain ⟨p, xs, v2, v3, v4, rfl, rfl, g2, g3, g4, g5, g6⟩ := hj
    have hk := (List.getElem?_eq_some_iff.mp hx).1
    rw [rngI_len] at hk
    simp only [Nat.zero_add] at g2 g6 ⊢
    obtain ⟨r1, p1, b1, b2, b3, u1, s1⟩ := draw_app (o := .lst (xs.map spanP)) (m := 61) (g2 (by omega)) (by omega) (by omega) (by omega)
    obtain ⟨r2, p2, c1, c2, c3, u2, s2⟩ := draw_app (o := .lst (xs.map spanP)) (m := 2) u1 (by omega) (by omega) (by omega)
    have hm : ∃ m : Int, (∀ q : PH, ixZ q (.lst [.int 61, .int 3]) (.int r2) = some (.int m)) ∧ 0 < m ∧ m ≤ 61 := by
      have : r2 = 0 ∨ r2 = 1 := by omega
      rcases this with rfl | rfl
      · exact ⟨61, fun _ => rfl, by omega, by omega⟩
      · exact ⟨3, fun _ => rfl, by omega, by omega⟩
    obtain ⟨m, m1, m2, m3⟩ := hm
    obtain ⟨r3, p3, d1, d2, d3, u3, s3⟩ := draw_app (o := .lst (xs.map spanP)) (m := m) u2 (by omega) (by omega) (by omega)
    have st := ((g3.trans s1).trans s2).trans s3
    have hl : ph.length = p3.length := st.len.symm
    have e0 : (p3 ++ [PO.lst (xs.map spanP)])[ph.length]? = some (.lst (xs.map spanP)) := by rw [hl]; exact app_r
    have hok : okS (r1 - 30, if r1 - 30 + r3 < 30 then r1 - 30 + r3 else 30) := by
      unfold okS
      simp only
      split <;> omega
    have ei := inZ_spans (neg := true) (p := (r1 - 30, if r1 - 30 + r3 < 30 then r1 - 30 + r3 else 30)) e0
    by_cases hin : (r1 - 30, if r1 - 30 + r3 < 30 then r1 - 30 + r3 else 30) ∈ xs
    · refine ⟨chk0, [(2, x)], _, _, rfl, .inl ?_, p3, xs, some x, some (.int (r1 - 30)), some (spanP (r1 - 30, if r1 - 30 + r3 < 30 then r1 - 30 + r3 else 30)), rfl, rfl, fun _ => u3.mono (by omega), st, g4, g5, by omega⟩
      simp only [hin, decide_true] at ei
      simp only [sSeq, sIf, sRet, sRetN, sSet, sSetL, sRetL, sExpr, sNil, sUnp, sPar2, sPar3, sAug, mBin, mBinT, mUn, mCB, mTru, mAndT, mOrT, mNotT, mIf, mAndV, mOrV, mNotV, mNil, mCons, mTup, mLst, mCall, mCallK, mMeth, mMake, mFld, sSetFld, sAugFld, sSetIx, mChain, mChainT, mSl, oNone, oSome, mBM, eVar, eC, ok_bind, bad_bind, ok_st, nx_seq, rt_seq, bk_seq, ct_seq, ofO_some, List.getElem?_cons_zero, List.getElem?_cons_succ, List.set_cons_zero, List.set_cons_succ, List.length_cons, List.length_nil, List.append_nil, List.nil_append, List.cons_append, tgName, tgNil, tgCons, tgTup, setsE, List.foldl_cons, List.foldl_nil, List.map_cons, List.map_nil, tYesZ, wipeE, isNZ, PV.isN, Option.map_some, Option.bind_some, if_true, if_false, Bool.not_true, Bool.not_false, reduceIte, Bool.false_eq_true, permP, List.getD_cons_zero, List.getD_cons_succ, atI_0, atI_1, atI_2, atI_3, addZ_int, subZ_int, modZ_int, gtZ_int, ltZ_int, leZ_int, geZ_int, eqZ_int, neZ_int, intTyZ_int, truZ_bl, addI_int, maxZ_int, minZ_int, rb_bl, negZ_int, ixZ_tup, ixZ_lst, ixZ_scr, lenZ_tup, lenZ_lst, lenZ_scr, tupTyZ_lst, tupTyZ_tup, tyOk_str, Nat.reduceAdd, Nat.zero_add, lk0, lk1, lk2, lk3, lk4, lk5, lk6, lk7, lk8, lk9, lk10, lk11, lk12, and_self, and_true, true_and, Bool.and_true, Bool.true_and, Bool.and_self, Bool.or_false, Bool.false_or, cst0, cst1, cst2, cst3, cst4, cst5, cst6, cst7, cst8, cst9, cst10, cst11, cst12, sz0, sz1, sz2, sz3, sz4, sz5, sz6, sz7, sz8, sz9, sz10, sz11, sz12, is_non_int, is_non_bool, is_non_str, is_non_tuple, is_non_list, is_bl_int, is_bl_bool, is_bl_str, is_bl_tuple, is_bl_list, is_int_int, is_int_bool, is_int_str, is_int_tuple, is_int_list, is_str_int, is_str_bool, is_str_str, is_str_tuple, is_str_list, is_tup_int, is_tup_bool, is_tup_str, is_tup_tuple, is_tup_list, is_lst_int, is_lst_bool, is_lst_str, is_lst_tuple, is_lst_list, b1, c1, m1, d1, ei]
    · have ea : appendZ (p3 ++ [PO.lst (xs.map spanP)]) (.loc ph.length) [spanP (r1 - 30, if r1 - 30 + r3 < 30 then r1 - 30 + r3 else 30)] = some (.non, p3 ++ [.lst ((xs ++ [(r1 - 30, if r1 - 30 + r3 < 30 then r1 - 30 + r3 else 30)]).map spanP)]) := by
        rw [hl, appendZ_at app_r (by simp; omega), app_setr, List.map_append]
        rfl
      refine ⟨chk0, [(2, x)], _, _, rfl, .inl ?_, p3, xs ++ [(r1 - 30, if r1 - 30 + r3 < 30 then r1 - 30 + r3 else 30)], some x, some (.int (r1 - 30)), some (spanP (r1 - 30, if r1 - 30 + r3 < 30 then r1 - 30 + r3 else 30)), rfl, rfl, fun _ => u3.mono (by omega), st, ?_, ?_, by simp; omega⟩
      · simp only [hin, decide_false] at ei
        simp only [sSeq, sIf, sRet, sRetN, sSet, sSetL, sRetL, sExpr, sNil, sUnp, sPar2, sPar3, sAug, mBin, mBinT, mUn, mCB, mTru, mAndT, mOrT, mNotT, mIf, mAndV, mOrV, mNotV, mNil, mCons, mTup, mLst, mCall, mCallK, mMeth, mMake, mFld, sSetFld, sAugFld, sSetIx, mChain, mChainT, mSl, oNone, oSome, mBM, eVar, eC, ok_bind, bad_bind, ok_st, nx_seq, rt_seq, bk_seq, ct_seq, ofO_some, List.getElem?_cons_zero, List.getElem?_cons_succ, List.set_cons_zero, List.set_cons_succ, List.length_cons, List.length_nil, List.append_nil, List.nil_append, List.cons_append, tgName, tgNil, tgCons, tgTup, setsE, List.foldl_cons, List.foldl_nil, List.map_cons, List.map_nil, tYesZ, wipeE, isNZ, PV.isN, Option.map_some, Option.bind_some, if_true, if_false, Bool.not_true, Bool.not_false, reduceIte, Bool.false_eq_true, permP, List.getD_cons_zero, List.getD_cons_succ, atI_0, atI_1, atI_2, atI_3, addZ_int, subZ_int, modZ_int, gtZ_int, ltZ_int, leZ_int, geZ_int, eqZ_int, neZ_int, intTyZ_int, truZ_bl, addI_int, maxZ_int, minZ_int, rb_bl, negZ_int, ixZ_tup, ixZ_lst, ixZ_scr, lenZ_tup, lenZ_lst, lenZ_scr, tupTyZ_lst, tupTyZ_tup, tyOk_str, Nat.reduceAdd, Nat.zero_add, lk0, lk1, lk2, lk3, lk4, lk5, lk6, lk7, lk8, lk9, lk10, lk11, lk12, and_self, and_true, true_and, Bool.and_true, Bool.true_and, Bool.and_self, Bool.or_false, Bool.false_or, cst0, cst1, cst2, cst3, cst4, cst5, cst6, cst7, cst8, cst9, cst10, cst11, cst12, sz0, sz1, sz2, sz3, sz4, sz5, sz6, sz7, sz8, sz9, sz10, sz11, sz12, is_non_int, is_non_bool, is_non_str, is_non_tuple, is_non_list, is_bl_int, is_bl_bool, is_bl_str, is_bl_tuple, is_bl_list, is_int_int, is_int_bool, is_int_str, is_int_tuple, is_int_list, is_str_int, is_str_bool, is_str_str, is_str_tuple, is_str_list, is_tup_int, is_tup_bool, is_tup_str, is_tup_tuple, is_tup_list, is_lst_int, is_lst_bool, is_lst_str, is_lst_tuple, is_lst_list, b1, c1, m1, d1, ei, tyOk_lst e0, ea]
      · rw [List.nodup_append]
        exact ⟨g4, by simp, fun a ha b hb => by simp at hb; subst hb; rintro rfl; exact hin ha⟩
      · intro y hy
        rcases List.mem_append.mp hy with h | h
        · exact g5 y h
        · simp at h; subst h; exact hok) (fun _ _ _ => chk0) ⟨p0, [], none, none, none, rfl, rfl, fun _ => u0, s0, List.nodup_nil, fun _ h => absurd h List.not_mem_nil, by simp⟩
  rw [rngI_len] at f2 f6
  simp only [Nat.zero_add] at f2 f6
  have hl : ph.length = p.length := f3.len.symm
  have e0 : (p ++ [PO.lst (xs.map spanP)])[ph.length]? = some (.lst (xs.map spanP)) := by rw [hl]; exact app_r
  have hu := f2 (by omega)
  have hs : ∃ ys, Sp ys ∧ (xs.map spanP).mergeSort (PySem.W.dataLe false encD) = ys.map spanP := by
    match xs, f4, f5, f6 with
    | [], _, _, _ => exact ⟨[], .nil, msort0 _⟩
    | [x], _, f5, _ => exact ⟨[x], .one (f5 x (by simp)), msort1 _ _⟩
    | [x, y], f4, f5, _ =>
      have hx := f5 x (by simp)
      have hy := f5 y (by simp)
      have hne : x ≠ y := by simp at f4; exact f4
      have hne2 : ¬ (x.1 = y.1 ∧ x.2 = y.2) := fun h => hne (Prod.ext h.1 h.2)
      show ∃ ys, Sp ys ∧ [spanP x, spanP y].mergeSort _ = ys.map spanP
      rw [msort2, le_span]
      by_cases hlt : ltS x y
      · refine ⟨[x, y], .two hx hy hlt, ?_⟩
        rw [if_pos]
        · rfl
        · unfold ltS at hlt
          simp
          omega
      · have hgt : ltS y x := by unfold ltS at *; omega
        refine ⟨[y, x], .two hy hx hgt, ?_⟩
        rw [if_neg]
        · rfl
        · unfold ltS at hgt
          simp
          omega
    | _ :: _ :: _ :: _, _, _, f6 => simp at f6; omega
  obtain ⟨ys, y1, y2⟩ := hs
  have es := sortZ_spans e0
  rw [y2] at es
  refine ⟨ys, p, ?_, y1, hu.mono (by omega), f3⟩
  unfold m_law_spans
  refine dFn_tail (tl := [.lst (xs.map spanP)]) ?_ f3.len (fun k z => nomatch z) cl_spans (f3.ho hu)
  rw [env1_5]
  have ef : fo_law_spans_0 [some (.loc l), some (.loc ph.length), none, none, none] (ph ++ [.lst []]) = .nx [some (.loc l), some (.loc ph.length), v2, v3, v4] (p ++ [.lst (xs.map spanP)]) := by
    unfold fo_law_spans_0
    rw [sFor_ok (it := ⟨rngI 0 r0, []⟩) (ph1 := p0 ++ [.lst ([].map spanP)]) (iRange1_ok (by rw [List.map_nil] at a1; simp only [sSeq, sIf, sRet, sRetN, sSet, sSetL, sRetL, sExpr, sNil, sUnp, sPar2, sPar3, sAug, mBin, mBinT, mUn, mCB, mTru, mAndT, mOrT, mNotT, mIf, mAndV, mOrV, mNotV, mNil, mCons, mTup, mLst, mCall, mCallK, mMeth, mMake, mFld, sSetFld, sAugFld, sSetIx, mChain, mChainT, mSl, oNone, oSome, mBM, eVar, eC, ok_bind, bad_bind, ok_st, nx_seq, rt_seq, bk_seq, ct_seq, ofO_some, List.getElem?_cons_zero, List.getElem?_cons_succ, List.set_cons_zero, List.set_cons_succ, List.length_cons, List.length_nil, List.append_nil, List.nil_append, List.cons_append, tgName, tgNil, tgCons, tgTup, setsE, List.foldl_cons, List.foldl_nil, List.map_cons, List.map_nil, tYesZ, wipeE, isNZ, PV.isN, Option.map_some, Option.bind_some, if_true, if_false, Bool.not_true, Bool.not_false, reduceIte, Bool.false_eq_true, permP, List.getD_cons_zero, List.getD_cons_succ, atI_0, atI_1, atI_2, atI_3, addZ_int, subZ_int, modZ_int, gtZ_int, ltZ_int, leZ_int, geZ_int, eqZ_int, neZ_int, intTyZ_int, truZ_bl, addI_int, maxZ_int, minZ_int, rb_bl, negZ_int, ixZ_tup, ixZ_lst, ixZ_scr, lenZ_tup, lenZ_lst, lenZ_scr, tupTyZ_lst, tupTyZ_tup, tyOk_str, Nat.reduceAdd, Nat.zero_add, lk0, lk1, lk2, lk3, lk4, lk5, lk6, lk7, lk8, lk9, lk10, lk11, lk12, and_self, and_true, true_and, Bool.and_true, Bool.true_and, Bool.and_self, Bool.or_false, Bool.false_or, cst0, cst1, cst2, cst3, cst4, cst5, cst6, cst7, cst8, cst9, cst10, cst11, cst12, sz0, sz1, sz2, sz3, sz4, sz5, sz6, sz7, sz8, sz9, sz10, sz11, sz12, is_non_int, is_non_bool, is_non_str, is_non_tuple, is_non_list, is_bl_int, is_bl_bool, is_bl_str, is_bl_tuple, is_bl_list, is_int_int, is_int_bool, is_int_str, is_int_tuple, is_int_list, is_str_int, is_str_bool, is_str_str, is_str_tuple, is_str_list, is_tup_int, is_tup_bool, is_tup_str, is_tup_tuple, is_tup_list, is_lst_int, is_lst_bool, is_lst_str, is_lst_tuple, is_lst_list, a1]) (by omega) (by omega))]
    exact f1
  unfold b_law_spans
  simp only [sSeq, sIf, sRet, sRetN, sSet, sSetL, sRetL, sExpr, sNil, sUnp, sPar2, sPar3, sAug, mBin, mBinT, mUn, mCB, mTru, mAndT, mOrT, mNotT, mIf, mAndV, mOrV, mNotV, mNil, mCons, mTup, mLst, mCall, mCallK, mMeth, mMake, mFld, sSetFld, sAugFld, sSetIx, mChain, mChainT, mSl, oNone, oSome, mBM, eVar, eC, ok_bind, bad_bind, ok_st, nx_seq, rt_seq, bk_seq, ct_seq, ofO_some, List.getElem?_cons_zero, List.getElem?_cons_succ, List.set_cons_zero, List.set_cons_succ, List.length_cons, List.length_nil, List.append_nil, List.nil_append, List.cons_append, tgName, tgNil, tgCons, tgTup, setsE, List.foldl_cons, List.foldl_nil, List.map_cons, List.map_nil, tYesZ, wipeE, isNZ, PV.isN, Option.map_some, Option.bind_some, if_true, if_false, Bool.not_true, Bool.not_false, reduceIte, Bool.false_eq_true, permP, List.getD_cons_zero, List.getD_cons_succ, atI_0, atI_1, atI_2, atI_3, addZ_int, subZ_int, modZ_int, gtZ_int, ltZ_int, leZ_int, geZ_int, eqZ_int, neZ_int, intTyZ_int, truZ_bl, addI_int, maxZ_int, minZ_int, rb_bl, negZ_int, ixZ_tup, ixZ_lst, ixZ_scr, lenZ_tup, lenZ_lst, lenZ_scr, tupTyZ_lst, tupTyZ_tup, tyOk_str, Nat.reduceAdd, Nat.zero_add, lk0, lk1, lk2, lk3, lk4, lk5, lk6, lk7, lk8, lk9, lk10, lk11, lk12, and_self, and_true, true_and, Bool.and_true, Bool.true_and, Bool.and_self, Bool.or_false, Bool.false_or, cst0, cst1, cst2, cst3, cst4, cst5, cst6, cst7, cst8, cst9, cst10, cst11, cst12, sz0, sz1, sz2, sz3, sz4, sz5, sz6, sz7, sz8, sz9, sz10, sz11, sz12, is_non_int, is_non_bool, is_non_str, is_non_tuple, is_non_list, is_bl_int, is_bl_bool, is_bl_str, is_bl_tuple, is_bl_list, is_int_int, is_int_bool, is_int_str, is_int_tuple, is_int_list, is_str_int, is_str_bool, is_str_str, is_str_tuple, is_str_list, is_tup_int, is_tup_bool, is_tup_str, is_tup_tuple, is_tup_list, is_lst_int, is_lst_bool, is_lst_str, is_lst_tuple, is_lst_list, ef, es]
  rfl

/-! small ints as words -/
theorem integer_in_ok {i : Int} {ph : PH} (h : IT i) : m_integer_in [.str (S (iT i))] ph = .ok (.int i) ph := by
  have hl := h.len
  have ok1 : OkT (iT i) := fun c hc => by have := (h.ch c hc).1; omega
  have ok45 : OkT [45] := by unfold OkT; decide
  have ok48 : OkT [48] := by unfold OkT; decide
  have oknil : OkT [] := fun _ h => absurd h List.not_mem_nil
  have okt : OkT ((iT i).take 1) := fun c hc => ok1 c (List.mem_of_mem_take hc)
  generalize hd : (if (iT i).take 1 = [45] then (iT i).drop 1 else iT i) = d
  have dne := h.dne; have dch := h.dch; have d0 := h.d0
  rw [hd] at dne dch d0
  have dl : d.length ≤ 3 := by
    rw [← hd]
    split
    · simp; omega
    · exact hl
  have okd : OkT d := fun c hc => by have := dch c hc; omega
  unfold m_integer_in
  refine dFn_rt ?_
  rw [env1_3]
  unfold b_integer_in
  simp only [lit_0, lit_1, lit_2, lit_3, lit_4, lit_5, lit_6, lit_7, lit_8, lit_9, lit_10, lit_11, lit_12, lit_13, lit_14, lit_15]
  have e1 : (mIf (mBinT (eqZ false) (mSl (eVar 0) (oNone) (oSome (eC (.int 1)))) (eC (.str (S [45])))) (mSl (eVar 0) (oSome (eC (.int 1))) (oNone)) (eVar 0)) [some (.str (S (iT i))), none, none] ph = .ok (.str (S d)) ph := by
    have t1 := slZ_to (ph := ph) (a := iT i) (i := 1) (by omega) (by omega)
    have t2 := slZ_from (ph := ph) (a := iT i) (i := 1) (by omega) (by omega)
    rw [show Int.toNat 1 = 1 from rfl] at t1 t2
    by_cases hm : (iT i).take 1 = [45]
    · rw [if_pos hm] at hd
      simp only [sSeq, sIf, sRet, sRetN, sSet, sSetL, sRetL, sExpr, sNil, sUnp, sPar2, sPar3, sAug, mBin, mBinT, mUn, mCB, mTru, mAndT, mOrT, mNotT, mIf, mAndV, mOrV, mNotV, mNil, mCons, mTup, mLst, mCall, mCallK, mMeth, mMake, mFld, sSetFld, sAugFld, sSetIx, mChain, mChainT, mSl, oNone, oSome, mBM, eVar, eC, ok_bind, bad_bind, ok_st, nx_seq, rt_seq, bk_seq, ct_seq, ofO_some, List.getElem?_cons_zero, List.getElem?_cons_succ, List.set_cons_zero, List.set_cons_succ, List.length_cons, List.length_nil, List.append_nil, List.nil_append, List.cons_append, tgName, tgNil, tgCons, tgTup, setsE, List.foldl_cons, List.foldl_nil, List.map_cons, List.map_nil, tYesZ, wipeE, isNZ, PV.isN, Option.map_some, Option.bind_some, if_true, if_false, Bool.not_true, Bool.not_false, reduceIte, Bool.false_eq_true, permP, List.getD_cons_zero, List.getD_cons_succ, atI_0, atI_1, atI_2, atI_3, addZ_int, subZ_int, modZ_int, gtZ_int, ltZ_int, leZ_int, geZ_int, eqZ_int, neZ_int, intTyZ_int, truZ_bl, addI_int, maxZ_int, minZ_int, rb_bl, negZ_int, ixZ_tup, ixZ_lst, ixZ_scr, lenZ_tup, lenZ_lst, lenZ_scr, tupTyZ_lst, tupTyZ_tup, tyOk_str, Nat.reduceAdd, Nat.zero_add, lk0, lk1, lk2, lk3, lk4, lk5, lk6, lk7, lk8, lk9, lk10, lk11, lk12, and_self, and_true, true_and, Bool.and_true, Bool.true_and, Bool.and_self, Bool.or_false, Bool.false_or, cst0, cst1, cst2, cst3, cst4, cst5, cst6, cst7, cst8, cst9, cst10, cst11, cst12, sz0, sz1, sz2, sz3, sz4, sz5, sz6, sz7, sz8, sz9, sz10, sz11, sz12, is_non_int, is_non_bool, is_non_str, is_non_tuple, is_non_list, is_bl_int, is_bl_bool, is_bl_str, is_bl_tuple, is_bl_list, is_int_int, is_int_bool, is_int_str, is_int_tuple, is_int_list, is_str_int, is_str_bool, is_str_str, is_str_tuple, is_str_list, is_tup_int, is_tup_bool, is_tup_str, is_tup_tuple, is_tup_list, is_lst_int, is_lst_bool, is_lst_str, is_lst_tuple, is_lst_list, t1, t2, eqZ_str okt ok45, decide_eq_true hm, hd]
    · rw [if_neg hm] at hd
      rw [← hd]
      simp only [sSeq, sIf, sRet, sRetN, sSet, sSetL, sRetL, sExpr, sNil, sUnp, sPar2, sPar3, sAug, mBin, mBinT, mUn, mCB, mTru, mAndT, mOrT, mNotT, mIf, mAndV, mOrV, mNotV, mNil, mCons, mTup, mLst, mCall, mCallK, mMeth, mMake, mFld, sSetFld, sAugFld, sSetIx, mChain, mChainT, mSl, oNone, oSome, mBM, eVar, eC, ok_bind, bad_bind, ok_st, nx_seq, rt_seq, bk_seq, ct_seq, ofO_some, List.getElem?_cons_zero, List.getElem?_cons_succ, List.set_cons_zero, List.set_cons_succ, List.length_cons, List.length_nil, List.append_nil, List.nil_append, List.cons_append, tgName, tgNil, tgCons, tgTup, setsE, List.foldl_cons, List.foldl_nil, List.map_cons, List.map_nil, tYesZ, wipeE, isNZ, PV.isN, Option.map_some, Option.bind_some, if_true, if_false, Bool.not_true, Bool.not_false, reduceIte, Bool.false_eq_true, permP, List.getD_cons_zero, List.getD_cons_succ, atI_0, atI_1, atI_2, atI_3, addZ_int, subZ_int, modZ_int, gtZ_int, ltZ_int, leZ_int, geZ_int, eqZ_int, neZ_int, intTyZ_int, truZ_bl, addI_int, maxZ_int, minZ_int, rb_bl, negZ_int, ixZ_tup, ixZ_lst, ixZ_scr, lenZ_tup, lenZ_lst, lenZ_scr, tupTyZ_lst, tupTyZ_tup, tyOk_str, Nat.reduceAdd, Nat.zero_add, lk0, lk1, lk2, lk3, lk4, lk5, lk6, lk7, lk8, lk9, lk10, lk11, lk12, and_self, and_true, true_and, Bool.and_true, Bool.true_and, Bool.and_self, Bool.or_false, Bool.false_or, cst0, cst1, cst2, cst3, cst4, cst5, cst6, cst7, cst8, cst9, cst10, cst11, cst12, sz0, sz1, sz2, sz3, sz4, sz5, sz6, sz7, sz8, sz9, sz10, sz11, sz12, is_non_int, is_non_bool, is_non_str, is_non_tuple, is_non_list, is_bl_int, is_bl_bool, is_bl_str, is_bl_tuple, is_bl_list, is_int_int, is_int_bool, is_int_str, is_int_tuple, is_int_list, is_str_int, is_str_bool, is_str_str, is_str_tuple, is_str_list, is_tup_int, is_tup_bool, is_tup_str, is_tup_tuple, is_tup_list, is_lst_int, is_lst_bool, is_lst_str, is_lst_tuple, is_lst_list, t1, t2, eqZ_str okt ok45, decide_eq_false hm]
  have e2 : lc_integer_in_0 [some (.str (S (iT i))), some (.str (S d)), none] ph = .ok (.lst ((d.map fun c => PV.str (S [c])).map fun _ => .bl true)) ph := by
    unfold lc_integer_in_0
    rw [mLC_ok (it := ⟨d.map fun c => .str (S [c]), []⟩) (ph1 := ph) (iText_S (by simp only [sSeq, sIf, sRet, sRetN, sSet, sSetL, sRetL, sExpr, sNil, sUnp, sPar2, sPar3, sAug, mBin, mBinT, mUn, mCB, mTru, mAndT, mOrT, mNotT, mIf, mAndV, mOrV, mNotV, mNil, mCons, mTup, mLst, mCall, mCallK, mMeth, mMake, mFld, sSetFld, sAugFld, sSetIx, mChain, mChainT, mSl, oNone, oSome, mBM, eVar, eC, ok_bind, bad_bind, ok_st, nx_seq, rt_seq, bk_seq, ct_seq, ofO_some, List.getElem?_cons_zero, List.getElem?_cons_succ, List.set_cons_zero, List.set_cons_succ, List.length_cons, List.length_nil, List.append_nil, List.nil_append, List.cons_append, tgName, tgNil, tgCons, tgTup, setsE, List.foldl_cons, List.foldl_nil, List.map_cons, List.map_nil, tYesZ, wipeE, isNZ, PV.isN, Option.map_some, Option.bind_some, if_true, if_false, Bool.not_true, Bool.not_false, reduceIte, Bool.false_eq_true, permP, List.getD_cons_zero, List.getD_cons_succ, atI_0, atI_1, atI_2, atI_3, addZ_int, subZ_int, modZ_int, gtZ_int, ltZ_int, leZ_int, geZ_int, eqZ_int, neZ_int, intTyZ_int, truZ_bl, addI_int, maxZ_int, minZ_int, rb_bl, negZ_int, ixZ_tup, ixZ_lst, ixZ_scr, lenZ_tup, lenZ_lst, lenZ_scr, tupTyZ_lst, tupTyZ_tup, tyOk_str, Nat.reduceAdd, Nat.zero_add, lk0, lk1, lk2, lk3, lk4, lk5, lk6, lk7, lk8, lk9, lk10, lk11, lk12, and_self, and_true, true_and, Bool.and_true, Bool.true_and, Bool.and_self, Bool.or_false, Bool.false_or, cst0, cst1, cst2, cst3, cst4, cst5, cst6, cst7, cst8, cst9, cst10, cst11, cst12, sz0, sz1, sz2, sz3, sz4, sz5, sz6, sz7, sz8, sz9, sz10, sz11, sz12, is_non_int, is_non_bool, is_non_str, is_non_tuple, is_non_list, is_bl_int, is_bl_bool, is_bl_str, is_bl_tuple, is_bl_list, is_int_int, is_int_bool, is_int_str, is_int_tuple, is_int_list, is_str_int, is_str_bool, is_str_str, is_str_tuple, is_str_list, is_tup_int, is_tup_bool, is_tup_str, is_tup_tuple, is_tup_list, is_lst_int, is_lst_bool, is_lst_str, is_lst_tuple, is_lst_list])) (by simp; omega)]
    refine lc_map0 chk0 fun p hp => ?_
    obtain ⟨c, hc, rfl⟩ := List.mem_map.mp hp
    refine ⟨[(2, .str (S [c]))], rfl, ?_⟩
    have hin : c ∈ [48, 49, 50, 51, 52, 53, 54, 55, 56, 57] := by
      have := dch c hc
      simp
      omega
    simp only [lit_0, lit_1, lit_2, lit_3, lit_4, lit_5, lit_6, lit_7, lit_8, lit_9, lit_10, lit_11, lit_12, lit_13, lit_14, lit_15]
    simp only [sSeq, sIf, sRet, sRetN, sSet, sSetL, sRetL, sExpr, sNil, sUnp, sPar2, sPar3, sAug, mBin, mBinT, mUn, mCB, mTru, mAndT, mOrT, mNotT, mIf, mAndV, mOrV, mNotV, mNil, mCons, mTup, mLst, mCall, mCallK, mMeth, mMake, mFld, sSetFld, sAugFld, sSetIx, mChain, mChainT, mSl, oNone, oSome, mBM, eVar, eC, ok_bind, bad_bind, ok_st, nx_seq, rt_seq, bk_seq, ct_seq, ofO_some, List.getElem?_cons_zero, List.getElem?_cons_succ, List.set_cons_zero, List.set_cons_succ, List.length_cons, List.length_nil, List.append_nil, List.nil_append, List.cons_append, tgName, tgNil, tgCons, tgTup, setsE, List.foldl_cons, List.foldl_nil, List.map_cons, List.map_nil, tYesZ, wipeE, isNZ, PV.isN, Option.map_some, Option.bind_some, if_true, if_false, Bool.not_true, Bool.not_false, reduceIte, Bool.false_eq_true, permP, List.getD_cons_zero, List.getD_cons_succ, atI_0, atI_1, atI_2, atI_3, addZ_int, subZ_int, modZ_int, gtZ_int, ltZ_int, leZ_int, geZ_int, eqZ_int, neZ_int, intTyZ_int, truZ_bl, addI_int, maxZ_int, minZ_int, rb_bl, negZ_int, ixZ_tup, ixZ_lst, ixZ_scr, lenZ_tup, lenZ_lst, lenZ_scr, tupTyZ_lst, tupTyZ_tup, tyOk_str, Nat.reduceAdd, Nat.zero_add, lk0, lk1, lk2, lk3, lk4, lk5, lk6, lk7, lk8, lk9, lk10, lk11, lk12, and_self, and_true, true_and, Bool.and_true, Bool.true_and, Bool.and_self, Bool.or_false, Bool.false_or, cst0, cst1, cst2, cst3, cst4, cst5, cst6, cst7, cst8, cst9, cst10, cst11, cst12, sz0, sz1, sz2, sz3, sz4, sz5, sz6, sz7, sz8, sz9, sz10, sz11, sz12, is_non_int, is_non_bool, is_non_str, is_non_tuple, is_non_list, is_bl_int, is_bl_bool, is_bl_str, is_bl_tuple, is_bl_list, is_int_int, is_int_bool, is_int_str, is_int_tuple, is_int_list, is_str_int, is_str_bool, is_str_str, is_str_tuple, is_str_list, is_tup_int, is_tup_bool, is_tup_str, is_tup_tuple, is_tup_list, is_lst_int, is_lst_bool, is_lst_str, is_lst_tuple, is_lst_list, inZ_sign, hin, decide_true]
  have e3 : allZ ph [.lst ((d.map fun c => PV.str (S [c])).map fun _ => .bl true)] = some (.bl true) := allZ_true fun v hv => by
    obtain ⟨_, _, rfl⟩ := List.mem_map.mp hv
    rfl
  have e4 : decide (d = []) = false := decide_eq_false dne
  have e5 : lenZ ph [.str (S d)] = some (.int d.length) := lenZ_str (by omega)
  have e6 : decide ((30 : Int) < d.length) = false := decide_eq_false (by omega)
  obtain ⟨c, d', hcd⟩ : ∃ c d', d = c :: d' := by
    cases d with
    | nil => exact absurd rfl dne
    | cons c d' => exact ⟨c, d', rfl⟩
  have e7 : ixZ ph (.str (S d)) (.int 0) = some (.str (S [c])) := by
    rw [hcd]
    exact ixZ_str (a := c :: d') (k := 0) (by simp) (by rw [hcd] at dl; omega)
  have okc : OkT [c] := fun x hx => by simp at hx; subst hx; exact okd _ (by rw [hcd]; exact List.mem_cons_self)
  simp only [sSeq, sSet]
  rw [e1]
  rcases d0 with h0 | h0
  · have e8 : decide ([c] = [48]) = false := decide_eq_false (by rw [hcd] at h0; simpa using h0)
    simp only [sSeq, sIf, sRet, sRetN, sSet, sSetL, sRetL, sExpr, sNil, sUnp, sPar2, sPar3, sAug, mBin, mBinT, mUn, mCB, mTru, mAndT, mOrT, mNotT, mIf, mAndV, mOrV, mNotV, mNil, mCons, mTup, mLst, mCall, mCallK, mMeth, mMake, mFld, sSetFld, sAugFld, sSetIx, mChain, mChainT, mSl, oNone, oSome, mBM, eVar, eC, ok_bind, bad_bind, ok_st, nx_seq, rt_seq, bk_seq, ct_seq, ofO_some, List.getElem?_cons_zero, List.getElem?_cons_succ, List.set_cons_zero, List.set_cons_succ, List.length_cons, List.length_nil, List.append_nil, List.nil_append, List.cons_append, tgName, tgNil, tgCons, tgTup, setsE, List.foldl_cons, List.foldl_nil, List.map_cons, List.map_nil, tYesZ, wipeE, isNZ, PV.isN, Option.map_some, Option.bind_some, if_true, if_false, Bool.not_true, Bool.not_false, reduceIte, Bool.false_eq_true, permP, List.getD_cons_zero, List.getD_cons_succ, atI_0, atI_1, atI_2, atI_3, addZ_int, subZ_int, modZ_int, gtZ_int, ltZ_int, leZ_int, geZ_int, eqZ_int, neZ_int, intTyZ_int, truZ_bl, addI_int, maxZ_int, minZ_int, rb_bl, negZ_int, ixZ_tup, ixZ_lst, ixZ_scr, lenZ_tup, lenZ_lst, lenZ_scr, tupTyZ_lst, tupTyZ_tup, tyOk_str, Nat.reduceAdd, Nat.zero_add, lk0, lk1, lk2, lk3, lk4, lk5, lk6, lk7, lk8, lk9, lk10, lk11, lk12, and_self, and_true, true_and, Bool.and_true, Bool.true_and, Bool.and_self, Bool.or_false, Bool.false_or, cst0, cst1, cst2, cst3, cst4, cst5, cst6, cst7, cst8, cst9, cst10, cst11, cst12, sz0, sz1, sz2, sz3, sz4, sz5, sz6, sz7, sz8, sz9, sz10, sz11, sz12, is_non_int, is_non_bool, is_non_str, is_non_tuple, is_non_list, is_bl_int, is_bl_bool, is_bl_str, is_bl_tuple, is_bl_list, is_int_int, is_int_bool, is_int_str, is_int_tuple, is_int_list, is_str_int, is_str_bool, is_str_str, is_str_tuple, is_str_list, is_tup_int, is_tup_bool, is_tup_str, is_tup_tuple, is_tup_list, is_lst_int, is_lst_bool, is_lst_str, is_lst_tuple, is_lst_list, e2, e3, eqZ_str okd oknil, e4, e5, e6, e7, eqZ_str okc ok48, e8, intTyZ_iT h]
  · have e10 := neZ_str (ph := ph) ok1 ok48
    rw [show decide (iT i = [48]) = true from decide_eq_true h0] at e10
    by_cases h8 : [c] = [48]
    · simp only [sSeq, sIf, sRet, sRetN, sSet, sSetL, sRetL, sExpr, sNil, sUnp, sPar2, sPar3, sAug, mBin, mBinT, mUn, mCB, mTru, mAndT, mOrT, mNotT, mIf, mAndV, mOrV, mNotV, mNil, mCons, mTup, mLst, mCall, mCallK, mMeth, mMake, mFld, sSetFld, sAugFld, sSetIx, mChain, mChainT, mSl, oNone, oSome, mBM, eVar, eC, ok_bind, bad_bind, ok_st, nx_seq, rt_seq, bk_seq, ct_seq, ofO_some, List.getElem?_cons_zero, List.getElem?_cons_succ, List.set_cons_zero, List.set_cons_succ, List.length_cons, List.length_nil, List.append_nil, List.nil_append, List.cons_append, tgName, tgNil, tgCons, tgTup, setsE, List.foldl_cons, List.foldl_nil, List.map_cons, List.map_nil, tYesZ, wipeE, isNZ, PV.isN, Option.map_some, Option.bind_some, if_true, if_false, Bool.not_true, Bool.not_false, reduceIte, Bool.false_eq_true, permP, List.getD_cons_zero, List.getD_cons_succ, atI_0, atI_1, atI_2, atI_3, addZ_int, subZ_int, modZ_int, gtZ_int, ltZ_int, leZ_int, geZ_int, eqZ_int, neZ_int, intTyZ_int, truZ_bl, addI_int, maxZ_int, minZ_int, rb_bl, negZ_int, ixZ_tup, ixZ_lst, ixZ_scr, lenZ_tup, lenZ_lst, lenZ_scr, tupTyZ_lst, tupTyZ_tup, tyOk_str, Nat.reduceAdd, Nat.zero_add, lk0, lk1, lk2, lk3, lk4, lk5, lk6, lk7, lk8, lk9, lk10, lk11, lk12, and_self, and_true, true_and, Bool.and_true, Bool.true_and, Bool.and_self, Bool.or_false, Bool.false_or, cst0, cst1, cst2, cst3, cst4, cst5, cst6, cst7, cst8, cst9, cst10, cst11, cst12, sz0, sz1, sz2, sz3, sz4, sz5, sz6, sz7, sz8, sz9, sz10, sz11, sz12, is_non_int, is_non_bool, is_non_str, is_non_tuple, is_non_list, is_bl_int, is_bl_bool, is_bl_str, is_bl_tuple, is_bl_list, is_int_int, is_int_bool, is_int_str, is_int_tuple, is_int_list, is_str_int, is_str_bool, is_str_str, is_str_tuple, is_str_list, is_tup_int, is_tup_bool, is_tup_str, is_tup_tuple, is_tup_list, is_lst_int, is_lst_bool, is_lst_str, is_lst_tuple, is_lst_list, e2, e3, eqZ_str okd oknil, e4, e5, e6, e7, eqZ_str okc ok48, decide_eq_true h8, e10, intTyZ_iT h]
    · simp only [sSeq, sIf, sRet, sRetN, sSet, sSetL, sRetL, sExpr, sNil, sUnp, sPar2, sPar3, sAug, mBin, mBinT, mUn, mCB, mTru, mAndT, mOrT, mNotT, mIf, mAndV, mOrV, mNotV, mNil, mCons, mTup, mLst, mCall, mCallK, mMeth, mMake, mFld, sSetFld, sAugFld, sSetIx, mChain, mChainT, mSl, oNone, oSome, mBM, eVar, eC, ok_bind, bad_bind, ok_st, nx_seq, rt_seq, bk_seq, ct_seq, ofO_some, List.getElem?_cons_zero, List.getElem?_cons_succ, List.set_cons_zero, List.set_cons_succ, List.length_cons, List.length_nil, List.append_nil, List.nil_append, List.cons_append, tgName, tgNil, tgCons, tgTup, setsE, List.foldl_cons, List.foldl_nil, List.map_cons, List.map_nil, tYesZ, wipeE, isNZ, PV.isN, Option.map_some, Option.bind_some, if_true, if_false, Bool.not_true, Bool.not_false, reduceIte, Bool.false_eq_true, permP, List.getD_cons_zero, List.getD_cons_succ, atI_0, atI_1, atI_2, atI_3, addZ_int, subZ_int, modZ_int, gtZ_int, ltZ_int, leZ_int, geZ_int, eqZ_int, neZ_int, intTyZ_int, truZ_bl, addI_int, maxZ_int, minZ_int, rb_bl, negZ_int, ixZ_tup, ixZ_lst, ixZ_scr, lenZ_tup, lenZ_lst, lenZ_scr, tupTyZ_lst, tupTyZ_tup, tyOk_str, Nat.reduceAdd, Nat.zero_add, lk0, lk1, lk2, lk3, lk4, lk5, lk6, lk7, lk8, lk9, lk10, lk11, lk12, and_self, and_true, true_and, Bool.and_true, Bool.true_and, Bool.and_self, Bool.or_false, Bool.false_or, cst0, cst1, cst2, cst3, cst4, cst5, cst6, cst7, cst8, cst9, cst10, cst11, cst12, sz0, sz1, sz2, sz3, sz4, sz5, sz6, sz7, sz8, sz9, sz10, sz11, sz12, is_non_int, is_non_bool, is_non_str, is_non_tuple, is_non_list, is_bl_int, is_bl_bool, is_bl_str, is_bl_tuple, is_bl_list, is_int_int, is_int_bool, is_int_str, is_int_tuple, is_int_list, is_str_int, is_str_bool, is_str_str, is_str_tuple, is_str_list, is_tup_int, is_tup_bool, is_tup_str, is_tup_tuple, is_tup_list, is_lst_int, is_lst_bool, is_lst_str, is_lst_tuple, is_lst_list, e2, e3, eqZ_str okd oknil, e4, e5, e6, e7, eqZ_str okc ok48, decide_eq_false h8, e10, intTyZ_iT h]
theorem env3_5 {a b c : PV} : envZ 5 [a, b, c] = [some a, some b, some c, none, none] := rfl
theorem words_integer {n i : Nat} {ph : PH} {W : List (List Nat)} {v lo hi : Int} (h : ph[n]? = some (wdO W i)) (hw : W[i]? = some (iT v)) (hv : IT v) (h1 : lo ≤ v) (h2 : v ≤ hi) : m_Words_integer [.loc n, .int lo, .int hi] ph = .ok (.int v) (ph.set n (wdO W (i + 1))) := by
  unfold m_Words_integer
  refine dFn_rtS ?_ (by simp)
  rw [env3_5]
  unfold b_Words_integer
  have e := words_peek h
  unfold pk at e
  rw [hw] at e
  have e1 : m_Words_peek [.loc n] ph = .ok (.str (S (iT v))) ph := e
  have e2 := words_skip h
  unfold wdO at *
  simp only [sSeq, sIf, sRet, sRetN, sSet, sSetL, sRetL, sExpr, sNil, sUnp, sPar2, sPar3, sAug, mBin, mBinT, mUn, mCB, mTru, mAndT, mOrT, mNotT, mIf, mAndV, mOrV, mNotV, mNil, mCons, mTup, mLst, mCall, mCallK, mMeth, mMake, mFld, sSetFld, sAugFld, sSetIx, mChain, mChainT, mSl, oNone, oSome, mBM, eVar, eC, ok_bind, bad_bind, ok_st, nx_seq, rt_seq, bk_seq, ct_seq, ofO_some, List.getElem?_cons_zero, List.getElem?_cons_succ, List.set_cons_zero, List.set_cons_succ, List.length_cons, List.length_nil, List.append_nil, List.nil_append, List.cons_append, tgName, tgNil, tgCons, tgTup, setsE, List.foldl_cons, List.foldl_nil, List.map_cons, List.map_nil, tYesZ, wipeE, isNZ, PV.isN, Option.map_some, Option.bind_some, if_true, if_false, Bool.not_true, Bool.not_false, reduceIte, Bool.false_eq_true, permP, List.getD_cons_zero, List.getD_cons_succ, atI_0, atI_1, atI_2, atI_3, addZ_int, subZ_int, modZ_int, gtZ_int, ltZ_int, leZ_int, geZ_int, eqZ_int, neZ_int, intTyZ_int, truZ_bl, addI_int, maxZ_int, minZ_int, rb_bl, negZ_int, ixZ_tup, ixZ_lst, ixZ_scr, lenZ_tup, lenZ_lst, lenZ_scr, tupTyZ_lst, tupTyZ_tup, tyOk_str, Nat.reduceAdd, Nat.zero_add, lk0, lk1, lk2, lk3, lk4, lk5, lk6, lk7, lk8, lk9, lk10, lk11, lk12, and_self, and_true, true_and, Bool.and_true, Bool.true_and, Bool.and_self, Bool.or_false, Bool.false_or, cst0, cst1, cst2, cst3, cst4, cst5, cst6, cst7, cst8, cst9, cst10, cst11, cst12, sz0, sz1, sz2, sz3, sz4, sz5, sz6, sz7, sz8, sz9, sz10, sz11, sz12, is_non_int, is_non_bool, is_non_str, is_non_tuple, is_non_list, is_bl_int, is_bl_bool, is_bl_str, is_bl_tuple, is_bl_list, is_int_int, is_int_bool, is_int_str, is_int_tuple, is_int_list, is_str_int, is_str_bool, is_str_str, is_str_tuple, is_str_list, is_tup_int, is_tup_bool, is_tup_str, is_tup_tuple, is_tup_list, is_lst_int, is_lst_bool, is_lst_str, is_lst_tuple, is_lst_list, insV_at h, look_peek, look_skip, e1, e2, integer_in_ok hv, decide_eq_true h1, decide_eq_true h2]
/-! calendars -/
structure Pat (cs : List Nat) : Prop where
  l0 : 1 ≤ cs.length
  l1 : cs.length ≤ 4
  ch : ∀ c ∈ cs, c = 111 ∨ c = 45
  o : 111 ∈ cs
theorem Pat.ok {cs : List Nat} (p : Pat cs) : OkT cs := fun c hc => by rcases p.ch c hc with rfl | rfl <;> omega
def calP (pt : List Nat) (cl op : List (Int × Int)) : PV := .tup [.str (S pt), spansP cl, spansP op]
theorem law_calendar_ok {N l : Nat} {ph : PH} (u : U N l ph) (hN : N ≤ 10 ^ 4) : ∃ pt cl op ph', m_law_calendar [.loc l] ph = .ok (calP pt cl op) ph' ∧ Pat pt ∧ Sp cl ∧ Sp op ∧ U (N + 30) l ph' ∧ Stp l ph ph' := by
  obtain ⟨r1, p1, a1, a2, a3, u1, s1⟩ := draw (m := 4) u (by omega) (by omega) (by omega)
  have hlc : ∃ vs p2, lc_law_calendar_0 [some (.loc l), some (.int (1 + r1)), none, none, none] p1 = .ok (.lst vs) p2 ∧ vs.length = (1 + r1).toNat ∧ (∀ v ∈ vs, ∃ c, v = .str (S [c]) ∧ (c = 111 ∨ c = 45)) ∧ U (N + 1 + vs.length) l p2 ∧ Stp l p1 p2 := by
    unfold lc_law_calendar_0
    rw [mLC_ok (it := ⟨rngI 0 (1 + r1), []⟩) (ph1 := p1) (iRange1_ok (by simp only [sSeq, sIf, sRet, sRetN, sSet, sSetL, sRetL, sExpr, sNil, sUnp, sPar2, sPar3, sAug, mBin, mBinT, mUn, mCB, mTru, mAndT, mOrT, mNotT, mIf, mAndV, mOrV, mNotV, mNil, mCons, mTup, mLst, mCall, mCallK, mMeth, mMake, mFld, sSetFld, sAugFld, sSetIx, mChain, mChainT, mSl, oNone, oSome, mBM, eVar, eC, ok_bind, bad_bind, ok_st, nx_seq, rt_seq, bk_seq, ct_seq, ofO_some, List.getElem?_cons_zero, List.getElem?_cons_succ, List.set_cons_zero, List.set_cons_succ, List.length_cons, List.length_nil, List.append_nil, List.nil_append, List.cons_append, tgName, tgNil, tgCons, tgTup, setsE, List.foldl_cons, List.foldl_nil, List.map_cons, List.map_nil, tYesZ, wipeE, isNZ, PV.isN, Option.map_some, Option.bind_some, if_true, if_false, Bool.not_true, Bool.not_false, reduceIte, Bool.false_eq_true, permP, List.getD_cons_zero, List.getD_cons_succ, atI_0, atI_1, atI_2, atI_3, addZ_int, subZ_int, modZ_int, gtZ_int, ltZ_int, leZ_int, geZ_int, eqZ_int, neZ_int, intTyZ_int, truZ_bl, addI_int, maxZ_int, minZ_int, rb_bl, negZ_int, ixZ_tup, ixZ_lst, ixZ_scr, lenZ_tup, lenZ_lst, lenZ_scr, tupTyZ_lst, tupTyZ_tup, tyOk_str, Nat.reduceAdd, Nat.zero_add, lk0, lk1, lk2, lk3, lk4, lk5, lk6, lk7, lk8, lk9, lk10, lk11, lk12, and_self, and_true, true_and, Bool.and_true, Bool.true_and, Bool.and_self, Bool.or_false, Bool.false_or, cst0, cst1, cst2, cst3, cst4, cst5, cst6, cst7, cst8, cst9, cst10, cst11, cst12, sz0, sz1, sz2, sz3, sz4, sz5, sz6, sz7, sz8, sz9, sz10, sz11, sz12, is_non_int, is_non_bool, is_non_str, is_non_tuple, is_non_list, is_bl_int, is_bl_bool, is_bl_str, is_bl_tuple, is_bl_list, is_int_int, is_int_bool, is_int_str, is_int_tuple, is_int_list, is_str_int, is_str_bool, is_str_str, is_str_tuple, is_str_list, is_tup_int, is_tup_bool, is_tup_str, is_tup_tuple, is_tup_list, is_lst_int, is_lst_bool, is_lst_str, is_lst_tuple, is_lst_list]) (by omega) (by omega)) (by rw [rngI_len]; omega)]
    obtain ⟨vs, p4, h1, h2, h3, h4, h5⟩ := lc_U (it := ⟨rngI 0 (1 + r1), []⟩) (g := tgName 4) (e := mBin ixZ (eC (.str "o-")) (mCall 2 (m_law_draw) [] (mCons (eVar 0) (mCons (eC (.int 2)) (mNil))))) (w := wipeE [some (.loc l), some (.int (1 + r1)), none, none, none] [4]) (P := fun v => ∃ c, v = .str (S [c]) ∧ (c = 111 ∨ c = 45)) rfl u1 (by rw [rngI_len]; omega) fun p _ n q hn uq => by
      obtain ⟨r, q', d1, d2, d3, d4, d5⟩ := draw (m := 2) uq hn (by omega) (by omega)
      have e1 : ∃ c, ixZ q' (.str (S [111, 45])) (.int r) = some (.str (S [c])) ∧ (c = 111 ∨ c = 45) := by
        have : r = 0 ∨ r = 1 := by omega
        rcases this with rfl | rfl
        · exact ⟨111, ixZ_str (a := [111, 45]) (k := 0) (by decide) (by decide), .inl rfl⟩
        · exact ⟨45, ixZ_str (a := [111, 45]) (k := 1) (by decide) (by decide), .inr rfl⟩
      obtain ⟨c, e1, e2⟩ := e1
      exact ⟨[(4, p)], .str (S [c]), q', rfl, by simp only [lit_0, lit_1, lit_2, lit_3, lit_4, lit_5, lit_6, lit_7, lit_8, lit_9, lit_10, lit_11, lit_12, lit_13, lit_14, lit_15]; simp only [sSeq, sIf, sRet, sRetN, sSet, sSetL, sRetL, sExpr, sNil, sUnp, sPar2, sPar3, sAug, mBin, mBinT, mUn, mCB, mTru, mAndT, mOrT, mNotT, mIf, mAndV, mOrV, mNotV, mNil, mCons, mTup, mLst, mCall, mCallK, mMeth, mMake, mFld, sSetFld, sAugFld, sSetIx, mChain, mChainT, mSl, oNone, oSome, mBM, eVar, eC, ok_bind, bad_bind, ok_st, nx_seq, rt_seq, bk_seq, ct_seq, ofO_some, List.getElem?_cons_zero, List.getElem?_cons_succ, List.set_cons_zero, List.set_cons_succ, List.length_cons, List.length_nil, List.append_nil, List.nil_append, List.cons_append, tgName, tgNil, tgCons, tgTup, setsE, List.foldl_cons, List.foldl_nil, List.map_cons, List.map_nil, tYesZ, wipeE, isNZ, PV.isN, Option.map_some, Option.bind_some, if_true, if_false, Bool.not_true, Bool.not_false, reduceIte, Bool.false_eq_true, permP, List.getD_cons_zero, List.getD_cons_succ, atI_0, atI_1, atI_2, atI_3, addZ_int, subZ_int, modZ_int, gtZ_int, ltZ_int, leZ_int, geZ_int, eqZ_int, neZ_int, intTyZ_int, truZ_bl, addI_int, maxZ_int, minZ_int, rb_bl, negZ_int, ixZ_tup, ixZ_lst, ixZ_scr, lenZ_tup, lenZ_lst, lenZ_scr, tupTyZ_lst, tupTyZ_tup, tyOk_str, Nat.reduceAdd, Nat.zero_add, lk0, lk1, lk2, lk3, lk4, lk5, lk6, lk7, lk8, lk9, lk10, lk11, lk12, and_self, and_true, true_and, Bool.and_true, Bool.true_and, Bool.and_self, Bool.or_false, Bool.false_or, cst0, cst1, cst2, cst3, cst4, cst5, cst6, cst7, cst8, cst9, cst10, cst11, cst12, sz0, sz1, sz2, sz3, sz4, sz5, sz6, sz7, sz8, sz9, sz10, sz11, sz12, is_non_int, is_non_bool, is_non_str, is_non_tuple, is_non_list, is_bl_int, is_bl_bool, is_bl_str, is_bl_tuple, is_bl_list, is_int_int, is_int_bool, is_int_str, is_int_tuple, is_int_list, is_str_int, is_str_bool, is_str_str, is_str_tuple, is_str_list, is_tup_int, is_tup_bool, is_tup_str, is_tup_tuple, is_tup_list, is_lst_int, is_lst_bool, is_lst_str, is_lst_tuple, is_lst_list, d1, e1], ⟨_, rfl, e2⟩, d4, d5⟩
    simp only [rngI_len] at h2 h4
    exact ⟨vs, p4, h1, h2, h3, by rw [h2]; exact h4, h5⟩
  obtain ⟨vs, p2, e1, e2, e3, u2, s2⟩ := hlc
  obtain ⟨cs, rfl, w1, w2⟩ := signs_of e3
  have hj : joinZ p2 (.str (S [])) [.lst ((sgs cs).map fun w => .str (S w))] = some (.str (S cs), p2) := joinZ_signs (by simp [seqA, rz, sgs]) (by omega)
  have hcl : cs.length = (1 + r1).toNat := by omega
  by_cases ho : 111 ∈ cs
  · obtain ⟨cl, p3, f1, f2, u3, s3⟩ := law_spans_ok u2 (by omega)
    obtain ⟨op, p4, g1, g2, u4, s4⟩ := law_spans_ok u3 (by omega)
    have st := ((s1.trans s2).trans s3).trans s4
    refine ⟨cs, cl, op, p4, ?_, ⟨by omega, by omega, w2, ho⟩, f2, g2, u4.mono (by omega), st⟩
    unfold m_law_calendar
    refine dFn_rtS ?_ st.len
    rw [env1_5]
    unfold b_law_calendar
    simp only [lit_0, lit_1, lit_2, lit_3, lit_4, lit_5, lit_6, lit_7, lit_8, lit_9, lit_10, lit_11, lit_12, lit_13, lit_14, lit_15]
    simp only [sSeq, sIf, sRet, sRetN, sSet, sSetL, sRetL, sExpr, sNil, sUnp, sPar2, sPar3, sAug, mBin, mBinT, mUn, mCB, mTru, mAndT, mOrT, mNotT, mIf, mAndV, mOrV, mNotV, mNil, mCons, mTup, mLst, mCall, mCallK, mMeth, mMake, mFld, sSetFld, sAugFld, sSetIx, mChain, mChainT, mSl, oNone, oSome, mBM, eVar, eC, ok_bind, bad_bind, ok_st, nx_seq, rt_seq, bk_seq, ct_seq, ofO_some, List.getElem?_cons_zero, List.getElem?_cons_succ, List.set_cons_zero, List.set_cons_succ, List.length_cons, List.length_nil, List.append_nil, List.nil_append, List.cons_append, tgName, tgNil, tgCons, tgTup, setsE, List.foldl_cons, List.foldl_nil, List.map_cons, List.map_nil, tYesZ, wipeE, isNZ, PV.isN, Option.map_some, Option.bind_some, if_true, if_false, Bool.not_true, Bool.not_false, reduceIte, Bool.false_eq_true, permP, List.getD_cons_zero, List.getD_cons_succ, atI_0, atI_1, atI_2, atI_3, addZ_int, subZ_int, modZ_int, gtZ_int, ltZ_int, leZ_int, geZ_int, eqZ_int, neZ_int, intTyZ_int, truZ_bl, addI_int, maxZ_int, minZ_int, rb_bl, negZ_int, ixZ_tup, ixZ_lst, ixZ_scr, lenZ_tup, lenZ_lst, lenZ_scr, tupTyZ_lst, tupTyZ_tup, tyOk_str, Nat.reduceAdd, Nat.zero_add, lk0, lk1, lk2, lk3, lk4, lk5, lk6, lk7, lk8, lk9, lk10, lk11, lk12, and_self, and_true, true_and, Bool.and_true, Bool.true_and, Bool.and_self, Bool.or_false, Bool.false_or, cst0, cst1, cst2, cst3, cst4, cst5, cst6, cst7, cst8, cst9, cst10, cst11, cst12, sz0, sz1, sz2, sz3, sz4, sz5, sz6, sz7, sz8, sz9, sz10, sz11, sz12, is_non_int, is_non_bool, is_non_str, is_non_tuple, is_non_list, is_bl_int, is_bl_bool, is_bl_str, is_bl_tuple, is_bl_list, is_int_int, is_int_bool, is_int_str, is_int_tuple, is_int_list, is_str_int, is_str_bool, is_str_str, is_str_tuple, is_str_list, is_tup_int, is_tup_bool, is_tup_str, is_tup_tuple, is_tup_list, is_lst_int, is_lst_bool, is_lst_str, is_lst_tuple, is_lst_list, a1, e1, hj, ninZ_sign, decide_eq_true ho, f1, g1]
    rfl
  · obtain ⟨r2, p5, b1, b2, b3, u5, s5⟩ := draw (m := 1 + r1) u2 (by omega) (by omega) (by omega)
    obtain ⟨cl, p3, f1, f2, u3, s3⟩ := law_spans_ok u5 (by omega)
    obtain ⟨op, p4, g1, g2, u4, s4⟩ := law_spans_ok u3 (by omega)
    have st := (((s1.trans s2).trans s5).trans s3).trans s4
    have t1 := slZ_to (ph := p5) (a := cs) (i := r2) b2 (by omega)
    have t2 := slZ_from (ph := p5) (a := cs) (i := r2 + 1) (by omega) (by omega)
    refine ⟨cs.take r2.toNat ++ [111] ++ cs.drop (r2 + 1).toNat, cl, op, p4, ?_, ⟨by simp; omega, by simp; omega, fun c hc => ?_, by simp⟩, f2, g2, u4.mono (by omega), st⟩
    · unfold m_law_calendar
      refine dFn_rtS ?_ st.len
      rw [env1_5]
      unfold b_law_calendar
      simp only [lit_0, lit_1, lit_2, lit_3, lit_4, lit_5, lit_6, lit_7, lit_8, lit_9, lit_10, lit_11, lit_12, lit_13, lit_14, lit_15]
      simp only [sSeq, sIf, sRet, sRetN, sSet, sSetL, sRetL, sExpr, sNil, sUnp, sPar2, sPar3, sAug, mBin, mBinT, mUn, mCB, mTru, mAndT, mOrT, mNotT, mIf, mAndV, mOrV, mNotV, mNil, mCons, mTup, mLst, mCall, mCallK, mMeth, mMake, mFld, sSetFld, sAugFld, sSetIx, mChain, mChainT, mSl, oNone, oSome, mBM, eVar, eC, ok_bind, bad_bind, ok_st, nx_seq, rt_seq, bk_seq, ct_seq, ofO_some, List.getElem?_cons_zero, List.getElem?_cons_succ, List.set_cons_zero, List.set_cons_succ, List.length_cons, List.length_nil, List.append_nil, List.nil_append, List.cons_append, tgName, tgNil, tgCons, tgTup, setsE, List.foldl_cons, List.foldl_nil, List.map_cons, List.map_nil, tYesZ, wipeE, isNZ, PV.isN, Option.map_some, Option.bind_some, if_true, if_false, Bool.not_true, Bool.not_false, reduceIte, Bool.false_eq_true, permP, List.getD_cons_zero, List.getD_cons_succ, atI_0, atI_1, atI_2, atI_3, addZ_int, subZ_int, modZ_int, gtZ_int, ltZ_int, leZ_int, geZ_int, eqZ_int, neZ_int, intTyZ_int, truZ_bl, addI_int, maxZ_int, minZ_int, rb_bl, negZ_int, ixZ_tup, ixZ_lst, ixZ_scr, lenZ_tup, lenZ_lst, lenZ_scr, tupTyZ_lst, tupTyZ_tup, tyOk_str, Nat.reduceAdd, Nat.zero_add, lk0, lk1, lk2, lk3, lk4, lk5, lk6, lk7, lk8, lk9, lk10, lk11, lk12, and_self, and_true, true_and, Bool.and_true, Bool.true_and, Bool.and_self, Bool.or_false, Bool.false_or, cst0, cst1, cst2, cst3, cst4, cst5, cst6, cst7, cst8, cst9, cst10, cst11, cst12, sz0, sz1, sz2, sz3, sz4, sz5, sz6, sz7, sz8, sz9, sz10, sz11, sz12, is_non_int, is_non_bool, is_non_str, is_non_tuple, is_non_list, is_bl_int, is_bl_bool, is_bl_str, is_bl_tuple, is_bl_list, is_int_int, is_int_bool, is_int_str, is_int_tuple, is_int_list, is_str_int, is_str_bool, is_str_str, is_str_tuple, is_str_list, is_tup_int, is_tup_bool, is_tup_str, is_tup_tuple, is_tup_list, is_lst_int, is_lst_bool, is_lst_str, is_lst_tuple, is_lst_list, a1, e1, hj, ninZ_sign, decide_eq_false ho, b1, t1, t2, addZ_str (ph := p5) (a := cs.take r2.toNat) (b := [111]) (by simp; omega), addZ_str (ph := p5) (a := cs.take r2.toNat ++ [111]) (b := cs.drop (r2 + 1).toNat) (by simp; omega), f1, g1]
      rfl
    · rcases List.mem_append.mp hc with h | h
      · rcases List.mem_append.mp h with h | h
        · exact w2 c (List.mem_of_mem_take h)
        · simp at h; exact .inl h
      · exact w2 c (List.mem_of_mem_drop h)

/-! calendars as texts -/
def nmC : List Nat := [99, 108, 111, 115, 101, 100]
def nmO : List Nat := [111, 112, 101, 110, 101, 100]
def wpc (nm : List Nat) (p : Int × Int) : List Nat := 32 :: (nm ++ 32 :: (iT p.1 ++ 32 :: iT p.2))
def wtext (nm : List Nat) (xs : List (Int × Int)) : List Nat := xs.flatMap (wpc nm)
def ctext (pt : List Nat) (cl op : List (Int × Int)) : List Nat := pt ++ wtext nmC cl ++ wtext nmO op
theorem Sp.ok {xs : List (Int × Int)} (s : Sp xs) : ∀ p ∈ xs, okS p := by
  cases s with
  | nil => exact fun _ h => absurd h List.not_mem_nil
  | one h => intro p hp; simp at hp; subst hp; exact h
  | two h k l => intro p hp; simp at hp; rcases hp with rfl | rfl <;> assumption
theorem Sp.len {xs : List (Int × Int)} (s : Sp xs) : xs.length ≤ 2 := by cases s <;> simp
theorem okS.it {p : Int × Int} (h : okS p) : IT p.1 ∧ IT p.2 := ⟨iT_ok h.1 (by have := h.2.1; have := h.2.2; omega), iT_ok (by have := h.1; have := h.2.1; omega) h.2.2⟩
theorem wpc_len {nm : List Nat} {p : Int × Int} (hn : nm.length = 6) (h : okS p) : (wpc nm p).length ≤ 15 := by
  have h1 := h.it.1.len
  have h2 := h.it.2.len
  simp [wpc]
  omega
theorem wtext_len {nm : List Nat} (hn : nm.length = 6) : ∀ {xs : List (Int × Int)}, (∀ p ∈ xs, okS p) → (wtext nm xs).length ≤ 15 * xs.length
  | [], _ => by simp [wtext]
  | p :: xs, h => by
    have ih := wtext_len hn fun q hq => h q (List.mem_cons_of_mem p hq)
    have h1 := wpc_len hn (h p List.mem_cons_self)
    have e : wtext nm (p :: xs) = wpc nm p ++ wtext nm xs := rfl
    rw [e, List.length_append, List.length_cons]
    omega
theorem wtext_take {nm : List Nat} {xs : List (Int × Int)} {k : Nat} {p : Int × Int} (h : xs[k]? = some p) : wtext nm (xs.take (k + 1)) = wtext nm (xs.take k) ++ wpc nm p := by
  obtain ⟨hk, e⟩ := List.getElem?_eq_some_iff.mp h
  rw [List.take_succ_eq_append_getElem hk, e]
  simp [wtext]
theorem ixP0 {ph : PH} {pt : List Nat} {cl op : List (Int × Int)} : ixZ ph (calP pt cl op) (.int 0) = some (.str (S pt)) := rfl
theorem ixP1 {ph : PH} {pt : List Nat} {cl op : List (Int × Int)} : ixZ ph (calP pt cl op) (.int 1) = some (spansP cl) := rfl
theorem ixP2 {ph : PH} {pt : List Nat} {cl op : List (Int × Int)} : ixZ ph (calP pt cl op) (.int 2) = some (spansP op) := rfl
theorem span_get {xs : List (Int × Int)} {k : Nat} {p : PV} (h : (xs.map spanP)[k]? = some p) : ∃ q, xs[k]? = some q ∧ p = spanP q := by
  rw [List.getElem?_map] at h
  cases e : xs[k]? with
  | none => rw [e] at h; cases h
  | some q => rw [e] at h; cases h; exact ⟨q, rfl, rfl⟩
/-- one pass over the spans of a text -/
theorem written_loop {ph : PH} {nm : List Nat} (hn : nm.length = 6) {xs : List (Int × Int)} (s : Sp xs) {c v2 v3 : Option PV} {T : List Nat} (hT : T.length ≤ 1000) :
    ∃ v2' v3', forZ ⟨xs.map spanP, []⟩ (tgTup 2 (tgCons (tgName 2) (tgCons (tgName 3) (tgNil)))) (sSet 1 (mBin addZ (mBin addZ (mBin addZ (mBin addZ (eVar 1) (eC (.str (S (32 :: (nm ++ [32])))))) (mCB strTyZ (mCons (eVar 2) (mNil)))) (eC (.str (S [32])))) (mCB strTyZ (mCons (eVar 3) (mNil))))) (xs.map spanP) [c, some (.str (S T)), v2, v3] ph
      = .nx [c, some (.str (S (T ++ wtext nm xs))), v2', v3'] ph := by
  have hz := for_inv (it := ⟨xs.map spanP, []⟩) (g := tgTup 2 (tgCons (tgName 2) (tgCons (tgName 3) (tgNil)))) (b := sSet 1 (mBin addZ (mBin addZ (mBin addZ (mBin addZ (eVar 1) (eC (.str (S (32 :: (nm ++ [32])))))) (mCB strTyZ (mCons (eVar 2) (mNil)))) (eC (.str (S [32])))) (mCB strTyZ (mCons (eVar 3) (mNil)))))
    (J := fun k env q => q = ph ∧ ∃ v2' v3', env = [c, some (.str (S (T ++ wtext nm (xs.take k)))), v2', v3']) (xs.map spanP) 0 [c, some (.str (S T)), v2, v3] ph
  obtain ⟨env', ph', f1, rfl, v2', v3', rfl⟩ := hz (fun k x hx env q hj => by
    obtain ⟨rfl, v2, v3, rfl⟩ := hj
    obtain ⟨p, hp, rfl⟩ := span_get hx
    have hok := s.ok p (List.mem_of_getElem? hp)
    obtain ⟨i1, i2⟩ := hok.it
    have l1 := i1.len
    have l2 := i2.len
    have hsl := s.len
    simp only [Nat.zero_add]
    have hl : (wtext nm (xs.take k)).length ≤ 30 := by
      have := wtext_len (nm := nm) hn (xs := xs.take k) fun q hq => s.ok q (List.mem_of_mem_take hq)
      have : (xs.take k).length ≤ 2 := by simp; omega
      omega
    refine ⟨chk0, [(2, .int p.1), (3, .int p.2)], _, q, rfl, .inl ?_, rfl, some (.int p.1), some (.int p.2), rfl⟩
    rw [wtext_take hp]
    simp only [sSeq, sIf, sRet, sRetN, sSet, sSetL, sRetL, sExpr, sNil, sUnp, sPar2, sPar3, sAug, mBin, mBinT, mUn, mCB, mTru, mAndT, mOrT, mNotT, mIf, mAndV, mOrV, mNotV, mNil, mCons, mTup, mLst, mCall, mCallK, mMeth, mMake, mFld, sSetFld, sAugFld, sSetIx, mChain, mChainT, mSl, oNone, oSome, mBM, eVar, eC, ok_bind, bad_bind, ok_st, nx_seq, rt_seq, bk_seq, ct_seq, ofO_some, List.getElem?_cons_zero, List.getElem?_cons_succ, List.set_cons_zero, List.set_cons_succ, List.length_cons, List.length_nil, List.append_nil, List.nil_append, List.cons_append, tgName, tgNil, tgCons, tgTup, setsE, List.foldl_cons, List.foldl_nil, List.map_cons, List.map_nil, tYesZ, wipeE, isNZ, PV.isN, Option.map_some, Option.bind_some, if_true, if_false, Bool.not_true, Bool.not_false, reduceIte, Bool.false_eq_true, permP, List.getD_cons_zero, List.getD_cons_succ, atI_0, atI_1, atI_2, atI_3, addZ_int, subZ_int, modZ_int, gtZ_int, ltZ_int, leZ_int, geZ_int, eqZ_int, neZ_int, intTyZ_int, truZ_bl, addI_int, maxZ_int, minZ_int, rb_bl, negZ_int, ixZ_tup, ixZ_lst, ixZ_scr, lenZ_tup, lenZ_lst, lenZ_scr, tupTyZ_lst, tupTyZ_tup, tyOk_str, Nat.reduceAdd, Nat.zero_add, lk0, lk1, lk2, lk3, lk4, lk5, lk6, lk7, lk8, lk9, lk10, lk11, lk12, and_self, and_true, true_and, Bool.and_true, Bool.true_and, Bool.and_self, Bool.or_false, Bool.false_or, cst0, cst1, cst2, cst3, cst4, cst5, cst6, cst7, cst8, cst9, cst10, cst11, cst12, sz0, sz1, sz2, sz3, sz4, sz5, sz6, sz7, sz8, sz9, sz10, sz11, sz12, is_non_int, is_non_bool, is_non_str, is_non_tuple, is_non_list, is_bl_int, is_bl_bool, is_bl_str, is_bl_tuple, is_bl_list, is_int_int, is_int_bool, is_int_str, is_int_tuple, is_int_list, is_str_int, is_str_bool, is_str_str, is_str_tuple, is_str_list, is_tup_int, is_tup_bool, is_tup_str, is_tup_tuple, is_tup_list, is_lst_int, is_lst_bool, is_lst_str, is_lst_tuple, is_lst_list, strTyZ_iT i1, strTyZ_iT i2, addZ_str (ph := q) (a := T ++ wtext nm (xs.take k)) (b := 32 :: (nm ++ [32])) (by simp; omega), addZ_str (ph := q) (a := T ++ wtext nm (xs.take k) ++ 32 :: (nm ++ [32])) (b := iT p.1) (by simp; omega),
      addZ_str (ph := q) (a := T ++ wtext nm (xs.take k) ++ 32 :: (nm ++ [32]) ++ iT p.1) (b := [32]) (by simp; omega), addZ_str (ph := q) (a := T ++ wtext nm (xs.take k) ++ 32 :: (nm ++ [32]) ++ iT p.1 ++ [32]) (b := iT p.2) (by simp; omega)]
    simp [wpc]) (fun _ _ _ => chk0) ⟨rfl, v2, v3, by simp [wtext]⟩
  refine ⟨v2', v3', ?_⟩
  rw [f1]
  simp
theorem law_written_ok {pt : List Nat} {cl op : List (Int × Int)} {ph : PH} (p : Pat pt) (c : Sp cl) (o : Sp op) : m_law_written [calP pt cl op] ph = .ok (.str (S (ctext pt cl op))) ph := by
  have hp := p.l1
  have hcl := wtext_len (nm := nmC) rfl c.ok
  have hc2 := c.len
  obtain ⟨v2, v3, e1⟩ := written_loop (ph := ph) (nm := nmC) rfl c (c := some (calP pt cl op)) (v2 := none) (v3 := none) (T := pt) (by omega)
  obtain ⟨v4, v5, e2⟩ := written_loop (ph := ph) (nm := nmO) rfl o (c := some (calP pt cl op)) (v2 := v2) (v3 := v3) (T := pt ++ wtext nmC cl) (by simp; omega)
  unfold m_law_written
  refine dFn_rt ?_
  rw [env1_4]
  have f1 : fo_law_written_0 [some (calP pt cl op), some (.str (S pt)), none, none] ph = .nx [some (calP pt cl op), some (.str (S (pt ++ wtext nmC cl))), v2, v3] ph := by
    unfold fo_law_written_0
    rw [sFor_ok (it := ⟨cl.map spanP, []⟩) (ph1 := ph) (iSeq_tup (by simp only [sSeq, sIf, sRet, sRetN, sSet, sSetL, sRetL, sExpr, sNil, sUnp, sPar2, sPar3, sAug, mBin, mBinT, mUn, mCB, mTru, mAndT, mOrT, mNotT, mIf, mAndV, mOrV, mNotV, mNil, mCons, mTup, mLst, mCall, mCallK, mMeth, mMake, mFld, sSetFld, sAugFld, sSetIx, mChain, mChainT, mSl, oNone, oSome, mBM, eVar, eC, ok_bind, bad_bind, ok_st, nx_seq, rt_seq, bk_seq, ct_seq, ofO_some, List.getElem?_cons_zero, List.getElem?_cons_succ, List.set_cons_zero, List.set_cons_succ, List.length_cons, List.length_nil, List.append_nil, List.nil_append, List.cons_append, tgName, tgNil, tgCons, tgTup, setsE, List.foldl_cons, List.foldl_nil, List.map_cons, List.map_nil, tYesZ, wipeE, isNZ, PV.isN, Option.map_some, Option.bind_some, if_true, if_false, Bool.not_true, Bool.not_false, reduceIte, Bool.false_eq_true, permP, List.getD_cons_zero, List.getD_cons_succ, atI_0, atI_1, atI_2, atI_3, addZ_int, subZ_int, modZ_int, gtZ_int, ltZ_int, leZ_int, geZ_int, eqZ_int, neZ_int, intTyZ_int, truZ_bl, addI_int, maxZ_int, minZ_int, rb_bl, negZ_int, ixZ_tup, ixZ_lst, ixZ_scr, lenZ_tup, lenZ_lst, lenZ_scr, tupTyZ_lst, tupTyZ_tup, tyOk_str, Nat.reduceAdd, Nat.zero_add, lk0, lk1, lk2, lk3, lk4, lk5, lk6, lk7, lk8, lk9, lk10, lk11, lk12, and_self, and_true, true_and, Bool.and_true, Bool.true_and, Bool.and_self, Bool.or_false, Bool.false_or, cst0, cst1, cst2, cst3, cst4, cst5, cst6, cst7, cst8, cst9, cst10, cst11, cst12, sz0, sz1, sz2, sz3, sz4, sz5, sz6, sz7, sz8, sz9, sz10, sz11, sz12, is_non_int, is_non_bool, is_non_str, is_non_tuple, is_non_list, is_bl_int, is_bl_bool, is_bl_str, is_bl_tuple, is_bl_list, is_int_int, is_int_bool, is_int_str, is_int_tuple, is_int_list, is_str_int, is_str_bool, is_str_str, is_str_tuple, is_str_list, is_tup_int, is_tup_bool, is_tup_str, is_tup_tuple, is_tup_list, is_lst_int, is_lst_bool, is_lst_str, is_lst_tuple, is_lst_list, ixP1]; rfl))]
    simp only [lit_0, lit_1, lit_2, lit_3, lit_4, lit_5, lit_6, lit_7, lit_8, lit_9, lit_10, lit_11, lit_12, lit_13, lit_14, lit_15]
    exact e1
  have f2 : fo_law_written_1 [some (calP pt cl op), some (.str (S (pt ++ wtext nmC cl))), v2, v3] ph = .nx [some (calP pt cl op), some (.str (S (pt ++ wtext nmC cl ++ wtext nmO op))), v4, v5] ph := by
    unfold fo_law_written_1
    rw [sFor_ok (it := ⟨op.map spanP, []⟩) (ph1 := ph) (iSeq_tup (by simp only [sSeq, sIf, sRet, sRetN, sSet, sSetL, sRetL, sExpr, sNil, sUnp, sPar2, sPar3, sAug, mBin, mBinT, mUn, mCB, mTru, mAndT, mOrT, mNotT, mIf, mAndV, mOrV, mNotV, mNil, mCons, mTup, mLst, mCall, mCallK, mMeth, mMake, mFld, sSetFld, sAugFld, sSetIx, mChain, mChainT, mSl, oNone, oSome, mBM, eVar, eC, ok_bind, bad_bind, ok_st, nx_seq, rt_seq, bk_seq, ct_seq, ofO_some, List.getElem?_cons_zero, List.getElem?_cons_succ, List.set_cons_zero, List.set_cons_succ, List.length_cons, List.length_nil, List.append_nil, List.nil_append, List.cons_append, tgName, tgNil, tgCons, tgTup, setsE, List.foldl_cons, List.foldl_nil, List.map_cons, List.map_nil, tYesZ, wipeE, isNZ, PV.isN, Option.map_some, Option.bind_some, if_true, if_false, Bool.not_true, Bool.not_false, reduceIte, Bool.false_eq_true, permP, List.getD_cons_zero, List.getD_cons_succ, atI_0, atI_1, atI_2, atI_3, addZ_int, subZ_int, modZ_int, gtZ_int, ltZ_int, leZ_int, geZ_int, eqZ_int, neZ_int, intTyZ_int, truZ_bl, addI_int, maxZ_int, minZ_int, rb_bl, negZ_int, ixZ_tup, ixZ_lst, ixZ_scr, lenZ_tup, lenZ_lst, lenZ_scr, tupTyZ_lst, tupTyZ_tup, tyOk_str, Nat.reduceAdd, Nat.zero_add, lk0, lk1, lk2, lk3, lk4, lk5, lk6, lk7, lk8, lk9, lk10, lk11, lk12, and_self, and_true, true_and, Bool.and_true, Bool.true_and, Bool.and_self, Bool.or_false, Bool.false_or, cst0, cst1, cst2, cst3, cst4, cst5, cst6, cst7, cst8, cst9, cst10, cst11, cst12, sz0, sz1, sz2, sz3, sz4, sz5, sz6, sz7, sz8, sz9, sz10, sz11, sz12, is_non_int, is_non_bool, is_non_str, is_non_tuple, is_non_list, is_bl_int, is_bl_bool, is_bl_str, is_bl_tuple, is_bl_list, is_int_int, is_int_bool, is_int_str, is_int_tuple, is_int_list, is_str_int, is_str_bool, is_str_str, is_str_tuple, is_str_list, is_tup_int, is_tup_bool, is_tup_str, is_tup_tuple, is_tup_list, is_lst_int, is_lst_bool, is_lst_str, is_lst_tuple, is_lst_list, ixP2]; rfl))]
    simp only [lit_0, lit_1, lit_2, lit_3, lit_4, lit_5, lit_6, lit_7, lit_8, lit_9, lit_10, lit_11, lit_12, lit_13, lit_14, lit_15]
    exact e2
  unfold b_law_written
  simp only [sSeq, sIf, sRet, sRetN, sSet, sSetL, sRetL, sExpr, sNil, sUnp, sPar2, sPar3, sAug, mBin, mBinT, mUn, mCB, mTru, mAndT, mOrT, mNotT, mIf, mAndV, mOrV, mNotV, mNil, mCons, mTup, mLst, mCall, mCallK, mMeth, mMake, mFld, sSetFld, sAugFld, sSetIx, mChain, mChainT, mSl, oNone, oSome, mBM, eVar, eC, ok_bind, bad_bind, ok_st, nx_seq, rt_seq, bk_seq, ct_seq, ofO_some, List.getElem?_cons_zero, List.getElem?_cons_succ, List.set_cons_zero, List.set_cons_succ, List.length_cons, List.length_nil, List.append_nil, List.nil_append, List.cons_append, tgName, tgNil, tgCons, tgTup, setsE, List.foldl_cons, List.foldl_nil, List.map_cons, List.map_nil, tYesZ, wipeE, isNZ, PV.isN, Option.map_some, Option.bind_some, if_true, if_false, Bool.not_true, Bool.not_false, reduceIte, Bool.false_eq_true, permP, List.getD_cons_zero, List.getD_cons_succ, atI_0, atI_1, atI_2, atI_3, addZ_int, subZ_int, modZ_int, gtZ_int, ltZ_int, leZ_int, geZ_int, eqZ_int, neZ_int, intTyZ_int, truZ_bl, addI_int, maxZ_int, minZ_int, rb_bl, negZ_int, ixZ_tup, ixZ_lst, ixZ_scr, lenZ_tup, lenZ_lst, lenZ_scr, tupTyZ_lst, tupTyZ_tup, tyOk_str, Nat.reduceAdd, Nat.zero_add, lk0, lk1, lk2, lk3, lk4, lk5, lk6, lk7, lk8, lk9, lk10, lk11, lk12, and_self, and_true, true_and, Bool.and_true, Bool.true_and, Bool.and_self, Bool.or_false, Bool.false_or, cst0, cst1, cst2, cst3, cst4, cst5, cst6, cst7, cst8, cst9, cst10, cst11, cst12, sz0, sz1, sz2, sz3, sz4, sz5, sz6, sz7, sz8, sz9, sz10, sz11, sz12, is_non_int, is_non_bool, is_non_str, is_non_tuple, is_non_list, is_bl_int, is_bl_bool, is_bl_str, is_bl_tuple, is_bl_list, is_int_int, is_int_bool, is_int_str, is_int_tuple, is_int_list, is_str_int, is_str_bool, is_str_str, is_str_tuple, is_str_list, is_tup_int, is_tup_bool, is_tup_str, is_tup_tuple, is_tup_list, is_lst_int, is_lst_bool, is_lst_str, is_lst_tuple, is_lst_list, ixP0, f1, f2]
  rfl
/-! the words of a calendar -/
def flatW (nm : List Nat) (xs : List (Int × Int)) : List (List Nat) := xs.flatMap fun p => [nm, iT p.1, iT p.2]
def cwords (pt : List Nat) (cl op : List (Int × Int)) : List (List Nat) := pt :: (flatW nmC cl ++ flatW nmO op)
theorem join_flat (nm : List Nat) (xs : List (Int × Int)) : (flatW nm xs).flatMap ([32] ++ ·) = wtext nm xs := by
  induction xs with
  | nil => rfl
  | cons p xs ih =>
    have e1 : flatW nm (p :: xs) = [nm, iT p.1, iT p.2] ++ flatW nm xs := rfl
    have e2 : wtext nm (p :: xs) = wpc nm p ++ wtext nm xs := rfl
    rw [e1, e2, List.flatMap_append, ih]
    simp [wpc]
theorem join_cwords (pt : List Nat) (cl op : List (Int × Int)) : TL.joinL [32] (cwords pt cl op) = ctext pt cl op := by
  unfold cwords ctext
  rw [joinL_cons, List.flatMap_append, join_flat, join_flat, List.append_assoc]
theorem flatW_no32 {nm : List Nat} (hn : 32 ∉ nm) {xs : List (Int × Int)} (h : ∀ p ∈ xs, okS p) : ∀ w ∈ flatW nm xs, 32 ∉ w := fun w hw => by
  obtain ⟨p, hp, hw⟩ := List.mem_flatMap.mp hw
  obtain ⟨i1, i2⟩ := (h p hp).it
  simp at hw
  rcases hw with rfl | rfl | rfl
  · exact hn
  · exact fun z => (i1.ch _ z).2 rfl
  · exact fun z => (i2.ch _ z).2 rfl
theorem split_ctext {pt : List Nat} {cl op : List (Int × Int)} (p : Pat pt) (c : Sp cl) (o : Sp op) : TL.spl [32] 0 [] (ctext pt cl op) = cwords pt cl op := by
  rw [← join_cwords]
  refine SX.spl_join (c := 32) (sep := []) (by simp [cwords]) fun w hw => ?_
  rcases List.mem_cons.mp hw with rfl | hw
  · intro z; rcases p.ch _ z with h | h <;> omega
  · rcases List.mem_append.mp hw with h | h
    · exact flatW_no32 (by decide) c.ok w h
    · exact flatW_no32 (by decide) o.ok w h
theorem ctext_len {pt : List Nat} {cl op : List (Int × Int)} (p : Pat pt) (c : Sp cl) (o : Sp op) : (ctext pt cl op).length ≤ 100 := by
  have h1 := wtext_len (nm := nmC) rfl c.ok
  have h2 := wtext_len (nm := nmO) rfl o.ok
  have := c.len
  have := o.len
  have := p.l1
  simp [ctext]
  omega
theorem ctext_ok {pt : List Nat} {cl op : List (Int × Int)} (p : Pat pt) (c : Sp cl) (o : Sp op) : OkT (ctext pt cl op) := by
  have hw : ∀ (nm : List Nat), OkT nm → ∀ xs : List (Int × Int), (∀ p ∈ xs, okS p) → OkT (wtext nm xs) := fun nm hn xs h x hx => by
    obtain ⟨q, hq, hx⟩ := List.mem_flatMap.mp hx
    obtain ⟨i1, i2⟩ := (h q hq).it
    simp [wpc] at hx
    rcases hx with rfl | hx | rfl | hx | rfl | hx
    · omega
    · exact hn x hx
    · omega
    · have := (i1.ch x hx).1; omega
    · omega
    · have := (i2.ch x hx).1; omega
  intro x hx
  rcases List.mem_append.mp hx with h | h
  · rcases List.mem_append.mp h with h | h
    · exact p.ok x h
    · exact hw nmC (by unfold OkT; decide) cl c.ok x h
  · exact hw nmO (by unfold OkT; decide) op o.ok x h

theorem flat_take {nm : List Nat} {xs : List (Int × Int)} {k : Nat} {p : Int × Int} (h : xs[k]? = some p) : flatW nm (xs.take (k + 1)) = flatW nm (xs.take k) ++ [nm, iT p.1, iT p.2] := by
  obtain ⟨hk, e⟩ := List.getElem?_eq_some_iff.mp h
  rw [List.take_succ_eq_append_getElem hk, e]
  simp [flatW]
theorem flat_len {nm : List Nat} (xs : List (Int × Int)) : (flatW nm xs).length = 3 * xs.length := by
  induction xs with
  | nil => rfl
  | cons p xs ih =>
    have e1 : flatW nm (p :: xs) = [nm, iT p.1, iT p.2] ++ flatW nm xs := rfl
    rw [e1, List.length_append, ih, List.length_cons]
    simp
    omega
theorem show_loop {ph : PH} {nm : List Nat} {xs : List (Int × Int)} (s : Sp xs) {ws : List (List Nat)} (hw : ws.length ≤ 1000) {c a2 a3 a4 v7 v8 : Option PV} :
    ∃ v7' v8', fo_show_calendar_0 [c, some (.loc ph.length), a2, a3, a4, some (.str (S nm)), some (spansP xs), v7, v8] (ph ++ [.lst (ws.map fun w => .str (S w))]) = .nx [c, some (.loc ph.length), a2, a3, a4, some (.str (S nm)), some (spansP xs), v7', v8'] (ph ++ [.lst ((ws ++ flatW nm xs).map fun w => .str (S w))]) := by
  have hz := for_inv (it := ⟨xs.map spanP, []⟩) (g := tgTup 2 (tgCons (tgName 7) (tgCons (tgName 8) (tgNil)))) (b := sExpr (mBM "list" extendZ (eVar 1) (mCons (mLst (mCons (eVar 5) (mCons (mCB strTyZ (mCons (eVar 7) (mNil))) (mCons (mCB strTyZ (mCons (eVar 8) (mNil))) (mNil))))) (mNil))))
    (J := fun k env q => q = ph ++ [.lst ((ws ++ flatW nm (xs.take k)).map fun w => .str (S w))] ∧ ∃ v7' v8', env = [c, some (.loc ph.length), a2, a3, a4, some (.str (S nm)), some (spansP xs), v7', v8']) (xs.map spanP) 0 [c, some (.loc ph.length), a2, a3, a4, some (.str (S nm)), some (spansP xs), v7, v8] (ph ++ [.lst (ws.map fun w => .str (S w))])
  obtain ⟨env', ph', f1, rfl, v7', v8', rfl⟩ := hz (fun k x hx env q hj => by
    obtain ⟨rfl, v7, v8, rfl⟩ := hj
    obtain ⟨p, hp, rfl⟩ := span_get hx
    have hok := s.ok p (List.mem_of_getElem? hp)
    obtain ⟨i1, i2⟩ := hok.it
    have hsl := s.len
    simp only [Nat.zero_add]
    refine ⟨chk0, [(7, .int p.1), (8, .int p.2)], _, _, rfl, .inl ?_, rfl, some (.int p.1), some (.int p.2), rfl⟩
    have ea : extendZ (ph ++ [PO.lst ((ws ++ flatW nm (xs.take k)).map fun w => .str (S w))]) (.loc ph.length) [.lst [.str (S nm), .str (S (iT p.1)), .str (S (iT p.2))]] = some (.non, ph ++ [.lst ((ws ++ flatW nm (xs.take (k + 1))).map fun w => .str (S w))]) := by
      rw [extendZ_at app_r (by simp [flat_len]; omega), app_setr, flat_take hp, ← List.append_assoc ws, List.map_append (l₁ := ws ++ _)]
      rfl
    simp only [sSeq, sIf, sRet, sRetN, sSet, sSetL, sRetL, sExpr, sNil, sUnp, sPar2, sPar3, sAug, mBin, mBinT, mUn, mCB, mTru, mAndT, mOrT, mNotT, mIf, mAndV, mOrV, mNotV, mNil, mCons, mTup, mLst, mCall, mCallK, mMeth, mMake, mFld, sSetFld, sAugFld, sSetIx, mChain, mChainT, mSl, oNone, oSome, mBM, eVar, eC, ok_bind, bad_bind, ok_st, nx_seq, rt_seq, bk_seq, ct_seq, ofO_some, List.getElem?_cons_zero, List.getElem?_cons_succ, List.set_cons_zero, List.set_cons_succ, List.length_cons, List.length_nil, List.append_nil, List.nil_append, List.cons_append, tgName, tgNil, tgCons, tgTup, setsE, List.foldl_cons, List.foldl_nil, List.map_cons, List.map_nil, tYesZ, wipeE, isNZ, PV.isN, Option.map_some, Option.bind_some, if_true, if_false, Bool.not_true, Bool.not_false, reduceIte, Bool.false_eq_true, permP, List.getD_cons_zero, List.getD_cons_succ, atI_0, atI_1, atI_2, atI_3, addZ_int, subZ_int, modZ_int, gtZ_int, ltZ_int, leZ_int, geZ_int, eqZ_int, neZ_int, intTyZ_int, truZ_bl, addI_int, maxZ_int, minZ_int, rb_bl, negZ_int, ixZ_tup, ixZ_lst, ixZ_scr, lenZ_tup, lenZ_lst, lenZ_scr, tupTyZ_lst, tupTyZ_tup, tyOk_str, Nat.reduceAdd, Nat.zero_add, lk0, lk1, lk2, lk3, lk4, lk5, lk6, lk7, lk8, lk9, lk10, lk11, lk12, and_self, and_true, true_and, Bool.and_true, Bool.true_and, Bool.and_self, Bool.or_false, Bool.false_or, cst0, cst1, cst2, cst3, cst4, cst5, cst6, cst7, cst8, cst9, cst10, cst11, cst12, sz0, sz1, sz2, sz3, sz4, sz5, sz6, sz7, sz8, sz9, sz10, sz11, sz12, is_non_int, is_non_bool, is_non_str, is_non_tuple, is_non_list, is_bl_int, is_bl_bool, is_bl_str, is_bl_tuple, is_bl_list, is_int_int, is_int_bool, is_int_str, is_int_tuple, is_int_list, is_str_int, is_str_bool, is_str_str, is_str_tuple, is_str_list, is_tup_int, is_tup_bool, is_tup_str, is_tup_tuple, is_tup_list, is_lst_int, is_lst_bool, is_lst_str, is_lst_tuple, is_lst_list, strTyZ_iT i1, strTyZ_iT i2, tyOk_lst app_r, ea]) (fun _ _ _ => chk0) ⟨by simp [flatW], v7, v8, rfl⟩
  refine ⟨v7', v8', ?_⟩
  unfold fo_show_calendar_0
  rw [sFor_ok (it := ⟨xs.map spanP, []⟩) (ph1 := ph ++ [.lst (ws.map fun w => .str (S w))]) (iSeq_tup (by simp only [sSeq, sIf, sRet, sRetN, sSet, sSetL, sRetL, sExpr, sNil, sUnp, sPar2, sPar3, sAug, mBin, mBinT, mUn, mCB, mTru, mAndT, mOrT, mNotT, mIf, mAndV, mOrV, mNotV, mNil, mCons, mTup, mLst, mCall, mCallK, mMeth, mMake, mFld, sSetFld, sAugFld, sSetIx, mChain, mChainT, mSl, oNone, oSome, mBM, eVar, eC, ok_bind, bad_bind, ok_st, nx_seq, rt_seq, bk_seq, ct_seq, ofO_some, List.getElem?_cons_zero, List.getElem?_cons_succ, List.set_cons_zero, List.set_cons_succ, List.length_cons, List.length_nil, List.append_nil, List.nil_append, List.cons_append, tgName, tgNil, tgCons, tgTup, setsE, List.foldl_cons, List.foldl_nil, List.map_cons, List.map_nil, tYesZ, wipeE, isNZ, PV.isN, Option.map_some, Option.bind_some, if_true, if_false, Bool.not_true, Bool.not_false, reduceIte, Bool.false_eq_true, permP, List.getD_cons_zero, List.getD_cons_succ, atI_0, atI_1, atI_2, atI_3, addZ_int, subZ_int, modZ_int, gtZ_int, ltZ_int, leZ_int, geZ_int, eqZ_int, neZ_int, intTyZ_int, truZ_bl, addI_int, maxZ_int, minZ_int, rb_bl, negZ_int, ixZ_tup, ixZ_lst, ixZ_scr, lenZ_tup, lenZ_lst, lenZ_scr, tupTyZ_lst, tupTyZ_tup, tyOk_str, Nat.reduceAdd, Nat.zero_add, lk0, lk1, lk2, lk3, lk4, lk5, lk6, lk7, lk8, lk9, lk10, lk11, lk12, and_self, and_true, true_and, Bool.and_true, Bool.true_and, Bool.and_self, Bool.or_false, Bool.false_or, cst0, cst1, cst2, cst3, cst4, cst5, cst6, cst7, cst8, cst9, cst10, cst11, cst12, sz0, sz1, sz2, sz3, sz4, sz5, sz6, sz7, sz8, sz9, sz10, sz11, sz12, is_non_int, is_non_bool, is_non_str, is_non_tuple, is_non_list, is_bl_int, is_bl_bool, is_bl_str, is_bl_tuple, is_bl_list, is_int_int, is_int_bool, is_int_str, is_int_tuple, is_int_list, is_str_int, is_str_bool, is_str_str, is_str_tuple, is_str_list, is_tup_int, is_tup_bool, is_tup_str, is_tup_tuple, is_tup_list, is_lst_int, is_lst_bool, is_lst_str, is_lst_tuple, is_lst_list]; rfl)), f1]
  simp
theorem sum_bound {ws : List (List Nat)} {k : Nat} (h : ∀ w ∈ ws, w.length ≤ k) : (ws.map (·.length)).sum ≤ ws.length * k := by
  induction ws with
  | nil => simp
  | cons w ws ih =>
    have h1 := h w List.mem_cons_self
    have h2 := ih fun x hx => h x (List.mem_cons_of_mem _ hx)
    simp only [List.map_cons, List.sum_cons, List.length_cons, Nat.succ_mul]
    omega
theorem cwords_len {pt : List Nat} {cl op : List (Int × Int)} (p : Pat pt) (c : Sp cl) (o : Sp op) : (cwords pt cl op).length ≤ 13 ∧ ∀ w ∈ cwords pt cl op, w.length ≤ 6 := by
  have h1 := c.len
  have h2 := o.len
  refine ⟨by simp [cwords, flat_len]; omega, fun w hw => ?_⟩
  have hf : ∀ nm : List Nat, nm.length = 6 → ∀ xs : List (Int × Int), (∀ p ∈ xs, okS p) → ∀ w ∈ flatW nm xs, w.length ≤ 6 := fun nm hn xs h w hw => by
    obtain ⟨q, hq, hw⟩ := List.mem_flatMap.mp hw
    obtain ⟨i1, i2⟩ := (h q hq).it
    have := i1.len
    have := i2.len
    simp at hw
    rcases hw with rfl | rfl | rfl <;> omega
  rcases List.mem_cons.mp hw with rfl | hw
  · have := p.l1; omega
  · rcases List.mem_append.mp hw with h | h
    · exact hf nmC rfl cl c.ok w h
    · exact hf nmO rfl op o.ok w h
theorem env1_9 {a : PV} : envZ 9 [a] = [some a, none, none, none, none, none, none, none, none] := rfl
theorem show_calendar_ok {pt : List Nat} {cl op : List (Int × Int)} {ph : PH} (p : Pat pt) (c : Sp cl) (o : Sp op) : m_show_calendar [calP pt cl op] ph = .ok (.str (S (ctext pt cl op))) ph := by
  obtain ⟨v7, v8, e1⟩ := show_loop (ph := ph) (nm := nmC) c (ws := [pt]) (by simp) (c := some (calP pt cl op)) (a2 := some (.str (S pt))) (a3 := some (spansP cl)) (a4 := some (spansP op)) (v7 := none) (v8 := none)
  have hc := c.len
  obtain ⟨w7, w8, e2⟩ := show_loop (ph := ph) (nm := nmO) o (ws := [pt] ++ flatW nmC cl) (by simp [flat_len]; omega) (c := some (calP pt cl op)) (a2 := some (.str (S pt))) (a3 := some (spansP cl)) (a4 := some (spansP op)) (v7 := v7) (v8 := v8)
  have hw : [pt] ++ flatW nmC cl ++ flatW nmO op = cwords pt cl op := rfl
  rw [hw] at e2
  have ej : joinZ (ph ++ [.lst ((cwords pt cl op).map fun w => .str (S w))]) (.str (S [32])) [.loc ph.length] = some (.str (S (ctext pt cl op)), ph ++ [.lst ((cwords pt cl op).map fun w => .str (S w))]) := by
    obtain ⟨h1, h2⟩ := cwords_len p c o
    have h3 := sum_bound h2
    rw [joinZ_S (ws := cwords pt cl op) ?_ (by simp; omega), join_cwords]
    have : rz (ph ++ [.lst ((cwords pt cl op).map fun w => .str (S w))]) (.loc ph.length) = .lst ((cwords pt cl op).map fun w => .str (S w)) := by
      unfold rz
      simp only [app_r]
    unfold seqA
    rw [this]
  unfold m_show_calendar
  refine dFn_tail (tl := [.lst ((cwords pt cl op).map fun w => .str (S w))]) ?_ rfl (fun k z => nomatch z) (by simp [PV.cl]) ho_same
  rw [env1_9]
  have e3 : fo_show_calendar_1 [some (calP pt cl op), some (.loc ph.length), some (.str (S pt)), some (spansP cl), some (spansP op), none, none, none, none] (ph ++ [.lst [.str (S pt)]]) = .nx [some (calP pt cl op), some (.loc ph.length), some (.str (S pt)), some (spansP cl), some (spansP op), some (.str (S nmO)), some (spansP op), w7, w8] (ph ++ [.lst ((cwords pt cl op).map fun w => .str (S w))]) := by
    unfold fo_show_calendar_1
    rw [sFor_ok (it := ⟨[.tup [.str (S nmC), spansP cl], .tup [.str (S nmO), spansP op]], []⟩) (ph1 := ph ++ [.lst [.str (S pt)]]) (iSeq_tup (by simp only [lit_0, lit_1, lit_2, lit_3, lit_4, lit_5, lit_6, lit_7, lit_8, lit_9, lit_10, lit_11, lit_12, lit_13, lit_14, lit_15]; simp only [sSeq, sIf, sRet, sRetN, sSet, sSetL, sRetL, sExpr, sNil, sUnp, sPar2, sPar3, sAug, mBin, mBinT, mUn, mCB, mTru, mAndT, mOrT, mNotT, mIf, mAndV, mOrV, mNotV, mNil, mCons, mTup, mLst, mCall, mCallK, mMeth, mMake, mFld, sSetFld, sAugFld, sSetIx, mChain, mChainT, mSl, oNone, oSome, mBM, eVar, eC, ok_bind, bad_bind, ok_st, nx_seq, rt_seq, bk_seq, ct_seq, ofO_some, List.getElem?_cons_zero, List.getElem?_cons_succ, List.set_cons_zero, List.set_cons_succ, List.length_cons, List.length_nil, List.append_nil, List.nil_append, List.cons_append, tgName, tgNil, tgCons, tgTup, setsE, List.foldl_cons, List.foldl_nil, List.map_cons, List.map_nil, tYesZ, wipeE, isNZ, PV.isN, Option.map_some, Option.bind_some, if_true, if_false, Bool.not_true, Bool.not_false, reduceIte, Bool.false_eq_true, permP, List.getD_cons_zero, List.getD_cons_succ, atI_0, atI_1, atI_2, atI_3, addZ_int, subZ_int, modZ_int, gtZ_int, ltZ_int, leZ_int, geZ_int, eqZ_int, neZ_int, intTyZ_int, truZ_bl, addI_int, maxZ_int, minZ_int, rb_bl, negZ_int, ixZ_tup, ixZ_lst, ixZ_scr, lenZ_tup, lenZ_lst, lenZ_scr, tupTyZ_lst, tupTyZ_tup, tyOk_str, Nat.reduceAdd, Nat.zero_add, lk0, lk1, lk2, lk3, lk4, lk5, lk6, lk7, lk8, lk9, lk10, lk11, lk12, and_self, and_true, true_and, Bool.and_true, Bool.true_and, Bool.and_self, Bool.or_false, Bool.false_or, cst0, cst1, cst2, cst3, cst4, cst5, cst6, cst7, cst8, cst9, cst10, cst11, cst12, sz0, sz1, sz2, sz3, sz4, sz5, sz6, sz7, sz8, sz9, sz10, sz11, sz12, is_non_int, is_non_bool, is_non_str, is_non_tuple, is_non_list, is_bl_int, is_bl_bool, is_bl_str, is_bl_tuple, is_bl_list, is_int_int, is_int_bool, is_int_str, is_int_tuple, is_int_list, is_str_int, is_str_bool, is_str_str, is_str_tuple, is_str_list, is_tup_int, is_tup_bool, is_tup_str, is_tup_tuple, is_tup_list, is_lst_int, is_lst_bool, is_lst_str, is_lst_tuple, is_lst_list]; rfl))]
    rw [for_cons chk0 (l := [(5, .str (S nmC)), (6, spansP cl)]) rfl e1]
    rw [for_cons chk0 (l := [(5, .str (S nmO)), (6, spansP op)]) rfl e2]
    rw [for_nil chk0]
  unfold b_show_calendar calP
  unfold calP at e3
  simp only [lit_0, lit_1, lit_2, lit_3, lit_4, lit_5, lit_6, lit_7, lit_8, lit_9, lit_10, lit_11, lit_12, lit_13, lit_14, lit_15]
  simp only [sSeq, sIf, sRet, sRetN, sSet, sSetL, sRetL, sExpr, sNil, sUnp, sPar2, sPar3, sAug, mBin, mBinT, mUn, mCB, mTru, mAndT, mOrT, mNotT, mIf, mAndV, mOrV, mNotV, mNil, mCons, mTup, mLst, mCall, mCallK, mMeth, mMake, mFld, sSetFld, sAugFld, sSetIx, mChain, mChainT, mSl, oNone, oSome, mBM, eVar, eC, ok_bind, bad_bind, ok_st, nx_seq, rt_seq, bk_seq, ct_seq, ofO_some, List.getElem?_cons_zero, List.getElem?_cons_succ, List.set_cons_zero, List.set_cons_succ, List.length_cons, List.length_nil, List.append_nil, List.nil_append, List.cons_append, tgName, tgNil, tgCons, tgTup, setsE, List.foldl_cons, List.foldl_nil, List.map_cons, List.map_nil, tYesZ, wipeE, isNZ, PV.isN, Option.map_some, Option.bind_some, if_true, if_false, Bool.not_true, Bool.not_false, reduceIte, Bool.false_eq_true, permP, List.getD_cons_zero, List.getD_cons_succ, atI_0, atI_1, atI_2, atI_3, addZ_int, subZ_int, modZ_int, gtZ_int, ltZ_int, leZ_int, geZ_int, eqZ_int, neZ_int, intTyZ_int, truZ_bl, addI_int, maxZ_int, minZ_int, rb_bl, negZ_int, ixZ_tup, ixZ_lst, ixZ_scr, lenZ_tup, lenZ_lst, lenZ_scr, tupTyZ_lst, tupTyZ_tup, tyOk_str, Nat.reduceAdd, Nat.zero_add, lk0, lk1, lk2, lk3, lk4, lk5, lk6, lk7, lk8, lk9, lk10, lk11, lk12, and_self, and_true, true_and, Bool.and_true, Bool.true_and, Bool.and_self, Bool.or_false, Bool.false_or, cst0, cst1, cst2, cst3, cst4, cst5, cst6, cst7, cst8, cst9, cst10, cst11, cst12, sz0, sz1, sz2, sz3, sz4, sz5, sz6, sz7, sz8, sz9, sz10, sz11, sz12, is_non_int, is_non_bool, is_non_str, is_non_tuple, is_non_list, is_bl_int, is_bl_bool, is_bl_str, is_bl_tuple, is_bl_list, is_int_int, is_int_bool, is_int_str, is_int_tuple, is_int_list, is_str_int, is_str_bool, is_str_str, is_str_tuple, is_str_list, is_tup_int, is_tup_bool, is_tup_str, is_tup_tuple, is_tup_list, is_lst_int, is_lst_bool, is_lst_str, is_lst_tuple, is_lst_list, e3, ej]

/-! reading spans -/
noncomputable def cndS : DT := mAndT (mBinT (eqZ false) (mMeth "Words" "peek" 1 (m_Words_peek) [] (eVar 0) mNil) (eVar 1)) (mBinT ltZ (mCB lenZ (mCons (eVar 2) (mNil))) (eC (.int 2)))
noncomputable def bdyS : DS := sSeq (sExpr (mMeth "Words" "skip" 1 (m_Words_skip) [] (eVar 0) mNil)) (sSeq (sSet 3 (mMeth "Words" "integer" 3 (m_Words_integer) [] (eVar 0) (mCons (eC (.int (-30))) (mCons (eC (.int 30)) (mNil))))) (sSeq (sSet 4 (eVar 3)) (sSeq (sIf (mAndT (mBinT (eqZ true) (eVar 2) (mLst (mNil))) (mBinT leZ (eVar 3) (mBin ixZ (mBin ixZ (eVar 2) (mUn negZ (eC (.int 1)))) (eC (.int 0))))) (sSet 4 (mIf (mBinT (eqZ false) (eVar 3) (mBin ixZ (mBin ixZ (eVar 2) (mUn negZ (eC (.int 1)))) (eC (.int 0)))) (mBin addZ (mBin ixZ (mBin ixZ (eVar 2) (mUn negZ (eC (.int 1)))) (eC (.int 1))) (eC (.int 1))) (mBin addZ (eC (.int 30)) (eC (.int 1))))) (sNil)) (sExpr (mBM "list" appendZ (eVar 2) (mCons (mTup (mCons (eVar 3) (mCons (mMeth "Words" "integer" 3 (m_Words_integer) [] (eVar 0) (mCons (eVar 4) (mCons (eC (.int 30)) (mNil)))) (mNil)))) (mNil)))))))
theorem peek_eq {q : PH} {W : List (List Nat)} {i : Nat} {nm : List Nat} (hW : ∀ w ∈ W, OkT w) (hn : OkT nm) : eqZ false q (pk W i) (.str (S nm)) = some (.bl (decide (W[i]? = some nm))) := by
  unfold pk
  cases e : W[i]? with
  | none => simp only [eqZ_non_str hn]; simp
  | some w => simp only [eqZ_str (hW w (List.mem_of_getElem? e)) hn]; simp
theorem cnd_ok {n i : Nat} {ph : PH} {W : List (List Nat)} {nm : List Nat} {xs : List (Int × Int)} {v3 v4 : Option PV} (hW : ∀ w ∈ W, OkT w) (hn : OkT nm) (h : ph[n]? = some (wdO W i)) :
    cndS [some (.loc n), some (.str (S nm)), some (.loc ph.length), v3, v4] (ph ++ [.lst (xs.map spanP)]) = .ok (decide (W[i]? = some nm) && decide ((xs.length : Int) < 2)) (ph ++ [.lst (xs.map spanP)]) := by
  have h3 := app_l (o := .lst (xs.map spanP)) h
  have e := words_peek h3
  have h4 := h3
  unfold wdO at h4
  have e2 : lenZ (ph ++ [.lst (xs.map spanP)]) [.loc ph.length] = some (.int xs.length) := by
    rw [lenZ_loc app_r]; simp
  unfold cndS
  cases hd : decide (W[i]? = some nm) with
  | true => simp only [sSeq, sIf, sRet, sRetN, sSet, sSetL, sRetL, sExpr, sNil, sUnp, sPar2, sPar3, sAug, mBin, mBinT, mUn, mCB, mTru, mAndT, mOrT, mNotT, mIf, mAndV, mOrV, mNotV, mNil, mCons, mTup, mLst, mCall, mCallK, mMeth, mMake, mFld, sSetFld, sAugFld, sSetIx, mChain, mChainT, mSl, oNone, oSome, mBM, eVar, eC, ok_bind, bad_bind, ok_st, nx_seq, rt_seq, bk_seq, ct_seq, ofO_some, List.getElem?_cons_zero, List.getElem?_cons_succ, List.set_cons_zero, List.set_cons_succ, List.length_cons, List.length_nil, List.append_nil, List.nil_append, List.cons_append, tgName, tgNil, tgCons, tgTup, setsE, List.foldl_cons, List.foldl_nil, List.map_cons, List.map_nil, tYesZ, wipeE, isNZ, PV.isN, Option.map_some, Option.bind_some, if_true, if_false, Bool.not_true, Bool.not_false, reduceIte, Bool.false_eq_true, permP, List.getD_cons_zero, List.getD_cons_succ, atI_0, atI_1, atI_2, atI_3, addZ_int, subZ_int, modZ_int, gtZ_int, ltZ_int, leZ_int, geZ_int, eqZ_int, neZ_int, intTyZ_int, truZ_bl, addI_int, maxZ_int, minZ_int, rb_bl, negZ_int, ixZ_tup, ixZ_lst, ixZ_scr, lenZ_tup, lenZ_lst, lenZ_scr, tupTyZ_lst, tupTyZ_tup, tyOk_str, Nat.reduceAdd, Nat.zero_add, lk0, lk1, lk2, lk3, lk4, lk5, lk6, lk7, lk8, lk9, lk10, lk11, lk12, and_self, and_true, true_and, Bool.and_true, Bool.true_and, Bool.and_self, Bool.or_false, Bool.false_or, cst0, cst1, cst2, cst3, cst4, cst5, cst6, cst7, cst8, cst9, cst10, cst11, cst12, sz0, sz1, sz2, sz3, sz4, sz5, sz6, sz7, sz8, sz9, sz10, sz11, sz12, is_non_int, is_non_bool, is_non_str, is_non_tuple, is_non_list, is_bl_int, is_bl_bool, is_bl_str, is_bl_tuple, is_bl_list, is_int_int, is_int_bool, is_int_str, is_int_tuple, is_int_list, is_str_int, is_str_bool, is_str_str, is_str_tuple, is_str_list, is_tup_int, is_tup_bool, is_tup_str, is_tup_tuple, is_tup_list, is_lst_int, is_lst_bool, is_lst_str, is_lst_tuple, is_lst_list, insV_at h4, look_peek, e, peek_eq hW hn, hd, e2]
  | false => simp only [sSeq, sIf, sRet, sRetN, sSet, sSetL, sRetL, sExpr, sNil, sUnp, sPar2, sPar3, sAug, mBin, mBinT, mUn, mCB, mTru, mAndT, mOrT, mNotT, mIf, mAndV, mOrV, mNotV, mNil, mCons, mTup, mLst, mCall, mCallK, mMeth, mMake, mFld, sSetFld, sAugFld, sSetIx, mChain, mChainT, mSl, oNone, oSome, mBM, eVar, eC, ok_bind, bad_bind, ok_st, nx_seq, rt_seq, bk_seq, ct_seq, ofO_some, List.getElem?_cons_zero, List.getElem?_cons_succ, List.set_cons_zero, List.set_cons_succ, List.length_cons, List.length_nil, List.append_nil, List.nil_append, List.cons_append, tgName, tgNil, tgCons, tgTup, setsE, List.foldl_cons, List.foldl_nil, List.map_cons, List.map_nil, tYesZ, wipeE, isNZ, PV.isN, Option.map_some, Option.bind_some, if_true, if_false, Bool.not_true, Bool.not_false, reduceIte, Bool.false_eq_true, permP, List.getD_cons_zero, List.getD_cons_succ, atI_0, atI_1, atI_2, atI_3, addZ_int, subZ_int, modZ_int, gtZ_int, ltZ_int, leZ_int, geZ_int, eqZ_int, neZ_int, intTyZ_int, truZ_bl, addI_int, maxZ_int, minZ_int, rb_bl, negZ_int, ixZ_tup, ixZ_lst, ixZ_scr, lenZ_tup, lenZ_lst, lenZ_scr, tupTyZ_lst, tupTyZ_tup, tyOk_str, Nat.reduceAdd, Nat.zero_add, lk0, lk1, lk2, lk3, lk4, lk5, lk6, lk7, lk8, lk9, lk10, lk11, lk12, and_self, and_true, true_and, Bool.and_true, Bool.true_and, Bool.and_self, Bool.or_false, Bool.false_or, cst0, cst1, cst2, cst3, cst4, cst5, cst6, cst7, cst8, cst9, cst10, cst11, cst12, sz0, sz1, sz2, sz3, sz4, sz5, sz6, sz7, sz8, sz9, sz10, sz11, sz12, is_non_int, is_non_bool, is_non_str, is_non_tuple, is_non_list, is_bl_int, is_bl_bool, is_bl_str, is_bl_tuple, is_bl_list, is_int_int, is_int_bool, is_int_str, is_int_tuple, is_int_list, is_str_int, is_str_bool, is_str_str, is_str_tuple, is_str_list, is_tup_int, is_tup_bool, is_tup_str, is_tup_tuple, is_tup_list, is_lst_int, is_lst_bool, is_lst_str, is_lst_tuple, is_lst_list, insV_at h4, look_peek, e, peek_eq hW hn, hd, e2, Bool.false_and]
theorem atI_m1 {α : Type} {x : α} : atI [x] (-1) = some x := rfl
theorem int_at {n i : Nat} {ph : PH} {o : PO} {W : List (List Nat)} {v lo hi : Int} (h : ph[n]? = some (wdO W i)) (hw : W[i]? = some (iT v)) (hv : IT v) (h1 : lo ≤ v) (h2 : v ≤ hi) : m_Words_integer [.loc n, .int lo, .int hi] (ph ++ [o]) = .ok (.int v) (ph.set n (wdO W (i + 1)) ++ [o]) := by
  rw [words_integer (app_l h) hw hv h1 h2, app_setl h]
theorem bdy_ok {n i : Nat} {ph : PH} {W : List (List Nat)} {nm : List Nat} {xs : List (Int × Int)} {p : Int × Int} {v3 v4 : Option PV} (h : ph[n]? = some (wdO W i)) (h1 : W[i + 1]? = some (iT p.1)) (h2 : W[i + 2]? = some (iT p.2)) (hp : okS p) (hx : xs = [] ∨ ∃ q, xs = [q] ∧ ltS q p) :
    ∃ v3' v4', bdyS [some (.loc n), some (.str (S nm)), some (.loc ph.length), v3, v4] (ph ++ [.lst (xs.map spanP)]) = .nx [some (.loc n), some (.str (S nm)), some (.loc ph.length), v3', v4'] (ph.set n (wdO W (i + 3)) ++ [.lst ((xs ++ [p]).map spanP)]) := by
  obtain ⟨i1, i2⟩ := hp.it
  obtain ⟨p0, p1, p2⟩ := hp
  have h4 := app_l (o := .lst (xs.map spanP)) h
  have e1 := words_skip h4
  rw [app_setl h] at e1
  have g1 : (ph.set n (wdO W (i + 1)))[n]? = some (wdO W (i + 1)) := put_get h
  have e2 := int_at (o := .lst (xs.map spanP)) (lo := -30) (hi := 30) g1 h1 i1 p0 (by omega)
  rw [set_twice] at e2
  have g2 : (ph.set n (wdO W (i + 1 + 1)))[n]? = some (wdO W (i + 1 + 1)) := put_get h
  have e3 : ∀ lo : Int, lo ≤ p.2 → m_Words_integer [.loc n, .int lo, .int 30] (ph.set n (wdO W (i + 1 + 1)) ++ [.lst (xs.map spanP)]) = .ok (.int p.2) (ph.set n (wdO W (i + 3)) ++ [.lst (xs.map spanP)]) := fun lo hlo => by
    rw [int_at g2 h2 i2 hlo p2, set_twice]
  have hl : ph.length = (ph.set n (wdO W (i + 3))).length := by simp
  have hl2 : ph.length = (ph.set n (wdO W (i + 1 + 1))).length := by simp
  have ea : appendZ (ph.set n (wdO W (i + 3)) ++ [PO.lst (xs.map spanP)]) (.loc ph.length) [spanP p] = some (.non, ph.set n (wdO W (i + 3)) ++ [.lst ((xs ++ [p]).map spanP)]) := by
    rw [hl, appendZ_at app_r (by rcases hx with rfl | ⟨q, rfl, _⟩ <;> simp), app_setr, List.map_append]
    rfl
  have hloc : (ph.set n (wdO W (i + 1 + 1)) ++ [PO.lst (xs.map spanP)])[ph.length]? = some (.lst (xs.map spanP)) := by rw [hl2]; exact app_r
  have hty : tyOk "list" (ph.set n (wdO W (i + 1 + 1)) ++ [PO.lst (xs.map spanP)]) (.loc ph.length) = true := tyOk_lst hloc
  have en := eqZ_spans_nil (neg := true) hloc
  have q4 := insV_at (show (ph ++ [PO.lst (xs.map spanP)])[n]? = some (.ins _ _) from h4)
  have q5 := insV_at (show (ph.set n (wdO W (i + 1)) ++ [PO.lst (xs.map spanP)])[n]? = some (.ins _ _) from app_l g1)
  have q6 := insV_at (show (ph.set n (wdO W (i + 1 + 1)) ++ [PO.lst (xs.map spanP)])[n]? = some (.ins _ _) from app_l g2)
  unfold bdyS
  rcases hx with rfl | ⟨q, rfl, hq⟩
  · rw [show decide (([] : List (Int × Int)) = []) = true from rfl] at en
    simp only [List.map_nil] at *
    refine ⟨some (.int p.1), some (.int p.1), ?_⟩
    simp only [sSeq, sIf, sRet, sRetN, sSet, sSetL, sRetL, sExpr, sNil, sUnp, sPar2, sPar3, sAug, mBin, mBinT, mUn, mCB, mTru, mAndT, mOrT, mNotT, mIf, mAndV, mOrV, mNotV, mNil, mCons, mTup, mLst, mCall, mCallK, mMeth, mMake, mFld, sSetFld, sAugFld, sSetIx, mChain, mChainT, mSl, oNone, oSome, mBM, eVar, eC, ok_bind, bad_bind, ok_st, nx_seq, rt_seq, bk_seq, ct_seq, ofO_some, List.getElem?_cons_zero, List.getElem?_cons_succ, List.set_cons_zero, List.set_cons_succ, List.length_cons, List.length_nil, List.append_nil, List.nil_append, List.cons_append, tgName, tgNil, tgCons, tgTup, setsE, List.foldl_cons, List.foldl_nil, List.map_cons, List.map_nil, tYesZ, wipeE, isNZ, PV.isN, Option.map_some, Option.bind_some, if_true, if_false, Bool.not_true, Bool.not_false, reduceIte, Bool.false_eq_true, permP, List.getD_cons_zero, List.getD_cons_succ, atI_0, atI_1, atI_2, atI_3, addZ_int, subZ_int, modZ_int, gtZ_int, ltZ_int, leZ_int, geZ_int, eqZ_int, neZ_int, intTyZ_int, truZ_bl, addI_int, maxZ_int, minZ_int, rb_bl, negZ_int, ixZ_tup, ixZ_lst, ixZ_scr, lenZ_tup, lenZ_lst, lenZ_scr, tupTyZ_lst, tupTyZ_tup, tyOk_str, Nat.reduceAdd, Nat.zero_add, lk0, lk1, lk2, lk3, lk4, lk5, lk6, lk7, lk8, lk9, lk10, lk11, lk12, and_self, and_true, true_and, Bool.and_true, Bool.true_and, Bool.and_self, Bool.or_false, Bool.false_or, cst0, cst1, cst2, cst3, cst4, cst5, cst6, cst7, cst8, cst9, cst10, cst11, cst12, sz0, sz1, sz2, sz3, sz4, sz5, sz6, sz7, sz8, sz9, sz10, sz11, sz12, is_non_int, is_non_bool, is_non_str, is_non_tuple, is_non_list, is_bl_int, is_bl_bool, is_bl_str, is_bl_tuple, is_bl_list, is_int_int, is_int_bool, is_int_str, is_int_tuple, is_int_list, is_str_int, is_str_bool, is_str_str, is_str_tuple, is_str_list, is_tup_int, is_tup_bool, is_tup_str, is_tup_tuple, is_tup_list, is_lst_int, is_lst_bool, is_lst_str, is_lst_tuple, is_lst_list, q4, q5, q6, look_skip, look_integer, e1, e2, en, e3 p.1 p1, hty, ea]
  · have hnil : decide ([q] = ([] : List (Int × Int))) = false := rfl
    have hix : ixZ (ph.set n (wdO W (i + 1 + 1)) ++ [PO.lst ([q].map spanP)]) (.loc ph.length) (.int (-1)) = some (spanP q) := by
      rw [ixZ_loc hloc]; rfl
    rw [hnil] at en
    unfold ltS at hq
    by_cases he : p.1 = q.1
    · refine ⟨some (.int p.1), some (.int (q.2 + 1)), ?_⟩
      have d1 : decide (p.1 ≤ q.1) = true := decide_eq_true (by omega)
      have d2 : decide (p.1 = q.1) = true := decide_eq_true he
      simp only [List.map_cons, List.map_nil, List.cons_append, List.nil_append] at *
      simp only [sSeq, sIf, sRet, sRetN, sSet, sSetL, sRetL, sExpr, sNil, sUnp, sPar2, sPar3, sAug, mBin, mBinT, mUn, mCB, mTru, mAndT, mOrT, mNotT, mIf, mAndV, mOrV, mNotV, mNil, mCons, mTup, mLst, mCall, mCallK, mMeth, mMake, mFld, sSetFld, sAugFld, sSetIx, mChain, mChainT, mSl, oNone, oSome, mBM, eVar, eC, ok_bind, bad_bind, ok_st, nx_seq, rt_seq, bk_seq, ct_seq, ofO_some, List.getElem?_cons_zero, List.getElem?_cons_succ, List.set_cons_zero, List.set_cons_succ, List.length_cons, List.length_nil, List.append_nil, List.nil_append, List.cons_append, tgName, tgNil, tgCons, tgTup, setsE, List.foldl_cons, List.foldl_nil, List.map_cons, List.map_nil, tYesZ, wipeE, isNZ, PV.isN, Option.map_some, Option.bind_some, if_true, if_false, Bool.not_true, Bool.not_false, reduceIte, Bool.false_eq_true, permP, List.getD_cons_zero, List.getD_cons_succ, atI_0, atI_1, atI_2, atI_3, addZ_int, subZ_int, modZ_int, gtZ_int, ltZ_int, leZ_int, geZ_int, eqZ_int, neZ_int, intTyZ_int, truZ_bl, addI_int, maxZ_int, minZ_int, rb_bl, negZ_int, ixZ_tup, ixZ_lst, ixZ_scr, lenZ_tup, lenZ_lst, lenZ_scr, tupTyZ_lst, tupTyZ_tup, tyOk_str, Nat.reduceAdd, Nat.zero_add, lk0, lk1, lk2, lk3, lk4, lk5, lk6, lk7, lk8, lk9, lk10, lk11, lk12, and_self, and_true, true_and, Bool.and_true, Bool.true_and, Bool.and_self, Bool.or_false, Bool.false_or, cst0, cst1, cst2, cst3, cst4, cst5, cst6, cst7, cst8, cst9, cst10, cst11, cst12, sz0, sz1, sz2, sz3, sz4, sz5, sz6, sz7, sz8, sz9, sz10, sz11, sz12, is_non_int, is_non_bool, is_non_str, is_non_tuple, is_non_list, is_bl_int, is_bl_bool, is_bl_str, is_bl_tuple, is_bl_list, is_int_int, is_int_bool, is_int_str, is_int_tuple, is_int_list, is_str_int, is_str_bool, is_str_str, is_str_tuple, is_str_list, is_tup_int, is_tup_bool, is_tup_str, is_tup_tuple, is_tup_list, is_lst_int, is_lst_bool, is_lst_str, is_lst_tuple, is_lst_list, q4, q5, q6, look_skip, look_integer, e1, e2, en, hix, d1, d2, e3 (q.2 + 1) (by omega), hty, ea]
    · refine ⟨some (.int p.1), some (.int p.1), ?_⟩
      have d1 : decide (p.1 ≤ q.1) = false := decide_eq_false (by omega)
      simp only [List.map_cons, List.map_nil, List.cons_append, List.nil_append] at *
      simp only [sSeq, sIf, sRet, sRetN, sSet, sSetL, sRetL, sExpr, sNil, sUnp, sPar2, sPar3, sAug, mBin, mBinT, mUn, mCB, mTru, mAndT, mOrT, mNotT, mIf, mAndV, mOrV, mNotV, mNil, mCons, mTup, mLst, mCall, mCallK, mMeth, mMake, mFld, sSetFld, sAugFld, sSetIx, mChain, mChainT, mSl, oNone, oSome, mBM, eVar, eC, ok_bind, bad_bind, ok_st, nx_seq, rt_seq, bk_seq, ct_seq, ofO_some, List.getElem?_cons_zero, List.getElem?_cons_succ, List.set_cons_zero, List.set_cons_succ, List.length_cons, List.length_nil, List.append_nil, List.nil_append, List.cons_append, tgName, tgNil, tgCons, tgTup, setsE, List.foldl_cons, List.foldl_nil, List.map_cons, List.map_nil, tYesZ, wipeE, isNZ, PV.isN, Option.map_some, Option.bind_some, if_true, if_false, Bool.not_true, Bool.not_false, reduceIte, Bool.false_eq_true, permP, List.getD_cons_zero, List.getD_cons_succ, atI_0, atI_1, atI_2, atI_3, addZ_int, subZ_int, modZ_int, gtZ_int, ltZ_int, leZ_int, geZ_int, eqZ_int, neZ_int, intTyZ_int, truZ_bl, addI_int, maxZ_int, minZ_int, rb_bl, negZ_int, ixZ_tup, ixZ_lst, ixZ_scr, lenZ_tup, lenZ_lst, lenZ_scr, tupTyZ_lst, tupTyZ_tup, tyOk_str, Nat.reduceAdd, Nat.zero_add, lk0, lk1, lk2, lk3, lk4, lk5, lk6, lk7, lk8, lk9, lk10, lk11, lk12, and_self, and_true, true_and, Bool.and_true, Bool.true_and, Bool.and_self, Bool.or_false, Bool.false_or, cst0, cst1, cst2, cst3, cst4, cst5, cst6, cst7, cst8, cst9, cst10, cst11, cst12, sz0, sz1, sz2, sz3, sz4, sz5, sz6, sz7, sz8, sz9, sz10, sz11, sz12, is_non_int, is_non_bool, is_non_str, is_non_tuple, is_non_list, is_bl_int, is_bl_bool, is_bl_str, is_bl_tuple, is_bl_list, is_int_int, is_int_bool, is_int_str, is_int_tuple, is_int_list, is_str_int, is_str_bool, is_str_str, is_str_tuple, is_str_list, is_tup_int, is_tup_bool, is_tup_str, is_tup_tuple, is_tup_list, is_lst_int, is_lst_bool, is_lst_str, is_lst_tuple, is_lst_list, q4, q5, q6, look_skip, look_integer, e1, e2, en, hix, d1, e3 p.1 p1, hty, ea]

theorem set_same {ph : PH} {n : Nat} {x : PO} (h : ph[n]? = some x) : ph.set n x = ph := by
  apply List.ext_getElem?
  intro j
  by_cases hj : n = j
  · subst hj
    rw [h, List.getElem?_set_self (List.getElem?_eq_some_iff.mp h).1]
  · rw [List.getElem?_set_ne hj]
theorem env2_5 {a b : PV} : envZ 5 [a, b] = [some a, some b, none, none, none] := rfl
theorem next_spans_ok {n i : Nat} {ph : PH} {W rest : List (List Nat)} {nm : List Nat} {xs : List (Int × Int)} (h : ph[n]? = some (wdO W i)) (hW : ∀ w ∈ W, OkT w) (hn : OkT nm) (s : Sp xs) (hd : W.drop i = flatW nm xs ++ rest) (hr : rest[0]? ≠ some nm) :
    m_next_spans [.loc n, .str (S nm)] ph = .ok (spansP xs) (ph.set n (wdO W (i + 3 * xs.length))) := by
  have hg : ∀ j, W[i + j]? = (flatW nm xs ++ rest)[j]? := fun j => by rw [← hd, List.getElem?_drop]
  have hfin : ∃ v3 v4, wh_next_spans_0 [some (.loc n), some (.str (S nm)), some (.loc ph.length), none, none] (ph ++ [.lst []]) = .nx [some (.loc n), some (.str (S nm)), some (.loc ph.length), v3, v4] (ph.set n (wdO W (i + 3 * xs.length)) ++ [.lst (xs.map spanP)]) := by
    show ∃ v3 v4, whZ cndS bdyS 4 _ _ = _
    cases s with
    | nil =>
      have h0 : W[i]? ≠ some nm := by have := hg 0; simp [flatW] at this; rw [this]; exact hr
      have c := cnd_ok (xs := []) (v3 := none) (v4 := none) hW hn h
      rw [decide_eq_false h0] at c
      refine ⟨none, none, ?_⟩
      rw [show (ph ++ [PO.lst []]) = ph ++ [.lst (([] : List (Int × Int)).map spanP)] from rfl, wh_stop c]
      simp [set_same h]
    | @one p hp =>
      have g0 : W[i]? = some nm := hg 0
      have g1 : W[i + 1]? = some (iT p.1) := hg 1
      have g2 : W[i + 2]? = some (iT p.2) := hg 2
      have g3 : W[i + 3]? ≠ some nm := by
        rw [hg 3]
        exact hr
      have c := cnd_ok (xs := []) (v3 := none) (v4 := none) hW hn h
      rw [decide_eq_true g0] at c
      obtain ⟨v3, v4, b⟩ := bdy_ok (nm := nm) (xs := []) (v3 := none) (v4 := none) h g1 g2 hp (.inl rfl)
      rw [List.nil_append] at b
      have h' : (ph.set n (wdO W (i + 3)))[n]? = some (wdO W (i + 3)) := put_get h
      have c2 := cnd_ok (xs := [p]) (v3 := v3) (v4 := v4) hW hn h'
      rw [decide_eq_false g3, List.length_set] at c2
      refine ⟨v3, v4, ?_⟩
      rw [show (ph ++ [PO.lst []]) = ph ++ [.lst (([] : List (Int × Int)).map spanP)] from rfl, wh_go c b, wh_stop c2]
      rfl
    | @two p q hp hq hpq =>
      have g0 : W[i]? = some nm := hg 0
      have g1 : W[i + 1]? = some (iT p.1) := hg 1
      have g2 : W[i + 2]? = some (iT p.2) := hg 2
      have g3 : W[i + 3]? = some nm := hg 3
      have g4 : W[i + 3 + 1]? = some (iT q.1) := hg 4
      have g5 : W[i + 3 + 2]? = some (iT q.2) := hg 5
      have c := cnd_ok (xs := []) (v3 := none) (v4 := none) hW hn h
      rw [decide_eq_true g0] at c
      obtain ⟨v3, v4, b⟩ := bdy_ok (nm := nm) (xs := []) (v3 := none) (v4 := none) h g1 g2 hp (.inl rfl)
      rw [List.nil_append] at b
      have h' : (ph.set n (wdO W (i + 3)))[n]? = some (wdO W (i + 3)) := put_get h
      have c2 := cnd_ok (xs := [p]) (v3 := v3) (v4 := v4) hW hn h'
      rw [decide_eq_true g3, List.length_set] at c2
      obtain ⟨w3, w4, b2⟩ := bdy_ok (nm := nm) (xs := [p]) (v3 := v3) (v4 := v4) h' g4 g5 hq (.inr ⟨p, rfl, hpq⟩)
      rw [List.length_set, set_twice, show [p] ++ [q] = [p, q] from rfl] at b2
      have h'' : (ph.set n (wdO W (i + 3 + 3)))[n]? = some (wdO W (i + 3 + 3)) := put_get h
      have c3 := cnd_ok (xs := [p, q]) (v3 := w3) (v4 := w4) hW hn h''
      rw [show decide ((([p, q] : List (Int × Int)).length : Int) < 2) = false from rfl, Bool.and_false, List.length_set] at c3
      refine ⟨w3, w4, ?_⟩
      rw [show (ph ++ [PO.lst []]) = ph ++ [.lst (([] : List (Int × Int)).map spanP)] from rfl, wh_go c b, wh_go c2 b2, wh_stop c3]
      rfl
  obtain ⟨v3, v4, e1⟩ := hfin
  have hl : ph.length = (ph.set n (wdO W (i + 3 * xs.length))).length := by simp
  have e2 : tupTyZ (ph.set n (wdO W (i + 3 * xs.length)) ++ [.lst (xs.map spanP)]) [.loc ph.length] = some (spansP xs) := by
    rw [hl]
    exact tupTyZ_loc app_r
  unfold m_next_spans
  refine dFn_tail (tl := [.lst (xs.map spanP)]) ?_ (by simp) (fun k z => nomatch z) cl_spans (ho_set wd_cl)
  rw [env2_5]
  unfold b_next_spans
  simp only [sSeq, sIf, sRet, sRetN, sSet, sSetL, sRetL, sExpr, sNil, sUnp, sPar2, sPar3, sAug, mBin, mBinT, mUn, mCB, mTru, mAndT, mOrT, mNotT, mIf, mAndV, mOrV, mNotV, mNil, mCons, mTup, mLst, mCall, mCallK, mMeth, mMake, mFld, sSetFld, sAugFld, sSetIx, mChain, mChainT, mSl, oNone, oSome, mBM, eVar, eC, ok_bind, bad_bind, ok_st, nx_seq, rt_seq, bk_seq, ct_seq, ofO_some, List.getElem?_cons_zero, List.getElem?_cons_succ, List.set_cons_zero, List.set_cons_succ, List.length_cons, List.length_nil, List.append_nil, List.nil_append, List.cons_append, tgName, tgNil, tgCons, tgTup, setsE, List.foldl_cons, List.foldl_nil, List.map_cons, List.map_nil, tYesZ, wipeE, isNZ, PV.isN, Option.map_some, Option.bind_some, if_true, if_false, Bool.not_true, Bool.not_false, reduceIte, Bool.false_eq_true, permP, List.getD_cons_zero, List.getD_cons_succ, atI_0, atI_1, atI_2, atI_3, addZ_int, subZ_int, modZ_int, gtZ_int, ltZ_int, leZ_int, geZ_int, eqZ_int, neZ_int, intTyZ_int, truZ_bl, addI_int, maxZ_int, minZ_int, rb_bl, negZ_int, ixZ_tup, ixZ_lst, ixZ_scr, lenZ_tup, lenZ_lst, lenZ_scr, tupTyZ_lst, tupTyZ_tup, tyOk_str, Nat.reduceAdd, Nat.zero_add, lk0, lk1, lk2, lk3, lk4, lk5, lk6, lk7, lk8, lk9, lk10, lk11, lk12, and_self, and_true, true_and, Bool.and_true, Bool.true_and, Bool.and_self, Bool.or_false, Bool.false_or, cst0, cst1, cst2, cst3, cst4, cst5, cst6, cst7, cst8, cst9, cst10, cst11, cst12, sz0, sz1, sz2, sz3, sz4, sz5, sz6, sz7, sz8, sz9, sz10, sz11, sz12, is_non_int, is_non_bool, is_non_str, is_non_tuple, is_non_list, is_bl_int, is_bl_bool, is_bl_str, is_bl_tuple, is_bl_list, is_int_int, is_int_bool, is_int_str, is_int_tuple, is_int_list, is_str_int, is_str_bool, is_str_str, is_str_tuple, is_str_list, is_tup_int, is_tup_bool, is_tup_str, is_tup_tuple, is_tup_list, is_lst_int, is_lst_bool, is_lst_str, is_lst_tuple, is_lst_list, e1, e2]
theorem is_pattern_ok {pt : List Nat} {ph : PH} (p : Pat pt) : m_is_pattern [.str (S pt)] ph = .ok (.bl true) ph := by
  have h0 := p.l0
  have h1 := p.l1
  unfold m_is_pattern
  refine dFn_rt ?_
  rw [env1_2]
  have e : lc_is_pattern_0 [some (.str (S pt)), none] ph = .ok (.lst ((pt.map fun c => PV.str (S [c])).map fun _ => .bl true)) ph := by
    unfold lc_is_pattern_0
    rw [mLC_ok (it := ⟨pt.map fun c => .str (S [c]), []⟩) (ph1 := ph) (iText_S (by simp only [sSeq, sIf, sRet, sRetN, sSet, sSetL, sRetL, sExpr, sNil, sUnp, sPar2, sPar3, sAug, mBin, mBinT, mUn, mCB, mTru, mAndT, mOrT, mNotT, mIf, mAndV, mOrV, mNotV, mNil, mCons, mTup, mLst, mCall, mCallK, mMeth, mMake, mFld, sSetFld, sAugFld, sSetIx, mChain, mChainT, mSl, oNone, oSome, mBM, eVar, eC, ok_bind, bad_bind, ok_st, nx_seq, rt_seq, bk_seq, ct_seq, ofO_some, List.getElem?_cons_zero, List.getElem?_cons_succ, List.set_cons_zero, List.set_cons_succ, List.length_cons, List.length_nil, List.append_nil, List.nil_append, List.cons_append, tgName, tgNil, tgCons, tgTup, setsE, List.foldl_cons, List.foldl_nil, List.map_cons, List.map_nil, tYesZ, wipeE, isNZ, PV.isN, Option.map_some, Option.bind_some, if_true, if_false, Bool.not_true, Bool.not_false, reduceIte, Bool.false_eq_true, permP, List.getD_cons_zero, List.getD_cons_succ, atI_0, atI_1, atI_2, atI_3, addZ_int, subZ_int, modZ_int, gtZ_int, ltZ_int, leZ_int, geZ_int, eqZ_int, neZ_int, intTyZ_int, truZ_bl, addI_int, maxZ_int, minZ_int, rb_bl, negZ_int, ixZ_tup, ixZ_lst, ixZ_scr, lenZ_tup, lenZ_lst, lenZ_scr, tupTyZ_lst, tupTyZ_tup, tyOk_str, Nat.reduceAdd, Nat.zero_add, lk0, lk1, lk2, lk3, lk4, lk5, lk6, lk7, lk8, lk9, lk10, lk11, lk12, and_self, and_true, true_and, Bool.and_true, Bool.true_and, Bool.and_self, Bool.or_false, Bool.false_or, cst0, cst1, cst2, cst3, cst4, cst5, cst6, cst7, cst8, cst9, cst10, cst11, cst12, sz0, sz1, sz2, sz3, sz4, sz5, sz6, sz7, sz8, sz9, sz10, sz11, sz12, is_non_int, is_non_bool, is_non_str, is_non_tuple, is_non_list, is_bl_int, is_bl_bool, is_bl_str, is_bl_tuple, is_bl_list, is_int_int, is_int_bool, is_int_str, is_int_tuple, is_int_list, is_str_int, is_str_bool, is_str_str, is_str_tuple, is_str_list, is_tup_int, is_tup_bool, is_tup_str, is_tup_tuple, is_tup_list, is_lst_int, is_lst_bool, is_lst_str, is_lst_tuple, is_lst_list])) (by simp; omega)]
    refine lc_map0 chk0 fun p' hp => ?_
    obtain ⟨c, hc, rfl⟩ := List.mem_map.mp hp
    refine ⟨[(1, .str (S [c]))], rfl, ?_⟩
    have hin : c ∈ [111, 45] := by rcases p.ch c hc with rfl | rfl <;> simp
    simp only [lit_0, lit_1, lit_2, lit_3, lit_4, lit_5, lit_6, lit_7, lit_8, lit_9, lit_10, lit_11, lit_12, lit_13, lit_14, lit_15]
    simp only [sSeq, sIf, sRet, sRetN, sSet, sSetL, sRetL, sExpr, sNil, sUnp, sPar2, sPar3, sAug, mBin, mBinT, mUn, mCB, mTru, mAndT, mOrT, mNotT, mIf, mAndV, mOrV, mNotV, mNil, mCons, mTup, mLst, mCall, mCallK, mMeth, mMake, mFld, sSetFld, sAugFld, sSetIx, mChain, mChainT, mSl, oNone, oSome, mBM, eVar, eC, ok_bind, bad_bind, ok_st, nx_seq, rt_seq, bk_seq, ct_seq, ofO_some, List.getElem?_cons_zero, List.getElem?_cons_succ, List.set_cons_zero, List.set_cons_succ, List.length_cons, List.length_nil, List.append_nil, List.nil_append, List.cons_append, tgName, tgNil, tgCons, tgTup, setsE, List.foldl_cons, List.foldl_nil, List.map_cons, List.map_nil, tYesZ, wipeE, isNZ, PV.isN, Option.map_some, Option.bind_some, if_true, if_false, Bool.not_true, Bool.not_false, reduceIte, Bool.false_eq_true, permP, List.getD_cons_zero, List.getD_cons_succ, atI_0, atI_1, atI_2, atI_3, addZ_int, subZ_int, modZ_int, gtZ_int, ltZ_int, leZ_int, geZ_int, eqZ_int, neZ_int, intTyZ_int, truZ_bl, addI_int, maxZ_int, minZ_int, rb_bl, negZ_int, ixZ_tup, ixZ_lst, ixZ_scr, lenZ_tup, lenZ_lst, lenZ_scr, tupTyZ_lst, tupTyZ_tup, tyOk_str, Nat.reduceAdd, Nat.zero_add, lk0, lk1, lk2, lk3, lk4, lk5, lk6, lk7, lk8, lk9, lk10, lk11, lk12, and_self, and_true, true_and, Bool.and_true, Bool.true_and, Bool.and_self, Bool.or_false, Bool.false_or, cst0, cst1, cst2, cst3, cst4, cst5, cst6, cst7, cst8, cst9, cst10, cst11, cst12, sz0, sz1, sz2, sz3, sz4, sz5, sz6, sz7, sz8, sz9, sz10, sz11, sz12, is_non_int, is_non_bool, is_non_str, is_non_tuple, is_non_list, is_bl_int, is_bl_bool, is_bl_str, is_bl_tuple, is_bl_list, is_int_int, is_int_bool, is_int_str, is_int_tuple, is_int_list, is_str_int, is_str_bool, is_str_str, is_str_tuple, is_str_list, is_tup_int, is_tup_bool, is_tup_str, is_tup_tuple, is_tup_list, is_lst_int, is_lst_bool, is_lst_str, is_lst_tuple, is_lst_list, inZ_sign, hin, decide_true]
  have e3 : allZ ph [.lst ((pt.map fun c => PV.str (S [c])).map fun _ => .bl true)] = some (.bl true) := allZ_true fun v hv => by
    obtain ⟨_, _, rfl⟩ := List.mem_map.mp hv
    rfl
  unfold b_is_pattern
  simp only [lit_0, lit_1, lit_2, lit_3, lit_4, lit_5, lit_6, lit_7, lit_8, lit_9, lit_10, lit_11, lit_12, lit_13, lit_14, lit_15]
  simp only [sSeq, sIf, sRet, sRetN, sSet, sSetL, sRetL, sExpr, sNil, sUnp, sPar2, sPar3, sAug, mBin, mBinT, mUn, mCB, mTru, mAndT, mOrT, mNotT, mIf, mAndV, mOrV, mNotV, mNil, mCons, mTup, mLst, mCall, mCallK, mMeth, mMake, mFld, sSetFld, sAugFld, sSetIx, mChain, mChainT, mSl, oNone, oSome, mBM, eVar, eC, ok_bind, bad_bind, ok_st, nx_seq, rt_seq, bk_seq, ct_seq, ofO_some, List.getElem?_cons_zero, List.getElem?_cons_succ, List.set_cons_zero, List.set_cons_succ, List.length_cons, List.length_nil, List.append_nil, List.nil_append, List.cons_append, tgName, tgNil, tgCons, tgTup, setsE, List.foldl_cons, List.foldl_nil, List.map_cons, List.map_nil, tYesZ, wipeE, isNZ, PV.isN, Option.map_some, Option.bind_some, if_true, if_false, Bool.not_true, Bool.not_false, reduceIte, Bool.false_eq_true, permP, List.getD_cons_zero, List.getD_cons_succ, atI_0, atI_1, atI_2, atI_3, addZ_int, subZ_int, modZ_int, gtZ_int, ltZ_int, leZ_int, geZ_int, eqZ_int, neZ_int, intTyZ_int, truZ_bl, addI_int, maxZ_int, minZ_int, rb_bl, negZ_int, ixZ_tup, ixZ_lst, ixZ_scr, lenZ_tup, lenZ_lst, lenZ_scr, tupTyZ_lst, tupTyZ_tup, tyOk_str, Nat.reduceAdd, Nat.zero_add, lk0, lk1, lk2, lk3, lk4, lk5, lk6, lk7, lk8, lk9, lk10, lk11, lk12, and_self, and_true, true_and, Bool.and_true, Bool.true_and, Bool.and_self, Bool.or_false, Bool.false_or, cst0, cst1, cst2, cst3, cst4, cst5, cst6, cst7, cst8, cst9, cst10, cst11, cst12, sz0, sz1, sz2, sz3, sz4, sz5, sz6, sz7, sz8, sz9, sz10, sz11, sz12, is_non_int, is_non_bool, is_non_str, is_non_tuple, is_non_list, is_bl_int, is_bl_bool, is_bl_str, is_bl_tuple, is_bl_list, is_int_int, is_int_bool, is_int_str, is_int_tuple, is_int_list, is_str_int, is_str_bool, is_str_str, is_str_tuple, is_str_list, is_tup_int, is_tup_bool, is_tup_str, is_tup_tuple, is_tup_list, is_lst_int, is_lst_bool, is_lst_str, is_lst_tuple, is_lst_list, lenZ_str (show pt.length ≤ 10000 by omega), show decide ((1 : Int) ≤ pt.length) = true from decide_eq_true (by omega), show decide ((pt.length : Int) ≤ 4) = true from decide_eq_true (by omega), inZ_sign, decide_eq_true p.o, e, e3]

theorem flatW_ok {nm : List Nat} (hn : OkT nm) {xs : List (Int × Int)} (h : ∀ p ∈ xs, okS p) : ∀ w ∈ flatW nm xs, OkT w := fun w hw => by
  obtain ⟨q, hq, hw⟩ := List.mem_flatMap.mp hw
  obtain ⟨i1, i2⟩ := (h q hq).it
  simp at hw
  rcases hw with rfl | rfl | rfl
  · exact hn
  · exact fun c hc => by have := (i1.ch c hc).1; omega
  · exact fun c hc => by have := (i2.ch c hc).1; omega
theorem nmC_ok : OkT nmC := by unfold OkT; decide
theorem nmO_ok : OkT nmO := by unfold OkT; decide
theorem cwords_ok {pt : List Nat} {cl op : List (Int × Int)} (p : Pat pt) (c : Sp cl) (o : Sp op) : ∀ w ∈ cwords pt cl op, OkT w := fun w hw => by
  rcases List.mem_cons.mp hw with rfl | hw
  · exact p.ok
  · rcases List.mem_append.mp hw with h | h
    · exact flatW_ok nmC_ok c.ok w h
    · exact flatW_ok nmO_ok o.ok w h
theorem cl_cal {k : Nat} {pt : List Nat} {cl op : List (Int × Int)} : (calP pt cl op).cl k = true := by
  unfold calP
  rw [PV.cl, PV.clL, PV.clL, PV.clL, cl_spans, cl_spans]
  simp [PV.cl, PV.clL]
theorem read_calendar_ok {pt : List Nat} {cl op : List (Int × Int)} {ph : PH} (p : Pat pt) (c : Sp cl) (o : Sp op) : m_read_calendar [.str (S (ctext pt cl op))] ph = .ok (calP pt cl op) ph := by
  have hW := cwords_ok p c o
  have e1 := words_init (n := ph.length) (ph := ph ++ [.ins (Str.ofString "Words") []]) (a := ctext pt cl op) app_r (by have := ctext_len p c o; omega)
  rw [split_ctext p c o, app_setr] at e1
  have hlen : (cwords pt cl op).length = 1 + 3 * cl.length + 3 * op.length := by simp [cwords, flat_len]; omega
  have h0 : (ph ++ [wdO (cwords pt cl op) 0])[ph.length]? = some (wdO (cwords pt cl op) 0) := app_r
  have h1 : (ph ++ [wdO (cwords pt cl op) (0 + 1)])[ph.length]? = some (wdO (cwords pt cl op) (0 + 1)) := app_r
  have h2 : (ph ++ [wdO (cwords pt cl op) (0 + 1 + 3 * cl.length)])[ph.length]? = some (wdO (cwords pt cl op) (0 + 1 + 3 * cl.length)) := app_r
  have h3 : (ph ++ [wdO (cwords pt cl op) (0 + 1 + 3 * cl.length + 3 * op.length)])[ph.length]? = some (wdO (cwords pt cl op) (0 + 1 + 3 * cl.length + 3 * op.length)) := app_r
  have e2 := words_peek h0
  rw [show pk (cwords pt cl op) 0 = .str (S pt) from rfl] at e2
  have e3 := words_skip h0
  rw [app_setr] at e3
  have e4 := next_spans_ok (rest := flatW nmO op) h1 hW nmC_ok c rfl (by
    cases op with
    | nil => simp [flatW]
    | cons q op =>
      have : (flatW nmO (q :: op))[0]? = some nmO := rfl
      rw [this]
      decide)
  rw [app_setr] at e4
  have e5 := next_spans_ok (rest := []) h2 hW nmO_ok o (by
    rw [show 0 + 1 + 3 * cl.length = 3 * cl.length + 1 from by omega, cwords, List.drop_succ_cons, List.append_nil, ← flat_len (nm := nmC) cl, List.drop_left]) (by simp)
  rw [app_setr] at e5
  have e6 := words_end h3 (by omega)
  have i0 := insV_at (show (ph ++ [wdO (cwords pt cl op) 0])[ph.length]? = some (.ins _ _) from h0)
  have i3 := insV_at (show (ph ++ [wdO (cwords pt cl op) (0 + 1 + 3 * cl.length + 3 * op.length)])[ph.length]? = some (.ins _ _) from h3)
  unfold m_read_calendar
  refine dFn_tail (tl := [wdO (cwords pt cl op) (0 + 1 + 3 * cl.length + 3 * op.length)]) ?_ rfl (fun k z => nomatch z) cl_cal ho_same
  rw [env1_5]
  unfold b_read_calendar
  simp only [lit_0, lit_1, lit_2, lit_3, lit_4, lit_5, lit_6, lit_7, lit_8, lit_9, lit_10, lit_11, lit_12, lit_13, lit_14, lit_15]
  unfold nmC at e4
  unfold nmO at e5
  generalize hq : cwords pt cl op = W at *
  simp only [Nat.zero_add] at *
  simp only [sSeq, sIf, sRet, sRetN, sSet, sSetL, sRetL, sExpr, sNil, sUnp, sPar2, sPar3, sAug, mBin, mBinT, mUn, mCB, mTru, mAndT, mOrT, mNotT, mIf, mAndV, mOrV, mNotV, mNil, mCons, mTup, mLst, mCall, mCallK, mMeth, mMake, mFld, sSetFld, sAugFld, sSetIx, mChain, mChainT, mSl, oNone, oSome, mBM, eVar, eC, ok_bind, bad_bind, ok_st, nx_seq, rt_seq, bk_seq, ct_seq, ofO_some, List.getElem?_cons_zero, List.getElem?_cons_succ, List.set_cons_zero, List.set_cons_succ, List.length_cons, List.length_nil, List.append_nil, List.nil_append, List.cons_append, tgName, tgNil, tgCons, tgTup, setsE, List.foldl_cons, List.foldl_nil, List.map_cons, List.map_nil, tYesZ, wipeE, isNZ, PV.isN, Option.map_some, Option.bind_some, if_true, if_false, Bool.not_true, Bool.not_false, reduceIte, Bool.false_eq_true, permP, List.getD_cons_zero, List.getD_cons_succ, atI_0, atI_1, atI_2, atI_3, addZ_int, subZ_int, modZ_int, gtZ_int, ltZ_int, leZ_int, geZ_int, eqZ_int, neZ_int, intTyZ_int, truZ_bl, addI_int, maxZ_int, minZ_int, rb_bl, negZ_int, ixZ_tup, ixZ_lst, ixZ_scr, lenZ_tup, lenZ_lst, lenZ_scr, tupTyZ_lst, tupTyZ_tup, tyOk_str, Nat.reduceAdd, Nat.zero_add, lk0, lk1, lk2, lk3, lk4, lk5, lk6, lk7, lk8, lk9, lk10, lk11, lk12, and_self, and_true, true_and, Bool.and_true, Bool.true_and, Bool.and_self, Bool.or_false, Bool.false_or, cst0, cst1, cst2, cst3, cst4, cst5, cst6, cst7, cst8, cst9, cst10, cst11, cst12, sz0, sz1, sz2, sz3, sz4, sz5, sz6, sz7, sz8, sz9, sz10, sz11, sz12, is_non_int, is_non_bool, is_non_str, is_non_tuple, is_non_list, is_bl_int, is_bl_bool, is_bl_str, is_bl_tuple, is_bl_list, is_int_int, is_int_bool, is_int_str, is_int_tuple, is_int_list, is_str_int, is_str_bool, is_str_str, is_str_tuple, is_str_list, is_tup_int, is_tup_bool, is_tup_str, is_tup_tuple, is_tup_list, is_lst_int, is_lst_bool, is_lst_str, is_lst_tuple, is_lst_list, e1, i0, look_peek, look_skip, e2, is_pattern_ok p, e3, e4, e5, i3, look_end, e6]
  rfl
/-! equal calendars -/
theorem cal_inj {pt pt' : List Nat} {cl op cl' op' : List (Int × Int)} (p : Pat pt) (c : Sp cl) (o : Sp op) (p' : Pat pt') (c' : Sp cl') (o' : Sp op') (h : ctext pt cl op = ctext pt' cl' op') : calP pt cl op = calP pt' cl' op' := by
  have e1 := read_calendar_ok (ph := []) p c o
  have e2 := read_calendar_ok (ph := []) p' c' o'
  rw [h, e2] at e1
  exact (Res.ok.inj e1).1.symm
theorem calP_inj {pt pt' : List Nat} {cl op cl' op' : List (Int × Int)} (h : calP pt cl op = calP pt' cl' op') : pt = pt' ∧ cl = cl' ∧ op = op' := by
  unfold calP spansP at h
  have hs : ∀ {xs ys : List (Int × Int)}, xs.map spanP = ys.map spanP → xs = ys := fun {xs ys} h => List.map_inj_right (f := spanP) (by
    intro a b e
    obtain ⟨a1, a2⟩ := a
    obtain ⟨b1, b2⟩ := b
    simp at e
    simp [e]) |>.mp h
  simp only [PV.tup.injEq, List.cons.injEq, PV.str.injEq, and_true] at h
  exact ⟨SX.S_inj h.1, hs h.2.1, hs h.2.2⟩

theorem eqvAll_spans : ∀ (xs ys : List (Int × Int)), PyData.eqvAll (xs.map spanD) (ys.map spanD) = decide (xs = ys)
  | [], [] => by simp [PyData.eqvAll]
  | [], _ :: _ => by simp [PyData.eqvAll]
  | _ :: _, [] => by simp [PyData.eqvAll]
  | w :: ws, v :: vs => by
    rw [List.map_cons, List.map_cons, PyData.eqvAll, eqv_span, eqvAll_spans ws vs]
    by_cases h1 : w = v <;> by_cases h2 : ws = vs <;> simp [h1, h2]
def calD (pt : List Nat) (cl op : List (Int × Int)) : PyData := .tuple [.str (S pt), .tuple (cl.map spanD), .tuple (op.map spanD)]
theorem toD_cal {pt : List Nat} {cl op : List (Int × Int)} : (calP pt cl op).toD = some (calD pt cl op) := by
  unfold calP spansP
  simp only [PV.toD, PV.toDL, toDL_spans]
  rfl
theorem shaped_cal {pt : List Nat} {cl op : List (Int × Int)} (p : Pat pt) : SeqAt.shaped (calD pt cl op) = true := by
  obtain ⟨a1, a2⟩ := shaped_spans cl
  obtain ⟨b1, b2⟩ := shaped_spans op
  have h1 : PyData.canLay0 (.str (S pt)) = true := (Bool.and_eq_true_iff.mp (shaped_str p.ok)).1
  unfold SeqAt.shaped calD
  rw [PyData.canLay0, PyData.canLayAll0, PyData.canLayAll0, PyData.canLayAll0, PyData.canLayAll0, h1, PyData.canLay0, PyData.canLay0, a1, b1]
  simp only [PyData.depth, PyData.depthAll, Bool.and_self, Bool.true_and]
  refine decide_eq_true ?_
  have h3 : max (max 0 0) 0 = 0 := rfl
  generalize PyData.depthAll (cl.map spanD) = a at *
  generalize PyData.depthAll (op.map spanD) = b at *
  simp only [Nat.max_def]
  repeat' split
  all_goals omega
theorem eqZ_cal {ph : PH} {pt pt' : List Nat} {cl op cl' op' : List (Int × Int)} (p : Pat pt) (p' : Pat pt') : eqZ false ph (calP pt cl op) (calP pt' cl' op') = some (.bl (decide (pt = pt') && (decide (cl = cl') && decide (op = op')))) := by
  have e1 : dOf ph (calP pt cl op) = some (calD pt cl op) := toD_cal
  have e2 : dOf ph (calP pt' cl' op') = some (calD pt' cl' op') := toD_cal
  unfold eqZ
  rw [e1, e2]
  simp only [shaped_cal p, shaped_cal p', Bool.and_self, if_true]
  unfold calD
  simp only [PyData.eqv, PyData.eqvAll, eqvAll_spans, SX.S_beq_eq, Bool.and_true]
  rfl
theorem eqZ_bl {ph : PH} {a b : Bool} : eqZ false ph (.bl a) (.bl b) = some (.bl (decide (a = b))) := by
  have e : eqZ false ph (.bl a) (.bl b) = if SeqAt.shaped (.bool a) && SeqAt.shaped (.bool b) then some (.bl (PyData.eqv (.bool a) (.bool b))) else none := rfl
  rw [e, show SeqAt.shaped (.bool a) = true from by simp [SeqAt.shaped, PyData.canLay0, PyData.depth], show SeqAt.shaped (.bool b) = true from by simp [SeqAt.shaped, PyData.canLay0, PyData.depth], if_pos (show (true && true) = true from rfl)]
  cases a <;> cases b <;> simp [PyData.eqv]
theorem gd_cal {pt : List Nat} {cl op : List (Int × Int)} (p : Pat pt) (c : Sp cl) (o : Sp op) : Gd 6 (calP pt cl op) := by
  have hs : ∀ xs : List (Int × Int), Sp xs → Gd 5 (spansP xs) := fun xs s => .inr (.inr ⟨_, rfl, by have := s.len; simp; omega, fun x hx => by
    obtain ⟨q, _, rfl⟩ := List.mem_map.mp hx
    exact .inr (.inr ⟨_, rfl, by simp, fun y hy => by
      simp at hy
      rcases hy with rfl | rfl
      · exact .inl ⟨_, rfl⟩
      · exact .inl ⟨_, rfl⟩⟩)⟩)
  refine .inr (.inr ⟨_, rfl, by simp, fun x hx => ?_⟩)
  simp at hx
  rcases hx with rfl | rfl | rfl
  · exact .inr (.inl ⟨pt, rfl, p.ok⟩)
  · exact hs cl c
  · exact hs op o
theorem calendars_right_ok {N l : Nat} {ph : PH} (u : U N l ph) (hN : N ≤ 5000) : ∃ ph', m_law_calendars_right [.loc l] ph = .ok (.bl true) ph' ∧ U (N + 60) l ph' ∧ Stp l ph ph' := by
  obtain ⟨pt, cl, op, p1, a1, p, c, o, u1, s1⟩ := law_calendar_ok u (by omega)
  obtain ⟨pt', cl', op', p2, b1, p', c', o', u2, s2⟩ := law_calendar_ok u1 (by omega)
  have st := s1.trans s2
  have sh := show_calendar_ok (ph := p2) p c o
  have sh' := show_calendar_ok (ph := p2) p' c' o'
  have wr := law_written_ok (ph := p2) p c o
  have wr' := law_written_ok (ph := p2) p' c' o'
  have rd := read_calendar_ok (ph := p2) p c o
  have rd' := read_calendar_ok (ph := p2) p' c' o'
  have g1 := same_refl 6 (.str (S (ctext pt cl op))) p2 (gd_str (ctext_ok p c o))
  have g1' := same_refl 6 (.str (S (ctext pt' cl' op'))) p2 (gd_str (ctext_ok p' c' o'))
  have g2 := same_refl 6 (calP pt cl op) p2 (gd_cal p c o)
  have g2' := same_refl 6 (calP pt' cl' op') p2 (gd_cal p' c' o')
  have e1 : fo_law_calendars_right_0 [some (.loc l), none, some (calP pt cl op), some (calP pt' cl' op')] p2 = .nx [some (.loc l), some (calP pt cl op), some (calP pt cl op), some (calP pt' cl' op')] p2 := by
    unfold fo_law_calendars_right_0
    rw [sFor_ok (it := ⟨[calP pt cl op, calP pt' cl' op', calP pt cl op], []⟩) (ph1 := p2) (iSeq_lst (by simp only [sSeq, sIf, sRet, sRetN, sSet, sSetL, sRetL, sExpr, sNil, sUnp, sPar2, sPar3, sAug, mBin, mBinT, mUn, mCB, mTru, mAndT, mOrT, mNotT, mIf, mAndV, mOrV, mNotV, mNil, mCons, mTup, mLst, mCall, mCallK, mMeth, mMake, mFld, sSetFld, sAugFld, sSetIx, mChain, mChainT, mSl, oNone, oSome, mBM, eVar, eC, ok_bind, bad_bind, ok_st, nx_seq, rt_seq, bk_seq, ct_seq, ofO_some, List.getElem?_cons_zero, List.getElem?_cons_succ, List.set_cons_zero, List.set_cons_succ, List.length_cons, List.length_nil, List.append_nil, List.nil_append, List.cons_append, tgName, tgNil, tgCons, tgTup, setsE, List.foldl_cons, List.foldl_nil, List.map_cons, List.map_nil, tYesZ, wipeE, isNZ, PV.isN, Option.map_some, Option.bind_some, if_true, if_false, Bool.not_true, Bool.not_false, reduceIte, Bool.false_eq_true, permP, List.getD_cons_zero, List.getD_cons_succ, atI_0, atI_1, atI_2, atI_3, addZ_int, subZ_int, modZ_int, gtZ_int, ltZ_int, leZ_int, geZ_int, eqZ_int, neZ_int, intTyZ_int, truZ_bl, addI_int, maxZ_int, minZ_int, rb_bl, negZ_int, ixZ_tup, ixZ_lst, ixZ_scr, lenZ_tup, lenZ_lst, lenZ_scr, tupTyZ_lst, tupTyZ_tup, tyOk_str, Nat.reduceAdd, Nat.zero_add, lk0, lk1, lk2, lk3, lk4, lk5, lk6, lk7, lk8, lk9, lk10, lk11, lk12, and_self, and_true, true_and, Bool.and_true, Bool.true_and, Bool.and_self, Bool.or_false, Bool.false_or, cst0, cst1, cst2, cst3, cst4, cst5, cst6, cst7, cst8, cst9, cst10, cst11, cst12, sz0, sz1, sz2, sz3, sz4, sz5, sz6, sz7, sz8, sz9, sz10, sz11, sz12, is_non_int, is_non_bool, is_non_str, is_non_tuple, is_non_list, is_bl_int, is_bl_bool, is_bl_str, is_bl_tuple, is_bl_list, is_int_int, is_int_bool, is_int_str, is_int_tuple, is_int_list, is_str_int, is_str_bool, is_str_str, is_str_tuple, is_str_list, is_tup_int, is_tup_bool, is_tup_str, is_tup_tuple, is_tup_list, is_lst_int, is_lst_bool, is_lst_str, is_lst_tuple, is_lst_list]))]
    rw [for_cons chk0 (l := [(1, calP pt cl op)]) rfl (e := [some (.loc l), some (calP pt cl op), some (calP pt cl op), some (calP pt' cl' op')]) (ph1 := p2) (by simp only [sSeq, sIf, sRet, sRetN, sSet, sSetL, sRetL, sExpr, sNil, sUnp, sPar2, sPar3, sAug, mBin, mBinT, mUn, mCB, mTru, mAndT, mOrT, mNotT, mIf, mAndV, mOrV, mNotV, mNil, mCons, mTup, mLst, mCall, mCallK, mMeth, mMake, mFld, sSetFld, sAugFld, sSetIx, mChain, mChainT, mSl, oNone, oSome, mBM, eVar, eC, ok_bind, bad_bind, ok_st, nx_seq, rt_seq, bk_seq, ct_seq, ofO_some, List.getElem?_cons_zero, List.getElem?_cons_succ, List.set_cons_zero, List.set_cons_succ, List.length_cons, List.length_nil, List.append_nil, List.nil_append, List.cons_append, tgName, tgNil, tgCons, tgTup, setsE, List.foldl_cons, List.foldl_nil, List.map_cons, List.map_nil, tYesZ, wipeE, isNZ, PV.isN, Option.map_some, Option.bind_some, if_true, if_false, Bool.not_true, Bool.not_false, reduceIte, Bool.false_eq_true, permP, List.getD_cons_zero, List.getD_cons_succ, atI_0, atI_1, atI_2, atI_3, addZ_int, subZ_int, modZ_int, gtZ_int, ltZ_int, leZ_int, geZ_int, eqZ_int, neZ_int, intTyZ_int, truZ_bl, addI_int, maxZ_int, minZ_int, rb_bl, negZ_int, ixZ_tup, ixZ_lst, ixZ_scr, lenZ_tup, lenZ_lst, lenZ_scr, tupTyZ_lst, tupTyZ_tup, tyOk_str, Nat.reduceAdd, Nat.zero_add, lk0, lk1, lk2, lk3, lk4, lk5, lk6, lk7, lk8, lk9, lk10, lk11, lk12, and_self, and_true, true_and, Bool.and_true, Bool.true_and, Bool.and_self, Bool.or_false, Bool.false_or, cst0, cst1, cst2, cst3, cst4, cst5, cst6, cst7, cst8, cst9, cst10, cst11, cst12, sz0, sz1, sz2, sz3, sz4, sz5, sz6, sz7, sz8, sz9, sz10, sz11, sz12, is_non_int, is_non_bool, is_non_str, is_non_tuple, is_non_list, is_bl_int, is_bl_bool, is_bl_str, is_bl_tuple, is_bl_list, is_int_int, is_int_bool, is_int_str, is_int_tuple, is_int_list, is_str_int, is_str_bool, is_str_str, is_str_tuple, is_str_list, is_tup_int, is_tup_bool, is_tup_str, is_tup_tuple, is_tup_list, is_lst_int, is_lst_bool, is_lst_str, is_lst_tuple, is_lst_list, sh, wr, g1, rd, g2])]
    rw [for_cons chk0 (l := [(1, calP pt' cl' op')]) rfl (e := [some (.loc l), some (calP pt' cl' op'), some (calP pt cl op), some (calP pt' cl' op')]) (ph1 := p2) (by simp only [sSeq, sIf, sRet, sRetN, sSet, sSetL, sRetL, sExpr, sNil, sUnp, sPar2, sPar3, sAug, mBin, mBinT, mUn, mCB, mTru, mAndT, mOrT, mNotT, mIf, mAndV, mOrV, mNotV, mNil, mCons, mTup, mLst, mCall, mCallK, mMeth, mMake, mFld, sSetFld, sAugFld, sSetIx, mChain, mChainT, mSl, oNone, oSome, mBM, eVar, eC, ok_bind, bad_bind, ok_st, nx_seq, rt_seq, bk_seq, ct_seq, ofO_some, List.getElem?_cons_zero, List.getElem?_cons_succ, List.set_cons_zero, List.set_cons_succ, List.length_cons, List.length_nil, List.append_nil, List.nil_append, List.cons_append, tgName, tgNil, tgCons, tgTup, setsE, List.foldl_cons, List.foldl_nil, List.map_cons, List.map_nil, tYesZ, wipeE, isNZ, PV.isN, Option.map_some, Option.bind_some, if_true, if_false, Bool.not_true, Bool.not_false, reduceIte, Bool.false_eq_true, permP, List.getD_cons_zero, List.getD_cons_succ, atI_0, atI_1, atI_2, atI_3, addZ_int, subZ_int, modZ_int, gtZ_int, ltZ_int, leZ_int, geZ_int, eqZ_int, neZ_int, intTyZ_int, truZ_bl, addI_int, maxZ_int, minZ_int, rb_bl, negZ_int, ixZ_tup, ixZ_lst, ixZ_scr, lenZ_tup, lenZ_lst, lenZ_scr, tupTyZ_lst, tupTyZ_tup, tyOk_str, Nat.reduceAdd, Nat.zero_add, lk0, lk1, lk2, lk3, lk4, lk5, lk6, lk7, lk8, lk9, lk10, lk11, lk12, and_self, and_true, true_and, Bool.and_true, Bool.true_and, Bool.and_self, Bool.or_false, Bool.false_or, cst0, cst1, cst2, cst3, cst4, cst5, cst6, cst7, cst8, cst9, cst10, cst11, cst12, sz0, sz1, sz2, sz3, sz4, sz5, sz6, sz7, sz8, sz9, sz10, sz11, sz12, is_non_int, is_non_bool, is_non_str, is_non_tuple, is_non_list, is_bl_int, is_bl_bool, is_bl_str, is_bl_tuple, is_bl_list, is_int_int, is_int_bool, is_int_str, is_int_tuple, is_int_list, is_str_int, is_str_bool, is_str_str, is_str_tuple, is_str_list, is_tup_int, is_tup_bool, is_tup_str, is_tup_tuple, is_tup_list, is_lst_int, is_lst_bool, is_lst_str, is_lst_tuple, is_lst_list, sh', wr', g1', rd', g2'])]
    rw [for_cons chk0 (l := [(1, calP pt cl op)]) rfl (e := [some (.loc l), some (calP pt cl op), some (calP pt cl op), some (calP pt' cl' op')]) (ph1 := p2) (by simp only [sSeq, sIf, sRet, sRetN, sSet, sSetL, sRetL, sExpr, sNil, sUnp, sPar2, sPar3, sAug, mBin, mBinT, mUn, mCB, mTru, mAndT, mOrT, mNotT, mIf, mAndV, mOrV, mNotV, mNil, mCons, mTup, mLst, mCall, mCallK, mMeth, mMake, mFld, sSetFld, sAugFld, sSetIx, mChain, mChainT, mSl, oNone, oSome, mBM, eVar, eC, ok_bind, bad_bind, ok_st, nx_seq, rt_seq, bk_seq, ct_seq, ofO_some, List.getElem?_cons_zero, List.getElem?_cons_succ, List.set_cons_zero, List.set_cons_succ, List.length_cons, List.length_nil, List.append_nil, List.nil_append, List.cons_append, tgName, tgNil, tgCons, tgTup, setsE, List.foldl_cons, List.foldl_nil, List.map_cons, List.map_nil, tYesZ, wipeE, isNZ, PV.isN, Option.map_some, Option.bind_some, if_true, if_false, Bool.not_true, Bool.not_false, reduceIte, Bool.false_eq_true, permP, List.getD_cons_zero, List.getD_cons_succ, atI_0, atI_1, atI_2, atI_3, addZ_int, subZ_int, modZ_int, gtZ_int, ltZ_int, leZ_int, geZ_int, eqZ_int, neZ_int, intTyZ_int, truZ_bl, addI_int, maxZ_int, minZ_int, rb_bl, negZ_int, ixZ_tup, ixZ_lst, ixZ_scr, lenZ_tup, lenZ_lst, lenZ_scr, tupTyZ_lst, tupTyZ_tup, tyOk_str, Nat.reduceAdd, Nat.zero_add, lk0, lk1, lk2, lk3, lk4, lk5, lk6, lk7, lk8, lk9, lk10, lk11, lk12, and_self, and_true, true_and, Bool.and_true, Bool.true_and, Bool.and_self, Bool.or_false, Bool.false_or, cst0, cst1, cst2, cst3, cst4, cst5, cst6, cst7, cst8, cst9, cst10, cst11, cst12, sz0, sz1, sz2, sz3, sz4, sz5, sz6, sz7, sz8, sz9, sz10, sz11, sz12, is_non_int, is_non_bool, is_non_str, is_non_tuple, is_non_list, is_bl_int, is_bl_bool, is_bl_str, is_bl_tuple, is_bl_list, is_int_int, is_int_bool, is_int_str, is_int_tuple, is_int_list, is_str_int, is_str_bool, is_str_str, is_str_tuple, is_str_list, is_tup_int, is_tup_bool, is_tup_str, is_tup_tuple, is_tup_list, is_lst_int, is_lst_bool, is_lst_str, is_lst_tuple, is_lst_list, sh, wr, g1, rd, g2])]
    rw [for_nil chk0]
  have hfin : decide (decide (ctext pt cl op = ctext pt' cl' op') = (decide (pt = pt') && (decide (cl = cl') && decide (op = op')))) = true := by
    refine decide_eq_true ?_
    by_cases h : ctext pt cl op = ctext pt' cl' op'
    · obtain ⟨h1, h2, h3⟩ := calP_inj (cal_inj p c o p' c' o' h)
      simp [h, h1, h2, h3]
    · have : ¬ (pt = pt' ∧ cl = cl' ∧ op = op') := fun z => h (by rw [z.1, z.2.1, z.2.2])
      simp only [h, decide_false]
      symm
      simp
      intro h1 h2 h3
      exact this ⟨h1, h2, h3⟩
  refine ⟨p2, ?_, u2, st⟩
  unfold m_law_calendars_right
  refine dFn_rtS ?_ st.len
  rw [env1_4]
  unfold b_law_calendars_right
  simp only [sSeq, sIf, sRet, sRetN, sSet, sSetL, sRetL, sExpr, sNil, sUnp, sPar2, sPar3, sAug, mBin, mBinT, mUn, mCB, mTru, mAndT, mOrT, mNotT, mIf, mAndV, mOrV, mNotV, mNil, mCons, mTup, mLst, mCall, mCallK, mMeth, mMake, mFld, sSetFld, sAugFld, sSetIx, mChain, mChainT, mSl, oNone, oSome, mBM, eVar, eC, ok_bind, bad_bind, ok_st, nx_seq, rt_seq, bk_seq, ct_seq, ofO_some, List.getElem?_cons_zero, List.getElem?_cons_succ, List.set_cons_zero, List.set_cons_succ, List.length_cons, List.length_nil, List.append_nil, List.nil_append, List.cons_append, tgName, tgNil, tgCons, tgTup, setsE, List.foldl_cons, List.foldl_nil, List.map_cons, List.map_nil, tYesZ, wipeE, isNZ, PV.isN, Option.map_some, Option.bind_some, if_true, if_false, Bool.not_true, Bool.not_false, reduceIte, Bool.false_eq_true, permP, List.getD_cons_zero, List.getD_cons_succ, atI_0, atI_1, atI_2, atI_3, addZ_int, subZ_int, modZ_int, gtZ_int, ltZ_int, leZ_int, geZ_int, eqZ_int, neZ_int, intTyZ_int, truZ_bl, addI_int, maxZ_int, minZ_int, rb_bl, negZ_int, ixZ_tup, ixZ_lst, ixZ_scr, lenZ_tup, lenZ_lst, lenZ_scr, tupTyZ_lst, tupTyZ_tup, tyOk_str, Nat.reduceAdd, Nat.zero_add, lk0, lk1, lk2, lk3, lk4, lk5, lk6, lk7, lk8, lk9, lk10, lk11, lk12, and_self, and_true, true_and, Bool.and_true, Bool.true_and, Bool.and_self, Bool.or_false, Bool.false_or, cst0, cst1, cst2, cst3, cst4, cst5, cst6, cst7, cst8, cst9, cst10, cst11, cst12, sz0, sz1, sz2, sz3, sz4, sz5, sz6, sz7, sz8, sz9, sz10, sz11, sz12, is_non_int, is_non_bool, is_non_str, is_non_tuple, is_non_list, is_bl_int, is_bl_bool, is_bl_str, is_bl_tuple, is_bl_list, is_int_int, is_int_bool, is_int_str, is_int_tuple, is_int_list, is_str_int, is_str_bool, is_str_str, is_str_tuple, is_str_list, is_tup_int, is_tup_bool, is_tup_str, is_tup_tuple, is_tup_list, is_lst_int, is_lst_bool, is_lst_str, is_lst_tuple, is_lst_list, a1, b1, e1, wr', rd', g2', sh', sh, neZ_str (ctext_ok p' c' o') (ctext_ok p' c' o'), decide_true, eqZ_str (ctext_ok p c o) (ctext_ok p' c' o'), eqZ_cal p p', eqZ_bl, hfin]

/-! the law -/
theorem urn_ok {ns : List Int} {k : Nat} (hk : k < 4) {ph : PH} : ∃ ph', m_law_urn [.scr (ns.map .int), .int k] ph = .ok (.loc ph.length) ph' ∧ U 0 ph.length ph' := by
  have hcell : ∃ cell : Int, (sIf (mBinT ltZ (eVar 1) (mCB lenZ (mCons (eVar 0) (mNil)))) (sSet 2 (mBin ixZ (eVar 0) (eVar 1))) (sNil)) [some (.scr (ns.map .int)), some (.int k), some (.int 0)] ph = .nx [some (.scr (ns.map .int)), some (.int k), some (.int cell)] ph := by
    by_cases h : k < ns.length
    · have e : atI (ns.map PV.int) (k : Int) = some (.int ns[k]) := by rw [atI_nat (by simpa using h)]; simp
      refine ⟨ns[k], ?_⟩
      simp only [sSeq, sIf, sRet, sRetN, sSet, sSetL, sRetL, sExpr, sNil, sUnp, sPar2, sPar3, sAug, mBin, mBinT, mUn, mCB, mTru, mAndT, mOrT, mNotT, mIf, mAndV, mOrV, mNotV, mNil, mCons, mTup, mLst, mCall, mCallK, mMeth, mMake, mFld, sSetFld, sAugFld, sSetIx, mChain, mChainT, mSl, oNone, oSome, mBM, eVar, eC, ok_bind, bad_bind, ok_st, nx_seq, rt_seq, bk_seq, ct_seq, ofO_some, List.getElem?_cons_zero, List.getElem?_cons_succ, List.set_cons_zero, List.set_cons_succ, List.length_cons, List.length_nil, List.append_nil, List.nil_append, List.cons_append, tgName, tgNil, tgCons, tgTup, setsE, List.foldl_cons, List.foldl_nil, List.map_cons, List.map_nil, tYesZ, wipeE, isNZ, PV.isN, Option.map_some, Option.bind_some, if_true, if_false, Bool.not_true, Bool.not_false, reduceIte, Bool.false_eq_true, permP, List.getD_cons_zero, List.getD_cons_succ, atI_0, atI_1, atI_2, atI_3, addZ_int, subZ_int, modZ_int, gtZ_int, ltZ_int, leZ_int, geZ_int, eqZ_int, neZ_int, intTyZ_int, truZ_bl, addI_int, maxZ_int, minZ_int, rb_bl, negZ_int, ixZ_tup, ixZ_lst, ixZ_scr, lenZ_tup, lenZ_lst, lenZ_scr, tupTyZ_lst, tupTyZ_tup, tyOk_str, Nat.reduceAdd, Nat.zero_add, lk0, lk1, lk2, lk3, lk4, lk5, lk6, lk7, lk8, lk9, lk10, lk11, lk12, and_self, and_true, true_and, Bool.and_true, Bool.true_and, Bool.and_self, Bool.or_false, Bool.false_or, cst0, cst1, cst2, cst3, cst4, cst5, cst6, cst7, cst8, cst9, cst10, cst11, cst12, sz0, sz1, sz2, sz3, sz4, sz5, sz6, sz7, sz8, sz9, sz10, sz11, sz12, is_non_int, is_non_bool, is_non_str, is_non_tuple, is_non_list, is_bl_int, is_bl_bool, is_bl_str, is_bl_tuple, is_bl_list, is_int_int, is_int_bool, is_int_str, is_int_tuple, is_int_list, is_str_int, is_str_bool, is_str_str, is_str_tuple, is_str_list, is_tup_int, is_tup_bool, is_tup_str, is_tup_tuple, is_tup_list, is_lst_int, is_lst_bool, is_lst_str, is_lst_tuple, is_lst_list, List.length_map, show decide ((k : Int) < (ns.length : Int)) = true from decide_eq_true (by omega), e]
    · refine ⟨0, ?_⟩
      simp only [sSeq, sIf, sRet, sRetN, sSet, sSetL, sRetL, sExpr, sNil, sUnp, sPar2, sPar3, sAug, mBin, mBinT, mUn, mCB, mTru, mAndT, mOrT, mNotT, mIf, mAndV, mOrV, mNotV, mNil, mCons, mTup, mLst, mCall, mCallK, mMeth, mMake, mFld, sSetFld, sAugFld, sSetIx, mChain, mChainT, mSl, oNone, oSome, mBM, eVar, eC, ok_bind, bad_bind, ok_st, nx_seq, rt_seq, bk_seq, ct_seq, ofO_some, List.getElem?_cons_zero, List.getElem?_cons_succ, List.set_cons_zero, List.set_cons_succ, List.length_cons, List.length_nil, List.append_nil, List.nil_append, List.cons_append, tgName, tgNil, tgCons, tgTup, setsE, List.foldl_cons, List.foldl_nil, List.map_cons, List.map_nil, tYesZ, wipeE, isNZ, PV.isN, Option.map_some, Option.bind_some, if_true, if_false, Bool.not_true, Bool.not_false, reduceIte, Bool.false_eq_true, permP, List.getD_cons_zero, List.getD_cons_succ, atI_0, atI_1, atI_2, atI_3, addZ_int, subZ_int, modZ_int, gtZ_int, ltZ_int, leZ_int, geZ_int, eqZ_int, neZ_int, intTyZ_int, truZ_bl, addI_int, maxZ_int, minZ_int, rb_bl, negZ_int, ixZ_tup, ixZ_lst, ixZ_scr, lenZ_tup, lenZ_lst, lenZ_scr, tupTyZ_lst, tupTyZ_tup, tyOk_str, Nat.reduceAdd, Nat.zero_add, lk0, lk1, lk2, lk3, lk4, lk5, lk6, lk7, lk8, lk9, lk10, lk11, lk12, and_self, and_true, true_and, Bool.and_true, Bool.true_and, Bool.and_self, Bool.or_false, Bool.false_or, cst0, cst1, cst2, cst3, cst4, cst5, cst6, cst7, cst8, cst9, cst10, cst11, cst12, sz0, sz1, sz2, sz3, sz4, sz5, sz6, sz7, sz8, sz9, sz10, sz11, sz12, is_non_int, is_non_bool, is_non_str, is_non_tuple, is_non_list, is_bl_int, is_bl_bool, is_bl_str, is_bl_tuple, is_bl_list, is_int_int, is_int_bool, is_int_str, is_int_tuple, is_int_list, is_str_int, is_str_bool, is_str_str, is_str_tuple, is_str_list, is_tup_int, is_tup_bool, is_tup_str, is_tup_tuple, is_tup_list, is_lst_int, is_lst_bool, is_lst_str, is_lst_tuple, is_lst_list, List.length_map, show decide ((k : Int) < (ns.length : Int)) = false from decide_eq_false (by omega)]
  obtain ⟨cell, e1⟩ := hcell
  have q1 : powOk 10 18 = true := powOk_of (n := 4) (k := 18) (by decide) (by decide)
  have q2 : powOk 10 39 = true := powOk_of (n := 4) (k := 39) (by decide) (by decide)
  have q3 : mulOk 977 (k : Int) = true := mulOk_of (n := 10) (m := 10) (by decide) (by omega) (by decide)
  have q4 : mulOk (977 * (k : Int)) (k : Int) = true := mulOk_of (n := 20) (m := 10) (by omega) (by omega) (by decide)
  have p1 : (0 : Int) < 10 ^ Int.toNat 39 + 3 := by decide
  have b0 := Int.emod_nonneg cell (b := 10 ^ Int.toNat 39 + 3) (by decide)
  have b1 := Int.emod_lt_of_pos cell p1
  have b2 : 0 ≤ 977 * (k : Int) * (k : Int) ∧ 977 * (k : Int) * (k : Int) ≤ 9000 := by
    have : k = 0 ∨ k = 1 ∨ k = 2 ∨ k = 3 := by omega
    rcases this with rfl | rfl | rfl | rfl <;> decide
  have b3 : (10 ^ Int.toNat 39 + 3 : Int) ≤ 10 ^ 40 - 10000 := by decide
  refine ⟨ph ++ [.lst [.int (if cell - 10 ^ Int.toNat 18 > 0 then cell - 10 ^ Int.toNat 18 else 0), .int (cell % (10 ^ Int.toNat 39 + 3) + 977 * (k : Int) * (k : Int) + 13), .int 0]], ?_, _, _, _, app_r, ?_, by omega, by omega, by omega, by omega⟩
  · unfold m_law_urn
    refine dFnR_rt ?_
    rw [show envZ 3 [.scr (ns.map .int), .int (k : Int)] = [some (.scr (ns.map .int)), some (.int k), none] from rfl]
    unfold b_law_urn
    have e2 : ∀ f : DS, sSeq (sIf (mBinT ltZ (eVar 1) (mCB lenZ (mCons (eVar 0) (mNil)))) (sSet 2 (mBin ixZ (eVar 0) (eVar 1))) (sNil)) f [some (.scr (ns.map .int)), some (.int k), some (.int 0)] ph = f [some (.scr (ns.map .int)), some (.int k), some (.int cell)] ph := fun f => by
      unfold sSeq
      rw [e1]
      rfl
    have e3 : ∀ f : DS, sSeq (sSet 2 (eC (.int 0))) f [some (.scr (ns.map .int)), some (.int k), none] ph = f [some (.scr (ns.map .int)), some (.int k), some (.int 0)] ph := fun f => rfl
    rw [e3, e2]
    simp only [sSeq, sIf, sRet, sRetN, sSet, sSetL, sRetL, sExpr, sNil, sUnp, sPar2, sPar3, sAug, mBin, mBinT, mUn, mCB, mTru, mAndT, mOrT, mNotT, mIf, mAndV, mOrV, mNotV, mNil, mCons, mTup, mLst, mCall, mCallK, mMeth, mMake, mFld, sSetFld, sAugFld, sSetIx, mChain, mChainT, mSl, oNone, oSome, mBM, eVar, eC, ok_bind, bad_bind, ok_st, nx_seq, rt_seq, bk_seq, ct_seq, ofO_some, List.getElem?_cons_zero, List.getElem?_cons_succ, List.set_cons_zero, List.set_cons_succ, List.length_cons, List.length_nil, List.append_nil, List.nil_append, List.cons_append, tgName, tgNil, tgCons, tgTup, setsE, List.foldl_cons, List.foldl_nil, List.map_cons, List.map_nil, tYesZ, wipeE, isNZ, PV.isN, Option.map_some, Option.bind_some, if_true, if_false, Bool.not_true, Bool.not_false, reduceIte, Bool.false_eq_true, permP, List.getD_cons_zero, List.getD_cons_succ, atI_0, atI_1, atI_2, atI_3, addZ_int, subZ_int, modZ_int, gtZ_int, ltZ_int, leZ_int, geZ_int, eqZ_int, neZ_int, intTyZ_int, truZ_bl, addI_int, maxZ_int, minZ_int, rb_bl, negZ_int, ixZ_tup, ixZ_lst, ixZ_scr, lenZ_tup, lenZ_lst, lenZ_scr, tupTyZ_lst, tupTyZ_tup, tyOk_str, Nat.reduceAdd, Nat.zero_add, lk0, lk1, lk2, lk3, lk4, lk5, lk6, lk7, lk8, lk9, lk10, lk11, lk12, and_self, and_true, true_and, Bool.and_true, Bool.true_and, Bool.and_self, Bool.or_false, Bool.false_or, cst0, cst1, cst2, cst3, cst4, cst5, cst6, cst7, cst8, cst9, cst10, cst11, cst12, sz0, sz1, sz2, sz3, sz4, sz5, sz6, sz7, sz8, sz9, sz10, sz11, sz12, is_non_int, is_non_bool, is_non_str, is_non_tuple, is_non_list, is_bl_int, is_bl_bool, is_bl_str, is_bl_tuple, is_bl_list, is_int_int, is_int_bool, is_int_str, is_int_tuple, is_int_list, is_str_int, is_str_bool, is_str_str, is_str_tuple, is_str_list, is_tup_int, is_tup_bool, is_tup_str, is_tup_tuple, is_tup_list, is_lst_int, is_lst_bool, is_lst_str, is_lst_tuple, is_lst_list, powZ_int q1, powZ_int q2, mulZ_int q3, mulZ_int q4, modZ_int p1]
  · split <;> omega
theorem turn_ok {N l : Nat} {ph : PH} (u : U N l ph) (hN : N ≤ 1000) {a b d : Option PV} :
    ∃ ph', (sIf (mOrT (mNotT (mTru (mCall 1 (m_law_calendars_right) [] (mCons (eVar 2) (mNil))))) (mOrT (mNotT (mTru (mCall 1 (m_law_routes_right) [] (mCons (eVar 2) (mNil))))) (mNotT (mTru (mCall 1 (m_law_codes_right) [] (mCons (eVar 2) (mNil))))))) (sRet (eC (.bl false))) (sNil)) [a, b, some (.loc l), d] ph = .nx [a, b, some (.loc l), d] ph' ∧ U (N + 100) l ph' := by
  obtain ⟨p1, a1, u1, s1⟩ := calendars_right_ok u (by omega)
  obtain ⟨p2, a2, u2, s2⟩ := routes_right_ok u1 (by omega)
  obtain ⟨p3, a3, u3, s3⟩ := codes_right_ok u2 (by omega)
  refine ⟨p3, ?_, u3.mono (by omega)⟩
  simp only [sSeq, sIf, sRet, sRetN, sSet, sSetL, sRetL, sExpr, sNil, sUnp, sPar2, sPar3, sAug, mBin, mBinT, mUn, mCB, mTru, mAndT, mOrT, mNotT, mIf, mAndV, mOrV, mNotV, mNil, mCons, mTup, mLst, mCall, mCallK, mMeth, mMake, mFld, sSetFld, sAugFld, sSetIx, mChain, mChainT, mSl, oNone, oSome, mBM, eVar, eC, ok_bind, bad_bind, ok_st, nx_seq, rt_seq, bk_seq, ct_seq, ofO_some, List.getElem?_cons_zero, List.getElem?_cons_succ, List.set_cons_zero, List.set_cons_succ, List.length_cons, List.length_nil, List.append_nil, List.nil_append, List.cons_append, tgName, tgNil, tgCons, tgTup, setsE, List.foldl_cons, List.foldl_nil, List.map_cons, List.map_nil, tYesZ, wipeE, isNZ, PV.isN, Option.map_some, Option.bind_some, if_true, if_false, Bool.not_true, Bool.not_false, reduceIte, Bool.false_eq_true, permP, List.getD_cons_zero, List.getD_cons_succ, atI_0, atI_1, atI_2, atI_3, addZ_int, subZ_int, modZ_int, gtZ_int, ltZ_int, leZ_int, geZ_int, eqZ_int, neZ_int, intTyZ_int, truZ_bl, addI_int, maxZ_int, minZ_int, rb_bl, negZ_int, ixZ_tup, ixZ_lst, ixZ_scr, lenZ_tup, lenZ_lst, lenZ_scr, tupTyZ_lst, tupTyZ_tup, tyOk_str, Nat.reduceAdd, Nat.zero_add, lk0, lk1, lk2, lk3, lk4, lk5, lk6, lk7, lk8, lk9, lk10, lk11, lk12, and_self, and_true, true_and, Bool.and_true, Bool.true_and, Bool.and_self, Bool.or_false, Bool.false_or, cst0, cst1, cst2, cst3, cst4, cst5, cst6, cst7, cst8, cst9, cst10, cst11, cst12, sz0, sz1, sz2, sz3, sz4, sz5, sz6, sz7, sz8, sz9, sz10, sz11, sz12, is_non_int, is_non_bool, is_non_str, is_non_tuple, is_non_list, is_bl_int, is_bl_bool, is_bl_str, is_bl_tuple, is_bl_list, is_int_int, is_int_bool, is_int_str, is_int_tuple, is_int_list, is_str_int, is_str_bool, is_str_str, is_str_tuple, is_str_list, is_tup_int, is_tup_bool, is_tup_str, is_tup_tuple, is_tup_list, is_lst_int, is_lst_bool, is_lst_str, is_lst_tuple, is_lst_list, a1, a2, a3]
theorem law_true (ns : List Int) (hn : ns.length ≤ 63) : ∃ ph', m_law [.scr (ns.map .int)] [] = .ok (.bl true) ph' := by
  have hj : ∃ j : Int, 0 ≤ j ∧ j ≤ 4 ∧ ∀ q : PH, iRange1 (mCons (mCB maxZ (mCons (eC (.int 1)) (mCons (mCB minZ (mCons (eC (.int 4)) (mCons (mBin addZ (mCB lenZ (mCons (eVar 0) (mNil))) (eC (.int 1))) (mNil)))) (mNil)))) (mNil)) [some (.scr (ns.map .int)), none, none, none] q = .ok ⟨rngI 0 j, []⟩ q := by
    by_cases h : (ns.length : Int) + 1 < 4
    · refine ⟨if (ns.length : Int) + 1 > 1 then (ns.length : Int) + 1 else 1, by split <;> omega, by split <;> omega, fun q => iRange1_ok ?_ (by split <;> omega) (by split <;> omega)⟩
      simp only [sSeq, sIf, sRet, sRetN, sSet, sSetL, sRetL, sExpr, sNil, sUnp, sPar2, sPar3, sAug, mBin, mBinT, mUn, mCB, mTru, mAndT, mOrT, mNotT, mIf, mAndV, mOrV, mNotV, mNil, mCons, mTup, mLst, mCall, mCallK, mMeth, mMake, mFld, sSetFld, sAugFld, sSetIx, mChain, mChainT, mSl, oNone, oSome, mBM, eVar, eC, ok_bind, bad_bind, ok_st, nx_seq, rt_seq, bk_seq, ct_seq, ofO_some, List.getElem?_cons_zero, List.getElem?_cons_succ, List.set_cons_zero, List.set_cons_succ, List.length_cons, List.length_nil, List.append_nil, List.nil_append, List.cons_append, tgName, tgNil, tgCons, tgTup, setsE, List.foldl_cons, List.foldl_nil, List.map_cons, List.map_nil, tYesZ, wipeE, isNZ, PV.isN, Option.map_some, Option.bind_some, if_true, if_false, Bool.not_true, Bool.not_false, reduceIte, Bool.false_eq_true, permP, List.getD_cons_zero, List.getD_cons_succ, atI_0, atI_1, atI_2, atI_3, addZ_int, subZ_int, modZ_int, gtZ_int, ltZ_int, leZ_int, geZ_int, eqZ_int, neZ_int, intTyZ_int, truZ_bl, addI_int, maxZ_int, minZ_int, rb_bl, negZ_int, ixZ_tup, ixZ_lst, ixZ_scr, lenZ_tup, lenZ_lst, lenZ_scr, tupTyZ_lst, tupTyZ_tup, tyOk_str, Nat.reduceAdd, Nat.zero_add, lk0, lk1, lk2, lk3, lk4, lk5, lk6, lk7, lk8, lk9, lk10, lk11, lk12, and_self, and_true, true_and, Bool.and_true, Bool.true_and, Bool.and_self, Bool.or_false, Bool.false_or, cst0, cst1, cst2, cst3, cst4, cst5, cst6, cst7, cst8, cst9, cst10, cst11, cst12, sz0, sz1, sz2, sz3, sz4, sz5, sz6, sz7, sz8, sz9, sz10, sz11, sz12, is_non_int, is_non_bool, is_non_str, is_non_tuple, is_non_list, is_bl_int, is_bl_bool, is_bl_str, is_bl_tuple, is_bl_list, is_int_int, is_int_bool, is_int_str, is_int_tuple, is_int_list, is_str_int, is_str_bool, is_str_str, is_str_tuple, is_str_list, is_tup_int, is_tup_bool, is_tup_str, is_tup_tuple, is_tup_list, is_lst_int, is_lst_bool, is_lst_str, is_lst_tuple, is_lst_list, List.length_map, h]
    · refine ⟨4, by omega, by omega, fun q => iRange1_ok ?_ (by omega) (by omega)⟩
      simp only [sSeq, sIf, sRet, sRetN, sSet, sSetL, sRetL, sExpr, sNil, sUnp, sPar2, sPar3, sAug, mBin, mBinT, mUn, mCB, mTru, mAndT, mOrT, mNotT, mIf, mAndV, mOrV, mNotV, mNil, mCons, mTup, mLst, mCall, mCallK, mMeth, mMake, mFld, sSetFld, sAugFld, sSetIx, mChain, mChainT, mSl, oNone, oSome, mBM, eVar, eC, ok_bind, bad_bind, ok_st, nx_seq, rt_seq, bk_seq, ct_seq, ofO_some, List.getElem?_cons_zero, List.getElem?_cons_succ, List.set_cons_zero, List.set_cons_succ, List.length_cons, List.length_nil, List.append_nil, List.nil_append, List.cons_append, tgName, tgNil, tgCons, tgTup, setsE, List.foldl_cons, List.foldl_nil, List.map_cons, List.map_nil, tYesZ, wipeE, isNZ, PV.isN, Option.map_some, Option.bind_some, if_true, if_false, Bool.not_true, Bool.not_false, reduceIte, Bool.false_eq_true, permP, List.getD_cons_zero, List.getD_cons_succ, atI_0, atI_1, atI_2, atI_3, addZ_int, subZ_int, modZ_int, gtZ_int, ltZ_int, leZ_int, geZ_int, eqZ_int, neZ_int, intTyZ_int, truZ_bl, addI_int, maxZ_int, minZ_int, rb_bl, negZ_int, ixZ_tup, ixZ_lst, ixZ_scr, lenZ_tup, lenZ_lst, lenZ_scr, tupTyZ_lst, tupTyZ_tup, tyOk_str, Nat.reduceAdd, Nat.zero_add, lk0, lk1, lk2, lk3, lk4, lk5, lk6, lk7, lk8, lk9, lk10, lk11, lk12, and_self, and_true, true_and, Bool.and_true, Bool.true_and, Bool.and_self, Bool.or_false, Bool.false_or, cst0, cst1, cst2, cst3, cst4, cst5, cst6, cst7, cst8, cst9, cst10, cst11, cst12, sz0, sz1, sz2, sz3, sz4, sz5, sz6, sz7, sz8, sz9, sz10, sz11, sz12, is_non_int, is_non_bool, is_non_str, is_non_tuple, is_non_list, is_bl_int, is_bl_bool, is_bl_str, is_bl_tuple, is_bl_list, is_int_int, is_int_bool, is_int_str, is_int_tuple, is_int_list, is_str_int, is_str_bool, is_str_str, is_str_tuple, is_str_list, is_tup_int, is_tup_bool, is_tup_str, is_tup_tuple, is_tup_list, is_lst_int, is_lst_bool, is_lst_str, is_lst_tuple, is_lst_list, List.length_map, h]
      rfl
  obtain ⟨j, j0, j1, j2⟩ := hj
  unfold m_law
  have hz := for_inv (it := ⟨rngI 0 j, []⟩) (g := tgName 1) (b := sSeq (sSet 2 (mCall 2 (m_law_urn) [] (mCons (eVar 0) (mCons (eVar 1) (mNil))))) (fo_law_0)) (J := fun _ env _ => ∃ v1 v2 v3, env = [some (.scr (ns.map .int)), v1, v2, v3]) (rngI 0 j) 0 [some (.scr (ns.map .int)), none, none, none] []
  obtain ⟨env', ph', f1, v1, v2, v3, rfl⟩ := hz (fun k x hx env q hj => by
    obtain ⟨v1, v2, v3, rfl⟩ := hj
    obtain ⟨rfl, hk⟩ := rngI_get hx
    obtain ⟨p0, a0, u0⟩ := urn_ok (ns := ns) (k := k) (by omega) (ph := q)
    have hz2 := for_inv (it := ⟨rngI 0 3, []⟩) (g := tgName 3) (b := sIf (mOrT (mNotT (mTru (mCall 1 (m_law_calendars_right) [] (mCons (eVar 2) (mNil))))) (mOrT (mNotT (mTru (mCall 1 (m_law_routes_right) [] (mCons (eVar 2) (mNil))))) (mNotT (mTru (mCall 1 (m_law_codes_right) [] (mCons (eVar 2) (mNil))))))) (sRet (eC (.bl false))) (sNil))
      (J := fun t env p => (∃ v3, env = [some (.scr (ns.map .int)), some (.int k), some (.loc q.length), v3]) ∧ (t ≤ 3 → U (100 * t) q.length p)) (rngI 0 3) 0 [some (.scr (ns.map .int)), some (.int k), some (.loc q.length), v3] p0
    obtain ⟨env2, p2, f2, ⟨w3, rfl⟩, u2⟩ := hz2 (fun t y hy env p hj => by
      obtain ⟨⟨v3, rfl⟩, u⟩ := hj
      obtain ⟨rfl, ht⟩ := rngI_get hy
      rw [show Int.toNat 3 = 3 from rfl] at ht
      simp only [Nat.zero_add] at u ⊢
      obtain ⟨p', b1, b2⟩ := turn_ok (u (by omega)) (by omega) (a := some (.scr (ns.map .int))) (b := some (.int k)) (d := some (.int t))
      exact ⟨chk0, [(3, .int t)], _, p', rfl, .inl b1, ⟨some (.int t), rfl⟩, fun _ => b2.mono (by omega)⟩) (fun _ _ _ => chk0) ⟨⟨v3, rfl⟩, fun _ => u0⟩
    refine ⟨chk0, [(1, .int k)], _, p2, rfl, .inl ?_, some (.int k), some (.loc q.length), w3, rfl⟩
    have e3 : fo_law_0 [some (.scr (ns.map .int)), some (.int k), some (.loc q.length), v3] p0 = .nx [some (.scr (ns.map .int)), some (.int k), some (.loc q.length), w3] p2 := by
      unfold fo_law_0
      rw [sFor_ok (it := ⟨rngI 0 3, []⟩) (ph1 := p0) (iRange1_ok (by simp only [sSeq, sIf, sRet, sRetN, sSet, sSetL, sRetL, sExpr, sNil, sUnp, sPar2, sPar3, sAug, mBin, mBinT, mUn, mCB, mTru, mAndT, mOrT, mNotT, mIf, mAndV, mOrV, mNotV, mNil, mCons, mTup, mLst, mCall, mCallK, mMeth, mMake, mFld, sSetFld, sAugFld, sSetIx, mChain, mChainT, mSl, oNone, oSome, mBM, eVar, eC, ok_bind, bad_bind, ok_st, nx_seq, rt_seq, bk_seq, ct_seq, ofO_some, List.getElem?_cons_zero, List.getElem?_cons_succ, List.set_cons_zero, List.set_cons_succ, List.length_cons, List.length_nil, List.append_nil, List.nil_append, List.cons_append, tgName, tgNil, tgCons, tgTup, setsE, List.foldl_cons, List.foldl_nil, List.map_cons, List.map_nil, tYesZ, wipeE, isNZ, PV.isN, Option.map_some, Option.bind_some, if_true, if_false, Bool.not_true, Bool.not_false, reduceIte, Bool.false_eq_true, permP, List.getD_cons_zero, List.getD_cons_succ, atI_0, atI_1, atI_2, atI_3, addZ_int, subZ_int, modZ_int, gtZ_int, ltZ_int, leZ_int, geZ_int, eqZ_int, neZ_int, intTyZ_int, truZ_bl, addI_int, maxZ_int, minZ_int, rb_bl, negZ_int, ixZ_tup, ixZ_lst, ixZ_scr, lenZ_tup, lenZ_lst, lenZ_scr, tupTyZ_lst, tupTyZ_tup, tyOk_str, Nat.reduceAdd, Nat.zero_add, lk0, lk1, lk2, lk3, lk4, lk5, lk6, lk7, lk8, lk9, lk10, lk11, lk12, and_self, and_true, true_and, Bool.and_true, Bool.true_and, Bool.and_self, Bool.or_false, Bool.false_or, cst0, cst1, cst2, cst3, cst4, cst5, cst6, cst7, cst8, cst9, cst10, cst11, cst12, sz0, sz1, sz2, sz3, sz4, sz5, sz6, sz7, sz8, sz9, sz10, sz11, sz12, is_non_int, is_non_bool, is_non_str, is_non_tuple, is_non_list, is_bl_int, is_bl_bool, is_bl_str, is_bl_tuple, is_bl_list, is_int_int, is_int_bool, is_int_str, is_int_tuple, is_int_list, is_str_int, is_str_bool, is_str_str, is_str_tuple, is_str_list, is_tup_int, is_tup_bool, is_tup_str, is_tup_tuple, is_tup_list, is_lst_int, is_lst_bool, is_lst_str, is_lst_tuple, is_lst_list]) (by omega) (by omega))]
      exact f2
    simp only [sSeq, sIf, sRet, sRetN, sSet, sSetL, sRetL, sExpr, sNil, sUnp, sPar2, sPar3, sAug, mBin, mBinT, mUn, mCB, mTru, mAndT, mOrT, mNotT, mIf, mAndV, mOrV, mNotV, mNil, mCons, mTup, mLst, mCall, mCallK, mMeth, mMake, mFld, sSetFld, sAugFld, sSetIx, mChain, mChainT, mSl, oNone, oSome, mBM, eVar, eC, ok_bind, bad_bind, ok_st, nx_seq, rt_seq, bk_seq, ct_seq, ofO_some, List.getElem?_cons_zero, List.getElem?_cons_succ, List.set_cons_zero, List.set_cons_succ, List.length_cons, List.length_nil, List.append_nil, List.nil_append, List.cons_append, tgName, tgNil, tgCons, tgTup, setsE, List.foldl_cons, List.foldl_nil, List.map_cons, List.map_nil, tYesZ, wipeE, isNZ, PV.isN, Option.map_some, Option.bind_some, if_true, if_false, Bool.not_true, Bool.not_false, reduceIte, Bool.false_eq_true, permP, List.getD_cons_zero, List.getD_cons_succ, atI_0, atI_1, atI_2, atI_3, addZ_int, subZ_int, modZ_int, gtZ_int, ltZ_int, leZ_int, geZ_int, eqZ_int, neZ_int, intTyZ_int, truZ_bl, addI_int, maxZ_int, minZ_int, rb_bl, negZ_int, ixZ_tup, ixZ_lst, ixZ_scr, lenZ_tup, lenZ_lst, lenZ_scr, tupTyZ_lst, tupTyZ_tup, tyOk_str, Nat.reduceAdd, Nat.zero_add, lk0, lk1, lk2, lk3, lk4, lk5, lk6, lk7, lk8, lk9, lk10, lk11, lk12, and_self, and_true, true_and, Bool.and_true, Bool.true_and, Bool.and_self, Bool.or_false, Bool.false_or, cst0, cst1, cst2, cst3, cst4, cst5, cst6, cst7, cst8, cst9, cst10, cst11, cst12, sz0, sz1, sz2, sz3, sz4, sz5, sz6, sz7, sz8, sz9, sz10, sz11, sz12, is_non_int, is_non_bool, is_non_str, is_non_tuple, is_non_list, is_bl_int, is_bl_bool, is_bl_str, is_bl_tuple, is_bl_list, is_int_int, is_int_bool, is_int_str, is_int_tuple, is_int_list, is_str_int, is_str_bool, is_str_str, is_str_tuple, is_str_list, is_tup_int, is_tup_bool, is_tup_str, is_tup_tuple, is_tup_list, is_lst_int, is_lst_bool, is_lst_str, is_lst_tuple, is_lst_list, a0, e3]) (fun _ _ _ => chk0) ⟨none, none, none, rfl⟩
  refine dFn_any (ph' := ph') ?_ (fun k z => nomatch z)
  rw [env1_4]
  have e4 : fo_law_1 [some (.scr (ns.map .int)), none, none, none] [] = .nx [some (.scr (ns.map .int)), v1, v2, v3] ph' := by
    unfold fo_law_1
    rw [sFor_ok (it := ⟨rngI 0 j, []⟩) (ph1 := []) (j2 [])]
    exact f1
  unfold b_law
  simp only [sSeq, sIf, sRet, sRetN, sSet, sSetL, sRetL, sExpr, sNil, sUnp, sPar2, sPar3, sAug, mBin, mBinT, mUn, mCB, mTru, mAndT, mOrT, mNotT, mIf, mAndV, mOrV, mNotV, mNil, mCons, mTup, mLst, mCall, mCallK, mMeth, mMake, mFld, sSetFld, sAugFld, sSetIx, mChain, mChainT, mSl, oNone, oSome, mBM, eVar, eC, ok_bind, bad_bind, ok_st, nx_seq, rt_seq, bk_seq, ct_seq, ofO_some, List.getElem?_cons_zero, List.getElem?_cons_succ, List.set_cons_zero, List.set_cons_succ, List.length_cons, List.length_nil, List.append_nil, List.nil_append, List.cons_append, tgName, tgNil, tgCons, tgTup, setsE, List.foldl_cons, List.foldl_nil, List.map_cons, List.map_nil, tYesZ, wipeE, isNZ, PV.isN, Option.map_some, Option.bind_some, if_true, if_false, Bool.not_true, Bool.not_false, reduceIte, Bool.false_eq_true, permP, List.getD_cons_zero, List.getD_cons_succ, atI_0, atI_1, atI_2, atI_3, addZ_int, subZ_int, modZ_int, gtZ_int, ltZ_int, leZ_int, geZ_int, eqZ_int, neZ_int, intTyZ_int, truZ_bl, addI_int, maxZ_int, minZ_int, rb_bl, negZ_int, ixZ_tup, ixZ_lst, ixZ_scr, lenZ_tup, lenZ_lst, lenZ_scr, tupTyZ_lst, tupTyZ_tup, tyOk_str, Nat.reduceAdd, Nat.zero_add, lk0, lk1, lk2, lk3, lk4, lk5, lk6, lk7, lk8, lk9, lk10, lk11, lk12, and_self, and_true, true_and, Bool.and_true, Bool.true_and, Bool.and_self, Bool.or_false, Bool.false_or, cst0, cst1, cst2, cst3, cst4, cst5, cst6, cst7, cst8, cst9, cst10, cst11, cst12, sz0, sz1, sz2, sz3, sz4, sz5, sz6, sz7, sz8, sz9, sz10, sz11, sz12, is_non_int, is_non_bool, is_non_str, is_non_tuple, is_non_list, is_bl_int, is_bl_bool, is_bl_str, is_bl_tuple, is_bl_list, is_int_int, is_int_bool, is_int_str, is_int_tuple, is_int_list, is_str_int, is_str_bool, is_str_str, is_str_tuple, is_str_list, is_tup_int, is_tup_bool, is_tup_str, is_tup_tuple, is_tup_list, is_lst_int, is_lst_bool, is_lst_str, is_lst_tuple, is_lst_list, e4]
end OfP.K89
namespace OfP.K89
open PySem PySem.Spec L2 OfP
open PyProof.Rows hiding St
def d_is_integer : He.DefD := ⟨("is_integer", none), "is_integer", "is_integer", defArgs (top 5), defBody (top 5), defScope (top 5), [.non, .non], []⟩
def d_is_scheme : He.DefD := ⟨("is_scheme", none), "is_scheme", "is_scheme", defArgs (top 11), defBody (top 11), defScope (top 11), [], []⟩
def d_need_scheme : He.DefD := ⟨("need_scheme", none), "need_scheme", "need_scheme", defArgs (top 12), defBody (top 12), defScope (top 12), [], []⟩
def d_integer_in : He.DefD := ⟨("integer_in", none), "integer_in", "integer_in", defArgs (top 17), defBody (top 17), defScope (top 17), [], []⟩
def d_Words___init__ : He.DefD := ⟨("Words", some "__init__"), "__init__", "Words.__init__", defArgs ((clsBody (top 18)).getD 0 (.Pass ⟨0, 0, 0, 0⟩)), defBody ((clsBody (top 18)).getD 0 (.Pass ⟨0, 0, 0, 0⟩)), defScope ((clsBody (top 18)).getD 0 (.Pass ⟨0, 0, 0, 0⟩)), [], []⟩
def d_Words_peek : He.DefD := ⟨("Words", some "peek"), "peek", "Words.peek", defArgs ((clsBody (top 18)).getD 1 (.Pass ⟨0, 0, 0, 0⟩)), defBody ((clsBody (top 18)).getD 1 (.Pass ⟨0, 0, 0, 0⟩)), defScope ((clsBody (top 18)).getD 1 (.Pass ⟨0, 0, 0, 0⟩)), [], []⟩
def d_Words_skip : He.DefD := ⟨("Words", some "skip"), "skip", "Words.skip", defArgs ((clsBody (top 18)).getD 3 (.Pass ⟨0, 0, 0, 0⟩)), defBody ((clsBody (top 18)).getD 3 (.Pass ⟨0, 0, 0, 0⟩)), defScope ((clsBody (top 18)).getD 3 (.Pass ⟨0, 0, 0, 0⟩)), [], []⟩
def d_Words_one_of : He.DefD := ⟨("Words", some "one_of"), "one_of", "Words.one_of", defArgs ((clsBody (top 18)).getD 4 (.Pass ⟨0, 0, 0, 0⟩)), defBody ((clsBody (top 18)).getD 4 (.Pass ⟨0, 0, 0, 0⟩)), defScope ((clsBody (top 18)).getD 4 (.Pass ⟨0, 0, 0, 0⟩)), [], []⟩
def d_Words_integer : He.DefD := ⟨("Words", some "integer"), "integer", "Words.integer", defArgs ((clsBody (top 18)).getD 5 (.Pass ⟨0, 0, 0, 0⟩)), defBody ((clsBody (top 18)).getD 5 (.Pass ⟨0, 0, 0, 0⟩)), defScope ((clsBody (top 18)).getD 5 (.Pass ⟨0, 0, 0, 0⟩)), [], []⟩
def d_Words_end : He.DefD := ⟨("Words", some "end"), "end", "Words.end", defArgs ((clsBody (top 18)).getD 6 (.Pass ⟨0, 0, 0, 0⟩)), defBody ((clsBody (top 18)).getD 6 (.Pass ⟨0, 0, 0, 0⟩)), defScope ((clsBody (top 18)).getD 6 (.Pass ⟨0, 0, 0, 0⟩)), [], []⟩
def d_show_calendar : He.DefD := ⟨("show_calendar", none), "show_calendar", "show_calendar", defArgs (top 29), defBody (top 29), defScope (top 29), [], []⟩
def d_show_route : He.DefD := ⟨("show_route", none), "show_route", "show_route", defArgs (top 30), defBody (top 30), defScope (top 30), [], []⟩
def d_show_code : He.DefD := ⟨("show_code", none), "show_code", "show_code", defArgs (top 31), defBody (top 31), defScope (top 31), [], []⟩
def d_is_pattern : He.DefD := ⟨("is_pattern", none), "is_pattern", "is_pattern", defArgs (top 32), defBody (top 32), defScope (top 32), [], []⟩
def d_next_spans : He.DefD := ⟨("next_spans", none), "next_spans", "next_spans", defArgs (top 33), defBody (top 33), defScope (top 33), [], []⟩
def d_read_calendar : He.DefD := ⟨("read_calendar", none), "read_calendar", "read_calendar", defArgs (top 34), defBody (top 34), defScope (top 34), [], []⟩
def d_next_route : He.DefD := ⟨("next_route", none), "next_route", "next_route", defArgs (top 35), defBody (top 35), defScope (top 35), [], []⟩
def d_read_route : He.DefD := ⟨("read_route", none), "read_route", "read_route", defArgs (top 36), defBody (top 36), defScope (top 36), [], []⟩
def d_read_code : He.DefD := ⟨("read_code", none), "read_code", "read_code", defArgs (top 37), defBody (top 37), defScope (top 37), [], []⟩
def d_law_urn : He.DefD := ⟨("_law_urn", none), "_law_urn", "_law_urn", defArgs (top 39), defBody (top 39), defScope (top 39), [], []⟩
def d_law_draw : He.DefD := ⟨("_law_draw", none), "_law_draw", "_law_draw", defArgs (top 40), defBody (top 40), defScope (top 40), [], []⟩
def d_law_same : He.DefD := ⟨("_law_same", none), "_law_same", "_law_same", defArgs (top 41), defBody (top 41), defScope (top 41), [], []⟩
def d_law_spans : He.DefD := ⟨("_law_spans", none), "_law_spans", "_law_spans", defArgs (top 42), defBody (top 42), defScope (top 42), [], []⟩
def d_law_calendar : He.DefD := ⟨("_law_calendar", none), "_law_calendar", "_law_calendar", defArgs (top 43), defBody (top 43), defScope (top 43), [], []⟩
def d_law_route : He.DefD := ⟨("_law_route", none), "_law_route", "_law_route", defArgs (top 44), defBody (top 44), defScope (top 44), [], []⟩
def d_law_scheme : He.DefD := ⟨("_law_scheme", none), "_law_scheme", "_law_scheme", defArgs (top 45), defBody (top 45), defScope (top 45), [], []⟩
def d_law_written : He.DefD := ⟨("_law_written", none), "_law_written", "_law_written", defArgs (top 46), defBody (top 46), defScope (top 46), [], []⟩
def d_law_calendars_right : He.DefD := ⟨("_law_calendars_right", none), "_law_calendars_right", "_law_calendars_right", defArgs (top 47), defBody (top 47), defScope (top 47), [], []⟩
def d_law_routes_right : He.DefD := ⟨("_law_routes_right", none), "_law_routes_right", "_law_routes_right", defArgs (top 48), defBody (top 48), defScope (top 48), [], []⟩
def d_law_codes_right : He.DefD := ⟨("_law_codes_right", none), "_law_codes_right", "_law_codes_right", defArgs (top 49), defBody (top 49), defScope (top 49), [], []⟩
def d_law : He.DefD := ⟨("law", none), "law", "law", defArgs (top 50), defBody (top 50), defScope (top 50), [], []⟩
def fn : List He.DefD := [d_is_integer, d_is_scheme, d_need_scheme, d_integer_in, d_Words___init__, d_Words_peek, d_Words_skip, d_Words_one_of, d_Words_integer, d_Words_end, d_show_calendar, d_show_route, d_show_code, d_is_pattern, d_next_spans, d_read_calendar, d_next_route, d_read_route, d_read_code, d_law_urn, d_law_draw, d_law_same, d_law_spans, d_law_calendar, d_law_route, d_law_scheme, d_law_written, d_law_calendars_right, d_law_routes_right, d_law_codes_right, d_law]
def fa : List He.Fa := [.free "bool", .free "isinstance", .free "int", .free "len", .free "tuple", .int "MOST_MODULUS" (30), .int "MOST_BASE" (10), .int "FEWEST_PLACES" (2), .int "MOST_PLACES" (6), .free "all", .str "DIGITS_words" "0123456789", .int "MOST_DIGITS" (30), .free "str", .cls "Words", .noat "Words" "all_words", .noat "Words" "next_index", .str "NO_LETTERS" ".", .int "MOST_SIGNS" (4), .int "MOST_SPANS" (2), .int "MOST_SPAN" (30), .int "LEAST_SPAN" (-30), .int "MOST_LETTERS" (8), .str "LETTERS" "abcdefghijklmnopqrstuvwxyz", .str "DAY_ON" "+", .str "DIGITS_texts" "0123456789", .free "enumerate", .free "max", .free "zip", .free "range", .free "min", .free "sorted", .glo "law", .glo "is_integer", .glo "is_scheme", .glo "need_scheme", .glo "integer_in", .glo "Words", .mkr "Words", .meth "Words" "peek", .meth "Words" "skip", .meth "Words" "one_of", .meth "Words" "integer", .meth "Words" "end", .glo "show_calendar", .glo "show_route", .glo "show_code", .glo "is_pattern", .glo "next_spans", .glo "read_calendar", .glo "next_route", .glo "read_route", .glo "read_code", .glo "_law_urn", .glo "_law_draw", .glo "_law_same", .glo "_law_spans", .glo "_law_calendar", .glo "_law_route", .glo "_law_scheme", .glo "_law_written", .glo "_law_calendars_right", .glo "_law_routes_right", .glo "_law_codes_right"]
def loose0 : List Str := ["PaperError", "BadScheme", "BadText", "is_integer", "MOST_BASE", "MOST_MODULUS", "FEWEST_PLACES", "MOST_PLACES", "is_scheme", "need_scheme", "DIGITS_words", "MOST_DIGITS", "NO_PLACE", "integer_in", "Words", "LETTERS", "DAY_ON", "NO_LETTERS", "DIGITS_texts", "LEAST_SPAN", "MOST_SPAN", "MOST_SPANS", "MOST_SIGNS", "MOST_LETTERS", "show_calendar", "show_route", "show_code", "is_pattern", "next_spans", "read_calendar"]
def loose1 : List Str := ["next_route", "read_route", "read_code", "_law_urn", "_law_draw", "_law_same", "_law_spans", "_law_calendar", "_law_route", "_law_scheme", "_law_written", "_law_calendars_right", "_law_routes_right", "_law_codes_right"]
def loose : List Str := loose0 ++ loose1
abbrev R : PySem.W.OpenRow := PySem.W.OpenLaw.row PySem.Challenge.rw_officepapers_k89_calendars_routes_and_co
abbrev hk : PySem.W.Hook := He.hookD 4 fa fn
def ob (s : PySem.W.SharedT) : He.AlD := He.obsDG 4 fa fn (HandSHeadRun.getT s)
theorem ob_eq (s : PySem.W.SharedT) : ob s = hk.obs s.abs := He.obsDG_eq (HandSHeadRun.getT_eq s)
theorem run (w : World) : HandSHeadRun.RunEq R (PySem.W.view R.prog [50]) hk ob 4000 loose w := by
  intro os
  kernel_rfl
theorem facts {P : Program} {w : World} {K : PySem.W.Frag} {h : Heap} {mg : Str → Option Value} {f : Addr} (X : K.In h) (G : h.Ns mainGlobals mg) (hfa : mg ("law" : Str) = some (.ref f)) (c : He.SaysD fa fn K) :
    ∃ fd : FuncData, (∀ (s : Shared) (v : Value), BindsTo s fd ⟨[v], []⟩ [("_law_script", v)]) ∧ ∀ base : Heap, K.In base → base.Ns mainGlobals mg → FnOk P w K mg base CX0 9 f fd ["_law_script"] (shutZ (spZ K 1 m_law)) := by
  obtain ⟨fd_is_integer, F_is_integer⟩ := c.def_ 0 (d := d_is_integer) rfl
  obtain ⟨fd_is_scheme, F_is_scheme⟩ := c.def_ 1 (d := d_is_scheme) rfl
  obtain ⟨fd_need_scheme, F_need_scheme⟩ := c.def_ 2 (d := d_need_scheme) rfl
  obtain ⟨fd_integer_in, F_integer_in⟩ := c.def_ 3 (d := d_integer_in) rfl
  obtain ⟨fd_Words___init__, F_Words___init__⟩ := c.def_ 4 (d := d_Words___init__) rfl
  obtain ⟨fd_Words_peek, F_Words_peek⟩ := c.def_ 5 (d := d_Words_peek) rfl
  obtain ⟨fd_Words_skip, F_Words_skip⟩ := c.def_ 6 (d := d_Words_skip) rfl
  obtain ⟨fd_Words_one_of, F_Words_one_of⟩ := c.def_ 7 (d := d_Words_one_of) rfl
  obtain ⟨fd_Words_integer, F_Words_integer⟩ := c.def_ 8 (d := d_Words_integer) rfl
  obtain ⟨fd_Words_end, F_Words_end⟩ := c.def_ 9 (d := d_Words_end) rfl
  obtain ⟨fd_show_calendar, F_show_calendar⟩ := c.def_ 10 (d := d_show_calendar) rfl
  obtain ⟨fd_show_route, F_show_route⟩ := c.def_ 11 (d := d_show_route) rfl
  obtain ⟨fd_show_code, F_show_code⟩ := c.def_ 12 (d := d_show_code) rfl
  obtain ⟨fd_is_pattern, F_is_pattern⟩ := c.def_ 13 (d := d_is_pattern) rfl
  obtain ⟨fd_next_spans, F_next_spans⟩ := c.def_ 14 (d := d_next_spans) rfl
  obtain ⟨fd_read_calendar, F_read_calendar⟩ := c.def_ 15 (d := d_read_calendar) rfl
  obtain ⟨fd_next_route, F_next_route⟩ := c.def_ 16 (d := d_next_route) rfl
  obtain ⟨fd_read_route, F_read_route⟩ := c.def_ 17 (d := d_read_route) rfl
  obtain ⟨fd_read_code, F_read_code⟩ := c.def_ 18 (d := d_read_code) rfl
  obtain ⟨fd_law_urn, F_law_urn⟩ := c.def_ 19 (d := d_law_urn) rfl
  obtain ⟨fd_law_draw, F_law_draw⟩ := c.def_ 20 (d := d_law_draw) rfl
  obtain ⟨fd_law_same, F_law_same⟩ := c.def_ 21 (d := d_law_same) rfl
  obtain ⟨fd_law_spans, F_law_spans⟩ := c.def_ 22 (d := d_law_spans) rfl
  obtain ⟨fd_law_calendar, F_law_calendar⟩ := c.def_ 23 (d := d_law_calendar) rfl
  obtain ⟨fd_law_route, F_law_route⟩ := c.def_ 24 (d := d_law_route) rfl
  obtain ⟨fd_law_scheme, F_law_scheme⟩ := c.def_ 25 (d := d_law_scheme) rfl
  obtain ⟨fd_law_written, F_law_written⟩ := c.def_ 26 (d := d_law_written) rfl
  obtain ⟨fd_law_calendars_right, F_law_calendars_right⟩ := c.def_ 27 (d := d_law_calendars_right) rfl
  obtain ⟨fd_law_routes_right, F_law_routes_right⟩ := c.def_ 28 (d := d_law_routes_right) rfl
  obtain ⟨fd_law_codes_right, F_law_codes_right⟩ := c.def_ 29 (d := d_law_codes_right) rfl
  obtain ⟨fd_law, F_law⟩ := c.def_ 30 (d := d_law) rfl
  have g : GF K mg := ⟨He.free_ok X G (c.fact 0 (f := .free "bool") rfl), He.free_ok X G (c.fact 1 (f := .free "isinstance") rfl), He.free_ok X G (c.fact 2 (f := .free "int") rfl), He.free_ok X G (c.fact 3 (f := .free "len") rfl), He.free_ok X G (c.fact 4 (f := .free "tuple") rfl), He.int_ok X G (c.fact 5 (f := .int "MOST_MODULUS" (30)) rfl), He.int_ok X G (c.fact 6 (f := .int "MOST_BASE" (10)) rfl), He.int_ok X G (c.fact 7 (f := .int "FEWEST_PLACES" (2)) rfl), He.int_ok X G (c.fact 8 (f := .int "MOST_PLACES" (6)) rfl), He.free_ok X G (c.fact 9 (f := .free "all") rfl), He.str_ok X G (c.fact 10 (f := .str "DIGITS_words" "0123456789") rfl), He.int_ok X G (c.fact 11 (f := .int "MOST_DIGITS" (30)) rfl), He.free_ok X G (c.fact 12 (f := .free "str") rfl), He.cls_ok (c.fact 13 (f := .cls "Words") rfl), He.noat_ok (c.fact 14 (f := .noat "Words" "all_words") rfl), He.noat_ok (c.fact 15 (f := .noat "Words" "next_index") rfl), He.str_ok X G (c.fact 16 (f := .str "NO_LETTERS" ".") rfl), He.int_ok X G (c.fact 17 (f := .int "MOST_SIGNS" (4)) rfl), He.int_ok X G (c.fact 18 (f := .int "MOST_SPANS" (2)) rfl), He.int_ok X G (c.fact 19 (f := .int "MOST_SPAN" (30)) rfl), He.int_ok X G (c.fact 20 (f := .int "LEAST_SPAN" (-30)) rfl), He.int_ok X G (c.fact 21 (f := .int "MOST_LETTERS" (8)) rfl), He.str_ok X G (c.fact 22 (f := .str "LETTERS" "abcdefghijklmnopqrstuvwxyz") rfl), He.str_ok X G (c.fact 23 (f := .str "DAY_ON" "+") rfl), He.str_ok X G (c.fact 24 (f := .str "DIGITS_texts" "0123456789") rfl), He.free_ok X G (c.fact 25 (f := .free "enumerate") rfl), He.free_ok X G (c.fact 26 (f := .free "max") rfl), He.free_ok X G (c.fact 27 (f := .free "zip") rfl), He.free_ok X G (c.fact 28 (f := .free "range") rfl), He.free_ok X G (c.fact 29 (f := .free "min") rfl), He.free_ok X G (c.fact 30 (f := .free "sorted") rfl)⟩
  have e := hfa.symm.trans (He.glo_ok X G (c.fact 31 (f := .glo "law") rfl))
  cases e
  have b := FunD.bindsA (ps := ["_law_script"]) F_law fun _ _ _ _ _ _ us hl => match us, hl with | [_], _ => rfl
  refine ⟨fd_law, fun s v => b s [v] rfl, fun base _ _ => ?_⟩
  have c_is_integer := cal_is_integer (P := P) (w := w) (base := base) g  F_is_integer (He.glo_ok X G (c.fact 32 (f := .glo "is_integer") rfl))
  have c_is_scheme := cal_is_scheme (P := P) (w := w) (base := base) g c_is_integer F_is_scheme (He.glo_ok X G (c.fact 33 (f := .glo "is_scheme") rfl))
  have c_need_scheme := cal_need_scheme (P := P) (w := w) (base := base) g c_is_scheme F_need_scheme (He.glo_ok X G (c.fact 34 (f := .glo "need_scheme") rfl))
  have c_integer_in := cal_integer_in (P := P) (w := w) (base := base) g  F_integer_in (He.glo_ok X G (c.fact 35 (f := .glo "integer_in") rfl))
  have c_Words___init__ := cal_Words___init__ (P := P) (w := w) (base := base) g  F_Words___init__ (He.glo_ok X G (c.fact 36 (f := .glo "Words") rfl)) (He.mkr_ok (c.fact 37 (f := .mkr "Words") rfl))
  have c_Words_peek := cal_Words_peek (P := P) (w := w) (base := base) g  F_Words_peek (He.meth_ok (c.fact 38 (f := .meth "Words" "peek") rfl))
  have c_Words_skip := cal_Words_skip (P := P) (w := w) (base := base) g  F_Words_skip (He.meth_ok (c.fact 39 (f := .meth "Words" "skip") rfl))
  have c_Words_one_of := cal_Words_one_of (P := P) (w := w) (base := base) g c_Words_peek c_Words_skip F_Words_one_of (He.meth_ok (c.fact 40 (f := .meth "Words" "one_of") rfl))
  have c_Words_integer := cal_Words_integer (P := P) (w := w) (base := base) g c_Words_peek c_integer_in c_Words_skip F_Words_integer (He.meth_ok (c.fact 41 (f := .meth "Words" "integer") rfl))
  have c_Words_end := cal_Words_end (P := P) (w := w) (base := base) g c_Words_peek F_Words_end (He.meth_ok (c.fact 42 (f := .meth "Words" "end") rfl))
  have c_show_calendar := cal_show_calendar (P := P) (w := w) (base := base) g  F_show_calendar (He.glo_ok X G (c.fact 43 (f := .glo "show_calendar") rfl))
  have c_show_calendar_kw0 := cal_show_calendar_kw0 (P := P) (w := w) (base := base) g  F_show_calendar (He.glo_ok X G (c.fact 43 (f := .glo "show_calendar") rfl))
  have c_show_route := cal_show_route (P := P) (w := w) (base := base) g  F_show_route (He.glo_ok X G (c.fact 44 (f := .glo "show_route") rfl))
  have c_show_route_kw0 := cal_show_route_kw0 (P := P) (w := w) (base := base) g  F_show_route (He.glo_ok X G (c.fact 44 (f := .glo "show_route") rfl))
  have c_show_code := cal_show_code (P := P) (w := w) (base := base) g  F_show_code (He.glo_ok X G (c.fact 45 (f := .glo "show_code") rfl))
  have c_show_code_kw0 := cal_show_code_kw0 (P := P) (w := w) (base := base) g  F_show_code (He.glo_ok X G (c.fact 45 (f := .glo "show_code") rfl))
  have c_is_pattern := cal_is_pattern (P := P) (w := w) (base := base) g  F_is_pattern (He.glo_ok X G (c.fact 46 (f := .glo "is_pattern") rfl))
  have c_next_spans := cal_next_spans (P := P) (w := w) (base := base) g c_Words_peek c_Words_skip c_Words_integer F_next_spans (He.glo_ok X G (c.fact 47 (f := .glo "next_spans") rfl))
  have c_read_calendar := cal_read_calendar (P := P) (w := w) (base := base) g c_Words___init__ c_Words_peek c_is_pattern c_Words_skip c_next_spans c_Words_end F_read_calendar (He.glo_ok X G (c.fact 48 (f := .glo "read_calendar") rfl))
  have c_read_calendar_kw0 := cal_read_calendar_kw0 (P := P) (w := w) (base := base) g c_Words___init__ c_Words_peek c_is_pattern c_Words_skip c_next_spans c_Words_end F_read_calendar (He.glo_ok X G (c.fact 48 (f := .glo "read_calendar") rfl))
  have c_next_route := cal_next_route (P := P) (w := w) (base := base) g c_Words_peek c_Words_skip c_Words_one_of F_next_route (He.glo_ok X G (c.fact 49 (f := .glo "next_route") rfl))
  have c_read_route := cal_read_route (P := P) (w := w) (base := base) g c_Words___init__ c_next_route c_Words_end F_read_route (He.glo_ok X G (c.fact 50 (f := .glo "read_route") rfl))
  have c_read_route_kw0 := cal_read_route_kw0 (P := P) (w := w) (base := base) g c_Words___init__ c_next_route c_Words_end F_read_route (He.glo_ok X G (c.fact 50 (f := .glo "read_route") rfl))
  have c_read_code := cal_read_code (P := P) (w := w) (base := base) g c_need_scheme F_read_code (He.glo_ok X G (c.fact 51 (f := .glo "read_code") rfl))
  have c_read_code_kw0 := cal_read_code_kw0 (P := P) (w := w) (base := base) g c_need_scheme F_read_code (He.glo_ok X G (c.fact 51 (f := .glo "read_code") rfl))
  have c_law_urn := cal_law_urn (P := P) (w := w) (base := base) g  F_law_urn (He.glo_ok X G (c.fact 52 (f := .glo "_law_urn") rfl))
  have c_law_draw := cal_law_draw (P := P) (w := w) (base := base) g  F_law_draw (He.glo_ok X G (c.fact 53 (f := .glo "_law_draw") rfl))
  have c_law_same := cal_law_same (P := P) (w := w) (base := base) g  F_law_same (He.glo_ok X G (c.fact 54 (f := .glo "_law_same") rfl)) 6
  have c_law_spans := cal_law_spans (P := P) (w := w) (base := base) g c_law_draw F_law_spans (He.glo_ok X G (c.fact 55 (f := .glo "_law_spans") rfl))
  have c_law_calendar := cal_law_calendar (P := P) (w := w) (base := base) g c_law_draw c_law_spans F_law_calendar (He.glo_ok X G (c.fact 56 (f := .glo "_law_calendar") rfl))
  have c_law_route := cal_law_route (P := P) (w := w) (base := base) g c_law_draw F_law_route (He.glo_ok X G (c.fact 57 (f := .glo "_law_route") rfl))
  have c_law_scheme := cal_law_scheme (P := P) (w := w) (base := base) g c_law_draw F_law_scheme (He.glo_ok X G (c.fact 58 (f := .glo "_law_scheme") rfl))
  have c_law_written := cal_law_written (P := P) (w := w) (base := base) g  F_law_written (He.glo_ok X G (c.fact 59 (f := .glo "_law_written") rfl))
  have c_law_calendars_right := cal_law_calendars_right (P := P) (w := w) (base := base) g c_law_calendar c_law_same c_read_calendar c_law_written c_show_calendar c_show_calendar_kw0 c_read_calendar_kw0 F_law_calendars_right (He.glo_ok X G (c.fact 60 (f := .glo "_law_calendars_right") rfl))
  have c_law_routes_right := cal_law_routes_right (P := P) (w := w) (base := base) g c_law_route c_law_same c_read_route_kw0 c_show_route_kw0 c_read_route c_show_route F_law_routes_right (He.glo_ok X G (c.fact 61 (f := .glo "_law_routes_right") rfl))
  have c_law_codes_right := cal_law_codes_right (P := P) (w := w) (base := base) g c_law_scheme c_law_draw c_law_same c_read_code_kw0 c_show_code_kw0 c_read_code c_show_code F_law_codes_right (He.glo_ok X G (c.fact 62 (f := .glo "_law_codes_right") rfl))
  exact FnOk.shut (z_fn F_law sc_law (bd_law g c_law_urn c_law_codes_right c_law_routes_right c_law_calendars_right))
end OfP.K89
open PySem PySem.W PySem.Calls PyProof.Rows
theorem PySem.Challenge.cw_officepapers_k89_calendars_routes_and_co_holds : PySem.Challenge.rw_officepapers_k89_calendars_routes_and_co.Holds := by
  w_on; o_law
  refine HandSHeadRun.head_any (r := OpenLaw.row PySem.Challenge.rw_officepapers_k89_calendars_routes_and_co) (q := view (OpenLaw.row PySem.Challenge.rw_officepapers_k89_calendars_routes_and_co).prog [50]) (H := OfP.K89.hk) (ob := OfP.K89.ob) (M := 4000) (loose := OfP.K89.loose) (d := HandSHeadRun.topDef (OpenLaw.row PySem.Challenge.rw_officepapers_k89_calendars_routes_and_co).prog 50) (kwd := []) OfP.K89.ob_eq
    (by kernel_rfl) (fun s => by kernel_rfl) OfP.K89.run (by kernel_rfl) (by kernel_rfl) (by kernel_rfl) (by rfl) (by first | assumption | decide +kernel) (by decide +kernel) ⟨rfl, rfl, rfl, rfl, rfl, by decide +kernel⟩ ?hw ?hc
  case hw => w_witness2
  case hc =>
    refine L2.walk_ofE (l := PySem.Challenge.rw_officepapers_k89_calendars_routes_and_co) (n := 63) (k := 9) (x := "_law_script") (CX := L2.CX0) rfl (by decide) (by kernel_rfl) ⟨rfl, by decide, by decide⟩ ?F (fun _ _ _ _ z => z)
    intro w mg fa h Y G hmg0
    obtain ⟨K, KX, c⟩ := Y
    have hmg : mg ("law" : PySem.Str) = some (.ref fa) := by
      have e : (HandSHeadRun.topDef (OpenLaw.row PySem.Challenge.rw_officepapers_k89_calendars_routes_and_co).prog 50).name = ("law" : PySem.Str) := by kernel_rfl
      rw [← e]
      exact hmg0
    obtain ⟨fd, hb, hF⟩ := OfP.K89.facts (P := (PySem.Challenge.rw_officepapers_k89_calendars_routes_and_co).prog) (w := w) KX G hmg c
    exact ⟨K, fd, OfP.shutZ (OfP.spZ K 1 OfP.K89.m_law), KX, hb, fun H a ns hl _ hS => OfP.law_sp (OfP.K89.law_true ns hl) hS, hF⟩
