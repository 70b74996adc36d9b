import PyProof.Rows.All
import HandS.ForMost
import HandS.CallLocal
import HandS.Style
import HandS.TupAny
import HandS.Deep
import HandS.Text
import KE.LtData
import KE.SortData
import PyProof.Rows.IntBool
import HandS.IsInst
import HandS.Codes
import HandS.More
import HandS.Zip
import HandS.RaiseMore
import PyProof.ReprRoads
import HandS.Strs
import HandS.Conv
import KE.KDictKeyed
import KE.DataMinMax
import KE.KDictSum
import PyProof.CallFns
import PyProof.CallStr
import HandS.Words
import PyProof.ReprBulk
import PySem.Challenge.RW_chosenlast_k01_kinds
section
/-! part CLBase -/
set_option Elab.async false
set_option linter.all false
set_option maxRecDepth 100000
/-! CLBase: plain values, a numbered store, and what it means that a heap bears them. -/
namespace CL
open PySem PySem.Spec PyProof.Rows L2

/-- a value: data, an object of the store by its number, a def of the module by its name, the script -/
inductive W where
  | d (x : PyData)
  | r (n : Nat)
  | g (x : Str)
  | s (xs : List PyData)
/-- an object that may change -/
inductive O where
  | lst (xs : List PyData)
  | dk (kvs : List (Key × PyData))
  | dt (kvs : List (List Key × PyData))
  | lkK (kvs : List (Key × PyData))
  | lkT (kvs : List (List Key × PyData))

abbrev En := List (Option W)
abbrev So := List O
/-- an exception: its class's name, its fields -/
structure XV where
  cls : Str
  fs : List (Str × PyData)
/-- a step's end -/
inductive RE (α : Type) where
  | ok (a : α) (S : So)
  | xc (x : XV) (S : So)
abbrev M (α : Type) := Option (RE α)
def bnd {α β : Type} (m : M α) (f : α → So → M β) : M β := match m with
  | none => none
  | some (.xc x S) => some (.xc x S)
  | some (.ok a S) => f a S
@[simp] theorem bnd_ok {α β : Type} (a : α) (S : So) (f : α → So → M β) : bnd (some (.ok a S)) f = f a S := rfl
@[simp] theorem bnd_xc {α β : Type} (x : XV) (S : So) (f : α → So → M β) : bnd (some (.xc x S)) f = some (.xc x S) := rfl
@[simp] theorem bnd_none {α β : Type} (f : α → So → M β) : bnd none f = none := rfl
/-- a pure value at the store as it is -/
def giv {α : Type} (o : Option α) (S : So) : M α := match o with
  | none => none
  | some a => some (.ok a S)
@[simp] theorem giv_some {α : Type} (a : α) (S : So) : giv (some a) S = some (.ok a S) := rfl
@[simp] theorem giv_none {α : Type} (S : So) : giv (none : Option α) S = none := rfl
abbrev DE := En → So → M W
abbrev DT := En → So → M Bool
abbrev DA := En → So → M (List W)
inductive Out where
  | nx (σ : En) (S : So)
  | rt (w : W) (S : So)
  | bk (σ : En) (S : So)
  | ct (σ : En) (S : So)
  | xc (x : XV) (S : So)
abbrev DS := En → So → Option Out
/-- a def: from its arguments and the store -/
abbrev DF := List W → So → M W

/-- a dict that is walked just now is locked -/
def notLk : Option O → Prop
  | some (.lkK _) => False
  | some (.lkT _) => False
  | _ => True
/-- where the store's objects stand (l), and lists that are being made just now (h) -/
structure Fi where
  l : List Addr
  h : List Addr
def Fi.push (φ : Fi) (p : Addr) : Fi := ⟨φ.l ++ [p], φ.h⟩
def Fi.hide (φ : Fi) (p : Addr) : Fi := ⟨φ.l, p :: φ.h⟩

/-! ### the relation -/
section
variable (K : PySem.W.Frag) (H : Hp) (φ : Fi)
/-- a list that nobody changes -/
def FL (a : Addr) (vs : List V) : Prop := Rd H a (.lst vs) ∧ a ∉ φ.l ∧ a ∉ φ.h
/-- a tuple that the walk made -/
def TP (_ : PySem.W.Frag) (H : Hp) (a : Addr) (vs : List V) : Prop := H a = some (.tup vs)
/-- a list of the written part -/
def KL (a : Addr) (vs : List V) : Prop :=
  ∃ (o : Obj) (its : Array Value) (n : Nat), K.lookup a = some o ∧ o.cls = .type "list" ∧ o.dict = none ∧ o.data = .seq its n ∧ its.size ≤ sizeLine ∧ Vals vs its.toList
mutual
def RD : PyData → V → Prop
  | .none, v => v = .non
  | .bool b, v => v = .bl b
  | .int i, v => v = .int i
  | .str s, v => v = .str s
  | .list ds, v => ∃ a vs, v = .ref a ∧ FL H φ a vs ∧ RDs ds vs
  | .tuple ds, v => ∃ a vs, v = .ref a ∧ TP K H a vs ∧ RDs ds vs
  | .dict _, _ => False
def RDs : List PyData → List V → Prop
  | [], vs => vs = []
  | d :: ds, vs => ∃ v r, vs = v :: r ∧ RD d v ∧ RDs ds r
end
def OR (a : Addr) : O → Prop
  | .lst xs => ∃ vs, H a = some (.lst vs) ∧ RDs K H φ xs vs
  | .dk kvs => ∃ es, H a = some (.dK es) ∧ es.map (·.1) = kvs.map (·.1) ∧ RDs K H φ (kvs.map (·.2)) (es.map (·.2))
  | .dt kvs => ∃ es, H a = some (.dT es) ∧ es.map (·.1) = kvs.map (·.1) ∧ RDs K H φ (kvs.map (·.2)) (es.map (·.2))
  | .lkK kvs => ∃ es, (∃ od, H a = some (.frz od (.dK es))) ∧ es.map (·.1) = kvs.map (·.1) ∧ RDs K H φ (kvs.map (·.2)) (es.map (·.2))
  | .lkT kvs => ∃ es, (∃ od, H a = some (.frz od (.dT es))) ∧ es.map (·.1) = kvs.map (·.1) ∧ RDs K H φ (kvs.map (·.2)) (es.map (·.2))
variable (mg : Str → Option Value)
def RW : W → V → Prop
  | .d x, v => RD K H φ x v
  | .r n, v => ∃ a, φ.l[n]? = some a ∧ v = .ref a
  | .g x, v => ∃ f, mg x = some (.ref f) ∧ v = .ref f
  | .s xs, v => ∃ a vs, v = .ref a ∧ (FL H φ a vs ∨ KL K a vs) ∧ RDs K H φ xs vs
def RWs : List W → List V → Prop
  | [], vs => vs = []
  | w :: ws, vs => ∃ v r, vs = v :: r ∧ RW K H φ mg w v ∧ RWs ws r
structure SR (S : So) : Prop where
  len : φ.l.length = S.length
  nd : φ.l.Nodup
  ob : ∀ (i : Nat) (a : Addr) (o : O), φ.l[i]? = some a → S[i]? = some o → OR K H φ a o
  hid : ∀ b ∈ φ.h, b ∉ φ.l ∧ ∃ vs, H b = some (.lst vs)
structure ER (σV : L2.St) (σ : En) : Prop where
  len : σV.length = σ.length
  at_ : ∀ (i : Nat) (w : W), σ[i]? = some (some w) → ∃ v, σV[i]? = some (some v) ∧ RW K H φ mg w v
end
/-- what a step leaves -/
structure Ext (φ : Fi) (H : Hp) (φ' : Fi) (H' : Hp) : Prop where
  pre : φ.l <+: φ'.l
  hid : ∃ l, φ'.h = l ++ φ.h ∧ ∀ b ∈ l, H b = none
  trk : ∀ b, H' b = none → H b = none
  kept : ∀ b o, H b = some o → b ∉ φ.l → H' b = some o ∧ b ∉ φ'.l
  tups : ∀ b vs, H b = some (.tup vs) → H' b = some (.tup vs)
  frz : ∀ b o u, H b = some (.frz o u) → H' b = some (.frz o u)

section
variable {K : PySem.W.Frag} {H H' H2 : Hp} {φ φ' φ2 : Fi} {mg : Str → Option Value}
theorem Ext.refl : Ext φ H φ H := ⟨List.prefix_refl _, ⟨[], rfl, fun _ h => by cases h⟩, fun _ h => h, fun _ _ h n => ⟨h, n⟩, fun _ _ h => h, fun _ _ _ h => h⟩
theorem Ext.hsub (a : Ext φ H φ' H') {b : Addr} (h : b ∈ φ.h) : b ∈ φ'.h := by
  obtain ⟨l, e, _⟩ := a.hid; rw [e]; exact List.mem_append_right _ h
theorem Ext.nhid (a : Ext φ H φ' H') {b : Addr} (h : b ∉ φ.h) {o : HO} (t : H b = some o) : b ∉ φ'.h := by
  obtain ⟨l, e, q⟩ := a.hid
  rw [e]
  intro hm
  rcases List.mem_append.mp hm with hm | hm
  · rw [q b hm] at t; cases t
  · exact h hm
theorem Ext.trans (a : Ext φ H φ' H') (b : Ext φ' H' φ2 H2) : Ext φ H φ2 H2 :=
  ⟨a.pre.trans b.pre, by
    obtain ⟨l1, e1, q1⟩ := a.hid
    obtain ⟨l2, e2, q2⟩ := b.hid
    refine ⟨l2 ++ l1, by rw [e2, e1, List.append_assoc], fun c hc => ?_⟩
    rcases List.mem_append.mp hc with hc | hc
    · exact a.trk c (q2 c hc)
    · exact q1 c hc, fun c h => a.trk c (b.trk c h), fun c o h n => let ⟨h1, n1⟩ := a.kept c o h n; b.kept c o h1 n1, fun c vs h => b.tups c vs (a.tups c vs h), fun c o u h => b.frz c o u (a.frz c o u h)⟩
theorem FL.mono (e : Ext φ H φ' H') {a : Addr} {vs : List V} (h : FL H φ a vs) : FL H' φ' a vs := by
  obtain ⟨h | ⟨o, h⟩, n, m⟩ := h
  · obtain ⟨h1, n1⟩ := e.kept a _ h n; exact ⟨.inl h1, n1, e.nhid m h⟩
  · obtain ⟨h1, n1⟩ := e.kept a _ h n; exact ⟨.inr ⟨o, h1⟩, n1, e.nhid m h⟩
theorem TP.mono (e : Ext φ H φ' H') {a : Addr} {vs : List V} (h : TP K H a vs) : TP K H' a vs := e.tups a vs h
theorem TP.sq {a : Addr} {vs : List V} (h : TP K H a vs) : SqT K H a vs := .inl (.inl h)
mutual
theorem RD.mono (e : Ext φ H φ' H') : ∀ (d : PyData) (v : V), RD K H φ d v → RD K H' φ' d v
  | .none, _, h => h
  | .bool _, _, h => h
  | .int _, _, h => h
  | .str _, _, h => h
  | .list ds, _, ⟨a, vs, e1, h1, h2⟩ => ⟨a, vs, e1, h1.mono e, RDs.mono e ds vs h2⟩
  | .tuple ds, _, ⟨a, vs, e1, h1, h2⟩ => ⟨a, vs, e1, TP.mono e h1, RDs.mono e ds vs h2⟩
  | .dict _, _, h => h
theorem RDs.mono (e : Ext φ H φ' H') : ∀ (ds : List PyData) (vs : List V), RDs K H φ ds vs → RDs K H' φ' ds vs
  | [], _, h => h
  | d :: ds, _, ⟨v, r, e1, h1, h2⟩ => ⟨v, r, e1, RD.mono e d v h1, RDs.mono e ds r h2⟩
end
theorem FL.sq {a : Addr} {vs : List V} (h : FL H φ a vs) : SqL K H a vs := .inl h.1
theorem RDs.length : ∀ {ds : List PyData} {vs : List V}, RDs K H φ ds vs → vs.length = ds.length
  | [], _, h => by cases h; rfl
  | _ :: _, _, ⟨_, _, e, _, h⟩ => by subst e; simp [RDs.length h]
theorem RDs.get : ∀ {ds : List PyData} {vs : List V} {i : Nat} {d : PyData}, RDs K H φ ds vs → ds[i]? = some d → ∃ v, vs[i]? = some v ∧ RD K H φ d v
  | [], _, _, _, _, e => by simp at e
  | _ :: _, _, 0, _, ⟨v, r, e, h, _⟩, e2 => by subst e; simp at e2; subst e2; exact ⟨v, rfl, h⟩
  | _ :: _, _, i + 1, d, ⟨v, r, e, _, h⟩, e2 => by
    subst e
    obtain ⟨u, h1, h2⟩ := RDs.get (i := i) (d := d) h (by simpa using e2)
    exact ⟨u, by simpa using h1, h2⟩
theorem RDs.append : ∀ {ds es : List PyData} {vs us : List V}, RDs K H φ ds vs → RDs K H φ es us → RDs K H φ (ds ++ es) (vs ++ us)
  | [], _, _, _, h, h2 => by cases h; exact h2
  | _ :: _, _, _, _, ⟨v, r, e, h, t⟩, h2 => by subst e; exact ⟨v, _, rfl, h, RDs.append t h2⟩
theorem RDs.one {d : PyData} {v : V} (h : RD K H φ d v) : RDs K H φ [d] [v] := ⟨v, [], rfl, h, rfl⟩
theorem RDs.take : ∀ {ds : List PyData} {vs : List V} (n : Nat), RDs K H φ ds vs → RDs K H φ (ds.take n) (vs.take n)
  | _, _, 0, _ => by simp [RDs]
  | [], _, n + 1, h => by cases h; simp [RDs]
  | _ :: _, _, n + 1, ⟨v, r, e, h, t⟩ => by subst e; exact ⟨v, _, rfl, h, RDs.take n t⟩
theorem RDs.drop : ∀ {ds : List PyData} {vs : List V} (n : Nat), RDs K H φ ds vs → RDs K H φ (ds.drop n) (vs.drop n)
  | _, _, 0, h => h
  | [], _, n + 1, h => by cases h; simp [RDs]
  | _ :: _, _, n + 1, ⟨v, r, e, h, t⟩ => by subst e; exact RDs.drop n t
theorem RDs.reverse : ∀ {ds : List PyData} {vs : List V}, RDs K H φ ds vs → RDs K H φ ds.reverse vs.reverse
  | [], _, h => by cases h; simp [RDs]
  | _ :: _, _, ⟨v, r, e, h, t⟩ => by subst e; rw [List.reverse_cons, List.reverse_cons]; exact RDs.append (RDs.reverse t) (RDs.one h)
theorem RDs.eraseIdx : ∀ {ds : List PyData} {vs : List V} (n : Nat), RDs K H φ ds vs → RDs K H φ (ds.eraseIdx n) (vs.eraseIdx n)
  | [], _, n, h => by cases h; simp [RDs]
  | _ :: _, _, 0, ⟨v, r, e, _, t⟩ => by subst e; exact t
  | _ :: _, _, n + 1, ⟨v, r, e, h, t⟩ => by subst e; exact ⟨v, _, rfl, h, RDs.eraseIdx n t⟩
theorem RDs.set : ∀ {ds : List PyData} {vs : List V} (n : Nat) {d : PyData} {v : V}, RDs K H φ ds vs → RD K H φ d v → RDs K H φ (ds.set n d) (vs.set n v)
  | [], _, n, _, _, h, _ => by cases h; simp [RDs]
  | _ :: _, _, 0, _, u, ⟨v, r, e, _, t⟩, h2 => by subst e; exact ⟨u, r, rfl, h2, t⟩
  | _ :: _, _, n + 1, _, _, ⟨v, r, e, h, t⟩, h2 => by subst e; exact ⟨v, _, rfl, h, RDs.set n t h2⟩
mutual
theorem RD.dp : ∀ (d : PyData) (v : V), RD K H φ d v → Dp K H v d
  | .none, _, h => by cases h; exact .non
  | .bool _, _, h => by cases h; exact .bl _
  | .int _, _, h => by cases h; exact .int _
  | .str _, _, h => by cases h; exact .str _
  | .list ds, _, ⟨a, vs, e1, h1, h2⟩ => by subst e1; exact .lst h1.sq (RDs.dp ds vs h2)
  | .tuple ds, _, ⟨a, vs, e1, h1, h2⟩ => by subst e1; exact .tup h1.sq (RDs.dp ds vs h2)
  | .dict _, _, h => h.elim
theorem RDs.dp : ∀ (ds : List PyData) (vs : List V), RDs K H φ ds vs → DpAll K H vs ds
  | [], _, h => by cases h; exact .nil
  | d :: ds, _, ⟨v, r, e1, h1, h2⟩ => by subst e1; exact .cons (RD.dp d v h1) (RDs.dp ds r h2)
end
theorem RW.mono (e : Ext φ H φ' H') : ∀ {w : W} {v : V}, RW K H φ mg w v → RW K H' φ' mg w v
  | .d x, v, h => RD.mono e x v h
  | .r n, v, ⟨a, h1, h2⟩ => ⟨a, by
      obtain ⟨t, ht⟩ := e.pre
      rw [← ht, List.getElem?_append_left (by rw [List.getElem?_eq_some_iff] at h1; exact h1.1)]; exact h1, h2⟩
  | .g x, v, h => h
  | .s xs, v, ⟨a, vs, e1, h1, h2⟩ => ⟨a, vs, e1, h1.imp (fun q => q.mono e) id, RDs.mono e _ _ h2⟩
theorem RWs.mono (e : Ext φ H φ' H') : ∀ {ws : List W} {vs : List V}, RWs K H φ mg ws vs → RWs K H' φ' mg ws vs
  | [], _, h => h
  | w :: ws, _, ⟨v, r, e1, h1, h2⟩ => ⟨v, r, e1, RW.mono e h1, RWs.mono e h2⟩
theorem ER.mono (e : Ext φ H φ' H') {σV : L2.St} {σ : En} (h : ER K H φ mg σV σ) : ER K H' φ' mg σV σ :=
  ⟨h.len, fun i w q => let ⟨v, h1, h2⟩ := h.at_ i w q; ⟨v, h1, RW.mono e h2⟩⟩
theorem ER.set {σV : L2.St} {σ : En} (h : ER K H φ mg σV σ) {i : Nat} {w : W} {v : V} (hw : RW K H φ mg w v) : ER K H φ mg (σV.set i (some v)) (σ.set i (some w)) := by
  refine ⟨by simp [h.len], fun j w' q => ?_⟩
  by_cases e : i = j
  · subst e
    by_cases hl : i < σ.length
    · rw [List.getElem?_set_self hl] at q
      cases q
      exact ⟨v, by rw [List.getElem?_set_self (by rw [h.len]; exact hl)], hw⟩
    · rw [List.getElem?_eq_none (by simp; omega)] at q; cases q
  · rw [List.getElem?_set_ne e] at q
    obtain ⟨u, h1, h2⟩ := h.at_ j w' q
    exact ⟨u, by rw [List.getElem?_set_ne e]; exact h1, h2⟩
theorem upd_trk {p : Addr} {o : HO} : ∀ b, upd H p o b = none → H b = none := fun b h => by
  unfold upd at h
  split at h
  · cases h
  · exact h
/-- a new object that nobody tracks by number -/
theorem Ext.new {p : Addr} {o : HO} (hp : H p = none) (hs : SR K H φ S) : Ext φ H φ (upd H p o) := by
  refine ⟨List.prefix_refl _, ⟨[], rfl, fun _ h => by cases h⟩, upd_trk, fun b u h n => ⟨?_, n⟩, fun b vs h => ?_, fun b o u h => ?_⟩
  · rw [upd_ne (ne_of_none h hp)]; exact h
  · rw [upd_ne (ne_of_none h hp)]; exact h
  · rw [upd_ne (ne_of_none h hp)]; exact h
theorem OR.there {a : Addr} {o : O} (h : OR K H φ a o) : ∃ u, H a = some u := by
  cases o with
  | lst _ => obtain ⟨_, h, _⟩ := h; exact ⟨_, h⟩
  | dk _ => obtain ⟨_, h, _⟩ := h; exact ⟨_, h⟩
  | dt _ => obtain ⟨_, h, _⟩ := h; exact ⟨_, h⟩
  | lkK _ => obtain ⟨_, ⟨_, h⟩, _⟩ := h; exact ⟨_, h⟩
  | lkT _ => obtain ⟨_, ⟨_, h⟩, _⟩ := h; exact ⟨_, h⟩
theorem SR.get {S : So} (hs : SR K H φ S) {i : Nat} {a : Addr} (h : φ.l[i]? = some a) : ∃ o, S[i]? = some o ∧ OR K H φ a o := by
  have hl : i < S.length := by rw [← hs.len]; exact (List.getElem?_eq_some_iff.mp h).1
  exact ⟨S[i], List.getElem?_eq_getElem hl, hs.ob i a _ h (List.getElem?_eq_getElem hl)⟩
theorem SR.mem {S : So} (hs : SR K H φ S) {a : Addr} (h : a ∈ φ.l) : ∃ u, H a = some u := by
  obtain ⟨i, hi, e⟩ := List.getElem_of_mem h
  obtain ⟨o, _, h2⟩ := hs.get (i := i) (a := a) (by rw [List.getElem?_eq_getElem hi, e])
  exact h2.there
theorem SR.notin {S : So} (hs : SR K H φ S) {a : Addr} (h : H a = none) : a ∉ φ.l := fun hm => by
  obtain ⟨u, e⟩ := hs.mem hm; rw [h] at e; cases e
/-- objects of the store where the store's own addresses stay -/
theorem OR.mono (e : Ext φ H φ' H') {a : Addr} (ha : H' a = H a) : ∀ {o : O}, OR K H φ a o → OR K H' φ' a o
  | .lst xs, ⟨vs, h1, h2⟩ => ⟨vs, ha.trans h1, RDs.mono e _ _ h2⟩
  | .dk kvs, ⟨es, h1, h2, h3⟩ => ⟨es, ha.trans h1, h2, RDs.mono e _ _ h3⟩
  | .dt kvs, ⟨es, h1, h2, h3⟩ => ⟨es, ha.trans h1, h2, RDs.mono e _ _ h3⟩
  | .lkK kvs, ⟨es, ⟨od, h1⟩, h2, h3⟩ => ⟨es, ⟨od, ha.trans h1⟩, h2, RDs.mono e _ _ h3⟩
  | .lkT kvs, ⟨es, ⟨od, h1⟩, h2, h3⟩ => ⟨es, ⟨od, ha.trans h1⟩, h2, RDs.mono e _ _ h3⟩
theorem SR.new {S : So} {p : Addr} {o : HO} (hs : SR K H φ S) (hp : H p = none) : SR K (upd H p o) φ S :=
  ⟨hs.len, hs.nd, fun i a ob h1 h2 => OR.mono (Ext.new hp hs) (by
    rw [upd_ne]
    intro e; subst e
    exact hs.notin hp (List.mem_of_getElem? h1)) (hs.ob i a ob h1 h2), fun b hb => by
      obtain ⟨h1, vs, h2⟩ := hs.hid b hb
      exact ⟨h1, vs, by rw [upd_ne (ne_of_none h2 hp)]; exact h2⟩⟩
theorem SR.notinh {S : So} (hs : SR K H φ S) {a : Addr} (h : H a = none) : a ∉ φ.h := fun hm => by
  obtain ⟨_, vs, e⟩ := hs.hid a hm; rw [h] at e; cases e
/-- a new object of the store -/
theorem Ext.push {p : Addr} {o : HO} {S : So} (hp : H p = none) (hs : SR K H φ S) : Ext φ H (φ.push p) (upd H p o) := by
  have e := Ext.new (o := o) hp hs
  refine ⟨List.prefix_append _ _, ⟨[], rfl, fun _ h => by cases h⟩, upd_trk, fun b u h n => ?_, e.tups, e.frz⟩
  obtain ⟨h1, n1⟩ := e.kept b u h n
  refine ⟨h1, fun hm => ?_⟩
  rcases List.mem_append.mp hm with hm | hm
  · exact n hm
  · rw [List.mem_singleton] at hm; subst hm; rw [hp] at h; cases h
theorem SR.push {S : So} {p : Addr} {o : HO} {ob : O} (hs : SR K H φ S) (hp : H p = none) (ho : OR K (upd H p o) (φ.push p) p ob) : SR K (upd H p o) (φ.push p) (S ++ [ob]) := by
  have ht := hs.new (o := o) hp
  refine ⟨by simp [Fi.push, hs.len], ?_, fun i a u h1 h2 => ?_, fun b hb => ?_⟩
  · show (φ.l ++ [p]).Nodup
    rw [List.nodup_append]
    refine ⟨hs.nd, by simp, fun a ha b hb => ?_⟩
    rw [List.mem_singleton] at hb; subst hb
    intro e; subst e; exact hs.notin hp ha
  · have g1 : (φ.l ++ [p])[i]? = some a := h1
    clear h1
    by_cases hi : i < φ.l.length
    · rw [List.getElem?_append_left hi] at g1
      rw [List.getElem?_append_left (by rw [← hs.len]; exact hi)] at h2
      refine OR.mono (Ext.push hp hs) ?_ (hs.ob i a u g1 h2)
      rw [upd_ne]
      intro e; subst e; exact hs.notin hp (List.mem_of_getElem? g1)
    · have hi1 : i < (φ.l ++ [p]).length := (List.getElem?_eq_some_iff.mp g1).1
      have hi2 : i = φ.l.length := by simp at hi1; omega
      subst hi2
      rw [List.getElem?_append_right (Nat.le_refl _)] at g1
      rw [List.getElem?_append_right (by rw [hs.len]; exact Nat.le_refl _)] at h2
      simp at g1
      rw [hs.len] at h2
      simp at h2
      subst g1; subst h2
      exact ho
  · obtain ⟨h1, vs, h2⟩ := ht.hid b hb
    refine ⟨fun hm => ?_, vs, h2⟩
    rcases List.mem_append.mp hm with hm | hm
    · exact h1 hm
    · rw [List.mem_singleton] at hm; subst hm; exact hs.notinh hp hb
/-- an object of the store changes -/
theorem Ext.wr {S : So} {n : Nat} {a : Addr} {o : HO} (hs : SR K H φ S) (ha : φ.l[n]? = some a) (hn : notLk S[n]?) : Ext φ H φ (upd H a o) := by
  obtain ⟨ob, ho, hob⟩ := hs.get ha
  refine ⟨List.prefix_refl _, ⟨[], rfl, fun _ h => by cases h⟩, upd_trk, fun b u h nb => ⟨?_, nb⟩, fun b vs h => ?_, fun b u0 vs h => ?_⟩
  · rw [upd_ne]; exact h
    intro e; subst e; exact nb (List.mem_of_getElem? ha)
  · have hne : b ≠ a := by
      intro e; subst e
      cases ob with
      | lst _ => obtain ⟨_, q, _⟩ := hob; rw [h] at q; cases q
      | dk _ => obtain ⟨_, q, _⟩ := hob; rw [h] at q; cases q
      | dt _ => obtain ⟨_, q, _⟩ := hob; rw [h] at q; cases q
      | lkK _ => rw [ho] at hn; exact hn
      | lkT _ => rw [ho] at hn; exact hn
    rw [upd_ne hne]; exact h
  · have hne : b ≠ a := by
      intro e; subst e
      cases ob with
      | lst _ => obtain ⟨_, q, _⟩ := hob; rw [h] at q; cases q
      | dk _ => obtain ⟨_, q, _⟩ := hob; rw [h] at q; cases q
      | dt _ => obtain ⟨_, q, _⟩ := hob; rw [h] at q; cases q
      | lkK _ => rw [ho] at hn; exact hn
      | lkT _ => rw [ho] at hn; exact hn
    rw [upd_ne hne]; exact h
theorem SR.wr {S : So} {n : Nat} {a : Addr} {o : HO} {ob : O} (hs : SR K H φ S) (ha : φ.l[n]? = some a) (hn : notLk S[n]?) (ho : OR K (upd H a o) φ a ob) : SR K (upd H a o) φ (S.set n ob) := by
  refine ⟨by simp [hs.len], hs.nd, fun i b u h1 h2 => ?_, fun b hb => ?_⟩
  · by_cases e : n = i
    · subst e
      rw [ha] at h1; cases h1
      have hl : n < S.length := by rw [← hs.len]; exact (List.getElem?_eq_some_iff.mp ha).1
      rw [List.getElem?_set_self hl] at h2; cases h2
      exact ho
    · rw [List.getElem?_set_ne e] at h2
      refine OR.mono (Ext.wr hs ha hn) ?_ (hs.ob i b u h1 h2)
      rw [upd_ne]
      intro q; subst q
      exact e ((List.getElem?_inj (List.getElem?_eq_some_iff.mp ha).1 hs.nd).mp (ha.trans h1.symm))
  · obtain ⟨h1, vs, h2⟩ := hs.hid b hb
    refine ⟨h1, vs, ?_⟩
    rw [upd_ne]; exact h2
    intro e; subst e; exact h1 (List.mem_of_getElem? ha)
/-- a list that is being made: it is hidden, grows, and stands at last as a value -/
theorem FL.hide {p : Addr} {o : HO} (hp : H p = none) {a : Addr} {vs : List V} (h : FL H φ a vs) : FL (upd H p o) (φ.hide p) a vs := by
  obtain ⟨h, n, m⟩ := h
  have hne : a ≠ p := by rcases h with h | ⟨_, h⟩ <;> exact ne_of_none h hp
  refine ⟨?_, n, fun z => ?_⟩
  · rcases h with h | ⟨u, h⟩
    · exact .inl (by rw [upd_ne hne]; exact h)
    · exact .inr ⟨u, by rw [upd_ne hne]; exact h⟩
  · rcases List.mem_cons.mp z with z | z
    · exact hne z
    · exact m z
theorem TP.hide {p : Addr} {o : HO} (hp : H p = none) {a : Addr} {vs : List V} (h : TP K H a vs) : TP K (upd H p o) a vs := (upd_ne (ne_of_none h hp)).trans h
mutual
theorem RD.hide {p : Addr} {o : HO} (hp : H p = none) : ∀ (d : PyData) (v : V), RD K H φ d v → RD K (upd H p o) (φ.hide p) d v
  | .none, _, h => h
  | .bool _, _, h => h
  | .int _, _, h => h
  | .str _, _, h => h
  | .list ds, _, ⟨a, vs, e1, h1, h2⟩ => ⟨a, vs, e1, h1.hide hp, RDs.hide hp ds vs h2⟩
  | .tuple ds, _, ⟨a, vs, e1, h1, h2⟩ => ⟨a, vs, e1, TP.hide hp h1, RDs.hide hp ds vs h2⟩
  | .dict _, _, h => h
theorem RDs.hide {p : Addr} {o : HO} (hp : H p = none) : ∀ (ds : List PyData) (vs : List V), RDs K H φ ds vs → RDs K (upd H p o) (φ.hide p) ds vs
  | [], _, h => h
  | d :: ds, _, ⟨v, r, e1, h1, h2⟩ => ⟨v, r, e1, RD.hide hp d v h1, RDs.hide hp ds r h2⟩
end
theorem OR.hide {p : Addr} {o : HO} (hp : H p = none) {a : Addr} : ∀ {ob : O}, OR K H φ a ob → OR K (upd H p o) (φ.hide p) a ob
  | .lst xs, ⟨vs, h1, h2⟩ => ⟨vs, by rw [upd_ne (ne_of_none h1 hp)]; exact h1, RDs.hide hp _ _ h2⟩
  | .dk kvs, ⟨es, h1, h2, h3⟩ => ⟨es, by rw [upd_ne (ne_of_none h1 hp)]; exact h1, h2, RDs.hide hp _ _ h3⟩
  | .dt kvs, ⟨es, h1, h2, h3⟩ => ⟨es, by rw [upd_ne (ne_of_none h1 hp)]; exact h1, h2, RDs.hide hp _ _ h3⟩
  | .lkK kvs, ⟨es, ⟨od, h1⟩, h2, h3⟩ => ⟨es, ⟨od, by rw [upd_ne (ne_of_none h1 hp)]; exact h1⟩, h2, RDs.hide hp _ _ h3⟩
  | .lkT kvs, ⟨es, ⟨od, h1⟩, h2, h3⟩ => ⟨es, ⟨od, by rw [upd_ne (ne_of_none h1 hp)]; exact h1⟩, h2, RDs.hide hp _ _ h3⟩
theorem Ext.hide {p : Addr} {o : HO} (hp : H p = none) : Ext φ H (φ.hide p) (upd H p o) :=
  ⟨List.prefix_refl _, ⟨[p], rfl, fun b hb => by rw [List.mem_singleton] at hb; subst hb; exact hp⟩, upd_trk, fun b u h n => ⟨by rw [upd_ne (ne_of_none h hp)]; exact h, n⟩, fun b vs h => by
    rw [upd_ne (ne_of_none h hp)]; exact h, fun b o u h => by
    rw [upd_ne (ne_of_none h hp)]; exact h⟩
theorem SR.hide {S : So} {p : Addr} {vs : List V} (hs : SR K H φ S) (hp : H p = none) : SR K (upd H p (.lst vs)) (φ.hide p) S :=
  ⟨hs.len, hs.nd, fun i a ob h1 h2 => OR.hide hp (hs.ob i a ob h1 h2), fun b hb => by
    rcases List.mem_cons.mp hb with e | hb
    · subst e; exact ⟨hs.notin hp, vs, upd_same⟩
    · obtain ⟨h1, us, h2⟩ := hs.hid b hb
      exact ⟨h1, us, by rw [upd_ne (ne_of_none h2 hp)]; exact h2⟩⟩
theorem RW.hide {p : Addr} {o : HO} (hp : H p = none) : ∀ {w : W} {v : V}, RW K H φ mg w v → RW K (upd H p o) (φ.hide p) mg w v
  | .d x, v, h => RD.hide hp x v h
  | .r n, v, h => h
  | .g x, v, h => h
  | .s xs, v, ⟨a, vs, e1, h1, h2⟩ => ⟨a, vs, e1, h1.imp (fun q => q.hide hp) id, RDs.hide hp _ _ h2⟩
theorem ER.hide {p : Addr} {o : HO} (hp : H p = none) {σV : L2.St} {σ : En} (h : ER K H φ mg σV σ) : ER K (upd H p o) (φ.hide p) mg σV σ :=
  ⟨h.len, fun i w q => let ⟨v, h1, h2⟩ := h.at_ i w q; ⟨v, h1, RW.hide hp h2⟩⟩

section
variable {p : Addr} {us : List V} (hh : p ∈ φ.h) (hp : H p = some (.lst us)) (hx : ∀ b, b ≠ p → H' b = H b)
include hh hp hx
theorem FL.grow {a : Addr} {vs : List V} (h : FL H φ a vs) : FL H' φ a vs := by
  obtain ⟨h, n, m⟩ := h
  have hne : a ≠ p := fun e => m (e ▸ hh)
  refine ⟨?_, n, m⟩
  rcases h with h | ⟨u, h⟩
  · exact .inl ((hx a hne).trans h)
  · exact .inr ⟨u, (hx a hne).trans h⟩
omit hh in
theorem TP.grow {a : Addr} {vs : List V} (h : TP K H a vs) : TP K H' a vs := by
  have hne : a ≠ p := by
    intro e; subst e
    rw [h] at hp; cases hp
  exact (hx a hne).trans h
theorem RD.grow : ∀ (d : PyData) (v : V), RD K H φ d v → RD K H' φ d v := fun d => PyData.rec (motive_1 := fun d => ∀ v, RD K H φ d v → RD K H' φ d v) (motive_2 := fun ds => ∀ vs, RDs K H φ ds vs → RDs K H' φ ds vs)
    (motive_3 := fun _ => True) (motive_4 := fun _ => True)
    (fun _ h => h) (fun _ _ h => h) (fun _ _ h => h) (fun _ _ h => h)
    (fun ds ih v ⟨a, vs, e1, h1, h2⟩ => ⟨a, vs, e1, FL.grow hh hp hx h1, ih vs h2⟩)
    (fun ds ih v ⟨a, vs, e1, h1, h2⟩ => ⟨a, vs, e1, TP.grow hp hx h1, ih vs h2⟩)
    (fun _ _ _ h => h) (fun _ h => h) (fun d ds h1 h2 vs ⟨v, r, e1, q1, q2⟩ => ⟨v, r, e1, h1 v q1, h2 r q2⟩) trivial (fun _ _ _ _ => trivial) (fun _ _ _ _ => trivial) d
theorem RDs.grow : ∀ (ds : List PyData) (vs : List V), RDs K H φ ds vs → RDs K H' φ ds vs
  | [], _, h => h
  | d :: ds, _, ⟨v, r, e1, h1, h2⟩ => ⟨v, r, e1, RD.grow hh hp hx d v h1, RDs.grow ds r h2⟩
theorem OR.grow {a : Addr} (hne : a ≠ p) : ∀ {ob : O}, OR K H φ a ob → OR K H' φ a ob
  | .lst xs, ⟨ws, q1, q2⟩ => ⟨ws, (hx a hne).trans q1, RDs.grow hh hp hx _ _ q2⟩
  | .dk xs, ⟨ws, q1, q2, q3⟩ => ⟨ws, (hx a hne).trans q1, q2, RDs.grow hh hp hx _ _ q3⟩
  | .dt xs, ⟨ws, q1, q2, q3⟩ => ⟨ws, (hx a hne).trans q1, q2, RDs.grow hh hp hx _ _ q3⟩
  | .lkK xs, ⟨ws, ⟨od, q1⟩, q2, q3⟩ => ⟨ws, ⟨od, (hx a hne).trans q1⟩, q2, RDs.grow hh hp hx _ _ q3⟩
  | .lkT xs, ⟨ws, ⟨od, q1⟩, q2, q3⟩ => ⟨ws, ⟨od, (hx a hne).trans q1⟩, q2, RDs.grow hh hp hx _ _ q3⟩
theorem RW.grow : ∀ {w : W} {v : V}, RW K H φ mg w v → RW K H' φ mg w v
  | .d x, v, h => RD.grow hh hp hx x v h
  | .r n, v, h => h
  | .g x, v, h => h
  | .s xs, v, ⟨a, vs, e1, h1, h2⟩ => ⟨a, vs, e1, h1.imp (fun q => FL.grow hh hp hx q) id, RDs.grow hh hp hx _ _ h2⟩
theorem ER.grow {σV : L2.St} {σ : En} (h : ER K H φ mg σV σ) : ER K H' φ mg σV σ :=
  ⟨h.len, fun i w q => let ⟨v, h1, h2⟩ := h.at_ i w q; ⟨v, h1, RW.grow hh hp hx h2⟩⟩
end
theorem SR.grow {S : So} {p : Addr} {us vs : List V} (hs : SR K H φ S) (hh : p ∈ φ.h) (hp : H p = some (.lst us)) : SR K (upd H p (.lst vs)) φ S := by
  obtain ⟨np, _⟩ := hs.hid p hh
  refine ⟨hs.len, hs.nd, fun i a ob h1 h2 => OR.grow hh hp (fun b hb => upd_ne hb) (fun e => np (e ▸ List.mem_of_getElem? h1)) (hs.ob i a ob h1 h2), fun b hb => ?_⟩
  by_cases e : b = p
  · subst e; exact ⟨np, vs, upd_same⟩
  · obtain ⟨h1, ws, h2⟩ := hs.hid b hb
    exact ⟨h1, ws, by rw [upd_ne e]; exact h2⟩
mutual
theorem RD.sub (e : ∀ b, b ∉ φ'.l ∧ b ∉ φ'.h → b ∉ φ.l ∧ b ∉ φ.h) : ∀ (d : PyData) (v : V), RD K H φ' d v → RD K H φ d v
  | .none, _, h => h
  | .bool _, _, h => h
  | .int _, _, h => h
  | .str _, _, h => h
  | .list ds, _, ⟨a, vs, e1, h1, h2⟩ => ⟨a, vs, e1, ⟨h1.1, e a h1.2⟩, RDs.sub e ds vs h2⟩
  | .tuple ds, _, ⟨a, vs, e1, h1, h2⟩ => ⟨a, vs, e1, h1, RDs.sub e ds vs h2⟩
  | .dict _, _, h => h
theorem RDs.sub (e : ∀ b, b ∉ φ'.l ∧ b ∉ φ'.h → b ∉ φ.l ∧ b ∉ φ.h) : ∀ (ds : List PyData) (vs : List V), RDs K H φ' ds vs → RDs K H φ ds vs
  | [], _, h => h
  | d :: ds, _, ⟨v, r, e1, h1, h2⟩ => ⟨v, r, e1, RD.sub e d v h1, RDs.sub e ds r h2⟩
end
/-- the store cut back to what stood before -/
theorem SR.cut {S' : So} {k : Nat} (hs : SR K H' φ' S') (e : Ext φ H φ' H') (hk : φ.l.length = k) : SR K H' φ (S'.take k) := by
  obtain ⟨t, ht⟩ := e.pre
  have hle : k ≤ S'.length := by rw [← hs.len, ← ht]; simp [hk]
  refine ⟨by simp [hk]; omega, ?_, fun i a o h1 h2 => ?_, fun b hb => ?_⟩
  · have := hs.nd; rw [← ht, List.nodup_append] at this; exact this.1
  · have hi : i < φ.l.length := (List.getElem?_eq_some_iff.mp h1).1
    have h1' : φ'.l[i]? = some a := by rw [← ht, List.getElem?_append_left hi]; exact h1
    have h2' : S'[i]? = some o := by rw [List.getElem?_take_of_lt (by omega)] at h2; exact h2
    have := hs.ob i a o h1' h2'
    have cut : ∀ {ds vs}, RDs K H' φ' ds vs → RDs K H' φ ds vs := fun {ds vs} h => RDs.sub (fun b hb => ⟨fun hb' => hb.1 (by rw [← ht]; exact List.mem_append_left _ hb'), fun hb' => hb.2 (e.hsub hb')⟩) ds vs h
    cases o with
    | lst xs => obtain ⟨vs, q1, q2⟩ := this; exact ⟨vs, q1, cut q2⟩
    | dk xs => obtain ⟨vs, q1, q2, q3⟩ := this; exact ⟨vs, q1, q2, cut q3⟩
    | dt xs => obtain ⟨vs, q1, q2, q3⟩ := this; exact ⟨vs, q1, q2, cut q3⟩
    | lkK xs => obtain ⟨vs, q1, q2, q3⟩ := this; exact ⟨vs, q1, q2, cut q3⟩
    | lkT xs => obtain ⟨vs, q1, q2, q3⟩ := this; exact ⟨vs, q1, q2, cut q3⟩
  · obtain ⟨h1, vs, h2⟩ := hs.hid b (e.hsub hb)
    exact ⟨fun hm => h1 (by rw [← ht]; exact List.mem_append_left _ hm), vs, h2⟩
theorem RD.cut (e : Ext φ H φ' H') {d : PyData} {v : V} (h : RD K H' φ' d v) : RD K H' φ d v :=
  RD.sub (fun b hb => ⟨fun hb' => hb.1 (e.pre.subset hb'), fun hb' => hb.2 (e.hsub hb')⟩) d v h
theorem RDs.cut (e : Ext φ H φ' H') {d : List PyData} {v : List V} (h : RDs K H' φ' d v) : RDs K H' φ d v :=
  RDs.sub (fun b hb => ⟨fun hb' => hb.1 (e.pre.subset hb'), fun hb' => hb.2 (e.hsub hb')⟩) d v h
/-- .. back to an earlier store, nothing of it changed its place -/
theorem Ext.cut (e : Ext φ H φ' H') : Ext φ H φ H' := ⟨List.prefix_refl _, ⟨[], rfl, fun _ h => by cases h⟩, e.trk, fun b o h n => ⟨(e.kept b o h n).1, n⟩, e.tups, e.frz⟩
end
end CL
end

section
/-! part CLFn -/
set_option Elab.async false
set_option linter.all false
set_option maxRecDepth 100000
/-! CLFn: what a def promises where no repr runs around it; calls of such defs. -/
namespace CL
open PySem PySem.Spec PyProof.Rows L2

/-- as the layer's FnOk, and nothing guards a repr around -/
structure FnG (P : Program) (w : World) (K : PySem.W.Frag) (mg : Str → Option Value) (base : Heap) (CX : CXT) (k : Nat) (f : Addr) (fd : FuncData) (ps : List Str) (sp : Sp) : Prop where
  len : ∀ vs H Q E, sp vs H Q E → vs.length = ps.length
  run : ∀ (A : Around) (outer : List Env) (s : Shared) (H : Hp) (args : Args) (us : List Value) (vs : List V) (Q : VK) (E : XK), A.guards = some [] → Room k A → Env0 P w K mg base A outer s H →
    BindsTo s fd args (ps.zip us) → Vals vs us → sp vs H Q E → codeAny (model P w) A (.call (.ref f) args) (CR CX outer P w H s Q E) s
theorem FnG.mono {P : Program} {w : World} {K : PySem.W.Frag} {mg : Str → Option Value} {base : Heap} {CX : CXT} {j k : Nat} {f : Addr} {fd : FuncData} {ps : List Str} {sp : Sp} (F : FnG P w K mg base CX j f fd ps sp) (h : j ≤ k) : FnG P w K mg base CX k f fd ps sp :=
  { F with run := fun A o s H a us vs Q E g r => F.run A o s H a us vs Q E g (r.mono h) }
section
variable {X : Cx} {CX : CXT} {k i : Nat} {f : Addr} {fd : FuncData} {ps : List Str} {sp : Sp} {E : XK} {x : Str} {p pos : Pos} {e : Expr} {es : List Expr} {t : TA} {ds : List Value} {dvs : List V}
theorem runG {pins : List (Addr × Obj)} {σ : L2.St} {H : Hp} {s : Shared} {Q : VK} {us : List Value} {vs : List V} (F : FnG X.prog X.w X.K X.mg X.base CX k f fd ps sp) (hg : X.A.guards = some []) (hr : Room k X.A) (hb : Binds X.K fd ps ds) (hd : Vals dvs ds) (hx : Passes CX X E)
    (I : Inv X pins σ H s) (r : Vals vs us) (h : sp (vs ++ dvs) H Q E) : wpAny (model X.prog X.w) X.A (call (.ref f) us) (EP X pins σ Q) X.xe s := by
  have ra := r.append hd
  have hl := F.len _ _ _ _ h
  rw [ra.length] at hl
  apply wpAny_call
  refine codeAny_mono (F.run X.A X.stack s H ⟨us, []⟩ _ _ Q E hg hr I.env0 (hb s us I.kIn hl) ra h) ?_
  intro r s' hq
  match r, hq with
  | .error e, hq => exact hx pins σ H s e s' I hq
  | .ok (.ret u), hq => exact I.after hq
/-- a def of the module, called by its name -/
theorem pe_fnG (F : FnG X.prog X.w X.K X.mg X.base CX k f fd ps sp) (hgd : X.A.guards = some []) (hr : Room k X.A) (hg : Gl X x) (hm : X.mg x = some (.ref f)) (hk : PySem.W.keepIn X.K (.ref f) = true) (hb : Binds X.K fd ps ds) (hd : Vals dvs ds) (hx : Passes CX X E)
    (ha : PA X (e :: es) t) (hdb : (x == ("__debug__" : Str)) = false) (he : starEach (e :: es) X.env = (false, eval e X.env) :: starEach es X.env) (hpl : (backTo pos (starEach es X.env)).any (·.1) = false) :
    PE X (.Call (.Name x p) (e :: es) [] pos) (tCall sp dvs E t) where
  run := fun pins s σ H Q I h => wpAny_Call_Name_kw (ld_glob I hg hm (PySem.W.callWith_K (h₀ := X.base) I.ok.mod.kin hk (thn (ha.run pos pins s σ H _ I h) fun us s1 ⟨vs, H1, I1, r, q⟩ => ⟨I1.kIn, runG F hgd hr hb hd hx I1 r q⟩) he hpl) hdb)
theorem pe_fnG0 (F : FnG X.prog X.w X.K X.mg X.base CX k f fd ps sp) (hgd : X.A.guards = some []) (hr : Room k X.A) (hg : Gl X x) (hm : X.mg x = some (.ref f)) (hk : PySem.W.keepIn X.K (.ref f) = true) (hb : Binds X.K fd ps ds) (hd : Vals dvs ds) (hx : Passes CX X E)
    (hdb : (x == ("__debug__" : Str)) = false) : PE X (.Call (.Name x p) [] [] pos) (tCall sp dvs E tNil) where
  run := fun pins s σ H Q I h => wpAny_Call_Name_kw (ld_glob I hg hm (PySem.W.callWith_K0 I.kIn hk (runG (us := []) (vs := []) F hgd hr hb hd hx I .nil h)) hdb)
/-- a def that a local name holds; which one is told by its address -/
def tHeld (i : Nat) (S : Addr → Option Sp) (E : XK) (t : TA) : TE := fun σ H Q => ∃ f sp, σ[i]? = some (some (.ref f)) ∧ S f = some sp ∧ t σ H fun vs H1 => sp vs H1 Q E
structure HeldG (X : Cx) (CX : CXT) (k : Nat) (f : Addr) (sp : Sp) : Prop where
  ex : ∃ (fd : FuncData) (ps : List Str), FnG X.prog X.w X.K X.mg X.base CX k f fd ps sp ∧ PySem.W.keepIn X.K (.ref f) = true ∧ Binds X.K fd ps []
theorem pe_heldG {S : Addr → Option Sp} (hS : ∀ f sp, S f = some sp → HeldG X CX k f sp) (hgd : X.A.guards = some []) (hr : Room k X.A) (hN : X.N[i]? = some x) (hv : Vis X.env.scope x) (hx : Passes CX X E)
    (ha : PA X (e :: es) t) (hdb : (x == ("__debug__" : Str)) = false) (hcd : (x == ("__classdict__" : Str)) = false) (he : starEach (e :: es) X.env = (false, eval e X.env) :: starEach es X.env) (hpl : (backTo pos (starEach es X.env)).any (·.1) = false) :
    PE X (.Call (.Name x p) (e :: es) [] pos) (tHeld i S E t) where
  run := fun pins s σ H Q I h => by
    obtain ⟨f, sp, hs, hsp, ht⟩ := h
    obtain ⟨fd, ps, F, hk, hb⟩ := (hS f sp hsp).ex
    refine wpAny_Call_Name_kw (thn ((pe_var (pos := p) hN hv hdb hcd).run pins s σ H (fun v H1 => v = .ref f ∧ H1 = H) I ⟨.ref f, hs, rfl, rfl⟩) ?_)
    rintro u s1 ⟨v, H1, I1, r1, rfl, rfl⟩
    cases r1
    refine PySem.W.callWith_K (h₀ := X.base) I.ok.mod.kin hk (thn (ha.run pos pins s1 σ H1 _ I1 ht) fun us s2 ⟨vs, H2, I2, r, q⟩ => ⟨I2.kIn, ?_⟩) he hpl
    exact runG (dvs := []) F hgd hr hb .nil hx I2 r (by rw [List.append_nil]; exact q)
end
/-- a def of the text, by its body -/
theorem fnG_of {CX : CXT} {P : Program} {w : World} {K : PySem.W.Frag} {mg : Str → Option Value} {base : Heap} {k : Nat} {f : Addr} {x qual : Str} {st : Stmt} {fd : FuncData} {N ps : List Str} {sp : Sp} (F : Fun K x qual st f fd) (Sc : FnScope N ps (defScope st))
    (len : ∀ vs H Q E, sp vs H Q E → vs.length = ps.length)
    (hbody : ∀ (cdv : Value) (A : Around) (outer : List Env) (s : Shared) (H : Hp) (vs : List V) (Q : VK) (E : XK), A.guards = some [] → Room k (A.deeper (envOfC qual (defScope st) s.heap.objs.size f cdv)) → sp vs H Q E →
      ∃ t, PSs (cxOf CX P w K mg base N qual (defScope st) f cdv A outer s H E) (defBody st) t ∧ t { nx := fun _ H' => Q .non H', rt := Q } (L2.start N vs) H) : FnG P w K mg base CX (k + 1) f fd ps sp := by
  obtain ⟨oc, od, kV, doc, pm, an, cdv, ct, osl, rfl, lk, hcd⟩ := F.ex
  refine ⟨len, fun A outer s H args us vs Q E hgd hr e0 hb r hsp => ?_⟩
  have stay : ∀ b o, base.get? b = some o → s.heap.get? b = some o := fun b o e => (e0.bs b o e).1
  have KX : K.In s.heap := e0.mod.kin.keeps stay
  have kinds : ∀ y ∈ ps.zip us, (defScope st).names.lookup y.1 = some .local ∨ ((defScope st).names.lookup y.1 = some .cell ∧ ((cellsFrom (s.heap.objs.size + 1) (defScope st).names []).lookup y.1).isSome = true) := by
    rintro ⟨n, v⟩ hy
    exact (Sc.par n (List.of_mem_zip hy).1).imp id fun q => ⟨q, PySem.W.cellsFrom_some _ _ _ (.inl q)⟩
  refine codeAny_call_function hr.depth (KX _ _ lk) rfl Sc.co Sc.gen rfl (PySem.W.codeRec_of KX hcd) (hb _ _ _ _ (wpAny_newFunctionEnv_cells Sc.kind kinds fun env he s1 x => ?_))
  subst he
  have lim : s.heap.NoLimit := e0.mod.nolimit.keeps stay
  refine ⟨lim.keeps x.toInCall.keep, codeAny_func ?_⟩
  obtain ⟨t, ht, hq⟩ := hbody cdv A outer s H vs Q E hgd (hr.deeper _) hsp
  refine wpAny_mono (ht.run [] s1 _ H _ (inv_start Sc hr.hd e0 (len _ _ _ _ hsp) r x) hq) (fun fl s' hs => ?_) fun _ _ hs => hs
  match fl, hs with
  | .ret u, ⟨v, _, H', J, rv, q⟩ => exact ⟨v, H', J.os, J.bare, J.base, J.hok, rv, q⟩
  | .next, ⟨_, H', J, q⟩ => exact ⟨.non, H', J.os, J.bare, J.base, J.hok, rfl, q⟩
  | .brk, ⟨_, _, _, q⟩ => exact False.elim q
  | .cont, ⟨_, _, _, q⟩ => exact False.elim q
/-! ### the law's end -/
/-- the script's object, read and never written -/
def scriptH (a : Addr) (o : Obj) (xs : List V) : Hp := fun b => if b = a then some (.frz o (.lst xs)) else none
theorem law_callG {P : Program} {w : World} {K : PySem.W.Frag} {mg mb : Str → Option Value} {CX : CXT} {k : Nat} {fa a : Addr} {fd : FuncData} {x : Str} {sp : Sp} {s₁ : Shared} {vs : List Value} {ns : List Int}
    (KX : K.In s₁.heap) (hns : s₁.heap.Ns mainGlobals mg) (hb : s₁.heap.Ns builtinsNs mb) (hbb : ∀ x : Str, x ≠ "__name__" → mb x = bootBuiltins x) (hlim : s₁.heap.NoLimit) (hg : s₁.gens = #[])
    (ha : s₁.heap.get? a = some { cls := .type "list", data := .seq vs.toArray }) (hi : IntsAre vs ns) (hl : ns.length ≤ sizeLine) (hr : Room k callerA)
    (F : ∀ base : Heap, K.In base → base.Ns mainGlobals mg → FnG P w K mg base CX k fa fd [x] sp) (hbind : ∀ (s : Shared) (u : Value), BindsTo s fd ⟨[u], []⟩ [(x, u)])
    (hsp : ∀ H : Hp, ((∃ o, H = scriptH a o (ns.map V.int)) ∨ (H = (fun _ => none) ∧ KL K a (ns.map V.int))) → sp [.ref a] H (fun v _ => v = .bl true) fun _ _ _ => False)
    (hCX : ∀ H e s', CX [] H s₁ (fun _ _ _ => False) e s' → False) :
    codeAny (model P w) callerA (.call (.ref fa) ⟨[.ref a], []⟩) (fun r s' => r = .ok (.ret (.bool true)) ∧ OldK s₁.heap s'.heap ∧ s'.os = s₁.os ∧ AllBare s'.gens) s₁ := by
  have rv := vals_ints hi
  have lenV := hi.length
  generalize ho : ({ cls := .type "list", data := .seq vs.toArray } : Obj) = o at ha
  -- what is tracked at the entry: the script alone, or nothing
  suffices core : ∀ H : Hp, (∀ b u, H b = some u → b = a ∧ u = .frz o (.lst (ns.map V.int))) → (H a ≠ none → K.lookup a = none) → ((∃ o, H = scriptH a o (ns.map V.int)) ∨ (H = (fun _ => none) ∧ KL K a (ns.map V.int))) →
      codeAny (model P w) callerA (.call (.ref fa) ⟨[.ref a], []⟩) (fun r s' => r = .ok (.ret (.bool true)) ∧ OldK s₁.heap s'.heap ∧ s'.os = s₁.os ∧ AllBare s'.gens) s₁ by
    cases hk : K.lookup a with
    | none =>
      refine core (scriptH a o (ns.map V.int)) (fun b u e => ?_) (fun _ => hk) (.inl ⟨o, rfl⟩)
      by_cases hb : b = a
      · subst hb; exact ⟨rfl, (Option.some.inj ((if_pos rfl).symm.trans e)).symm⟩
      · exact absurd ((if_neg hb).symm.trans e) (by simp)
    | some ob =>
      have e := KX a ob hk
      rw [ha] at e
      cases e
      subst ho
      exact core (fun _ => none) (fun b u e => by cases e) (fun z => absurd rfl z) (.inr ⟨rfl, _, vs.toArray, _, hk, rfl, rfl, rfl, by rw [List.size_toArray, lenV]; exact hl, by simpa using rv⟩)
  intro H hH hka hcase
  have Hn : ∀ {b}, b ≠ a → H b = none := fun {b} hb => by
    cases q : H b with
    | none => rfl
    | some u => exact absurd (hH b u q).1 hb
  have hok : HOk P w H s₁.heap := fun b u z => by
    obtain ⟨rfl, rfl⟩ := hH b u z
    exact ⟨ha, by rw [List.length_map]; exact hl, vs, _, rv, by rw [ha, ← ho]⟩
  have away : ∀ {b : Addr} {ob : Obj} {es : Array DictEntry} {ep : Nat}, s₁.heap.get? b = some ob → ob.data = .dict es ep → H b = none := fun {b ob es ep} e d => Hn fun hb => by
    subst hb; rw [ha] at e; cases e; rw [← ho] at d; cases d
  have nsK : ∀ {b : Addr} {m : Str → Option Value}, s₁.heap.Ns b m → (hidT s₁.heap H).Ns b m := fun {b m} ⟨ob, es, ep, e, d, r⟩ => ⟨ob, es, ep, hidT_get e (away e d), d, r⟩
  have kb : K.In (hidT s₁.heap H) := fun b ob e => hidT_get (KX b ob e) (by
    cases q : H b with
    | none => rfl
    | some u =>
      obtain ⟨rfl, _⟩ := hH b u q
      rw [hka (by rw [q]; simp)] at e; cases e)
  have md : Mod K mg (hidT s₁.heap H) := ⟨kb, nsK hns, ⟨mb, nsK hb, hbb⟩, let ⟨mc, h1, h2⟩ := hlim; ⟨mc, nsK h1, h2⟩⟩
  have e0 : Env0 P w K mg (hidT s₁.heap H) callerA [] s₁ H := ⟨rfl, md, fun b ob e => of_hidT e, Nat.le_of_eq (hidT_size _ _), trivial, fun b hb => absurd (show b ∈ ([] : List Addr) from hb) (by simp), hok, AllBare.of_eq hg⟩
  refine codeAny_mono ((F _ kb (nsK hns)).run callerA [] s₁ H ⟨[.ref a], []⟩ [.ref a] [.ref a] _ _ rfl hr e0 (hbind s₁ (.ref a)) (.cons rfl .nil) (hsp H hcase)) fun r s' h => ?_
  match r, h with
  | .error e, h => exact (hCX H e s' h).elim
  | .ok (.ret u), ⟨v, H', os, bare, un, hok', r', q⟩ =>
    have q : v = .bl true := q
    subst q
    cases r'
    refine ⟨rfl, OldK.of_keep fun b ob e => ?_, os, bare⟩
    cases q : H b with
    | none => exact un.keep b ob e q (fun z => absurd (show b ∈ ([] : List Addr) from z) (by simp)) (by simp)
    | some u =>
      obtain ⟨rfl, rfl⟩ := hH b u q
      obtain ⟨e2, _⟩ := hok' b _ (un.frzs b o _ q)
      rw [ha] at e; cases e
      exact e2
/-- the walk of a law row: its def's promise, told once for the module's written part and names -/
theorem walkG {l : PySem.W.OpenLaw} {n k : Nat} {q : Program} {loose : List Str} {XP : (Str → Option Value) → Heap → Prop} {YP : World → Heap → Prop} {d : DefRec} {K : Params → PySem.W.Frag} {CX : World → CXT} {sp : World → (Str → Option Value) → Sp} {x : Str}
    (hn : l.most = some n) (hn2 : n ≤ sizeLine) (hdf : d.params.defaults = []) (hr : Room k callerA) (hY : ∀ (w : World) (h : Heap), YP w h → (K w.params).In h)
    (F : ∀ (w : World) (mg : Str → Option Value) (fa : Addr) (h : Heap), (K w.params).In h → h.Ns mainGlobals mg → mg d.name = some (.ref fa) →
      ∃ fd : FuncData, (∀ (s : Shared) (u : Value), BindsTo s fd ⟨[u], []⟩ [(x, u)]) ∧
        ∀ base : Heap, (K w.params).In base → base.Ns mainGlobals mg → FnG l.prog w (K w.params) mg base (CX w) k fa fd [x] (sp w mg))
    (hsp : ∀ (w : World) (mg : Str → Option Value) (H : Hp) (a : Addr) (ns : List Int), ns.length ≤ n → ((∃ o, H = scriptH a o (ns.map V.int)) ∨ (H = (fun _ => none) ∧ KL (K w.params) a (ns.map V.int))) → sp w mg [.ref a] H (fun v _ => v = .bl true) fun _ _ _ => False)
    (hCX : ∀ (w : World) (H : Hp) (s : Shared) (e : Value) (s' : Shared), CX w [] H s (fun _ _ _ => False) e s' → False) :
    PySem.W.WalkO q loose XP YP l.row.toRowW d [] (fun f vs => PySem.call f vs) :=
  Att.attach_call hn hdf fun w s₀ s₁ mg mb fa o pm cd doc a vs ns G Y ho hd hcd hmg hobj hints hlen hg => by
    have KX := hY w _ Y
    obtain ⟨fd, hb, hF⟩ := F w mg fa _ KX G.T.g hmg
    exact law_callG KX G.T.g G.T.b G.T.builtins G.T.nolimit hg hobj hints (Nat.le_trans hlen hn2) hr hF hb (fun H h => hsp w mg H a ns hlen h) fun H e s' => hCX w H s₁ e s'
end CL
end

section
/-! part CLCtl -/
set_option Elab.async false
set_option linter.all false
set_option maxRecDepth 100000
/-! CLCtl: readings by denotations; names, operators, tests, calls, statements, loops. -/
namespace CL
open PySem PySem.Spec PyProof.Rows L2

section
variable (K : PySem.W.Frag) (mg : Str → Option Value) (E : XK)
/-- what is wanted of an exception -/
def XR (x : XV) (H : Hp) (φ : Fi) : Prop :=
  ∀ (C : Addr), mg x.cls = some (.ref C) → (x.fs = [] → E (.ref C) none H) ∧
    ∀ (a : Addr) (vs : List V), H a = some (.xd ((x.fs.map (·.1)).zip vs)) → RDs K H φ (x.fs.map (·.2)) vs → E (.ref C) (some a) H
def oE (φ : Fi) (H : Hp) (Q : VK) : RE W → Prop
  | .ok w S' => ∀ φ' H' v, Ext φ H φ' H' → SR K H' φ' S' → RW K H' φ' mg w v → Q v H'
  | .xc x S' => ∀ φ' H', Ext φ H φ' H' → SR K H' φ' S' → XR K mg E x H' φ'
def oT (φ : Fi) (H : Hp) (Q : Bool → Hp → Prop) : RE Bool → Prop
  | .ok w S' => ∀ φ' H', Ext φ H φ' H' → SR K H' φ' S' → Q w H'
  | .xc x S' => ∀ φ' H', Ext φ H φ' H' → SR K H' φ' S' → XR K mg E x H' φ'
def oA (φ : Fi) (H : Hp) (Q : List V → Hp → Prop) : RE (List W) → Prop
  | .ok ws S' => ∀ φ' H' vs, Ext φ H φ' H' → SR K H' φ' S' → RWs K H' φ' mg ws vs → Q vs H'
  | .xc x S' => ∀ φ' H', Ext φ H φ' H' → SR K H' φ' S' → XR K mg E x H' φ'
def tE (d : DE) : TE := fun σV H Q => ∃ φ σ S r, SR K H φ S ∧ ER K H φ mg σV σ ∧ d σ S = some r ∧ oE K mg E φ H Q r
def tT (d : DT) : TT := fun σV H Q => ∃ φ σ S r, SR K H φ S ∧ ER K H φ mg σV σ ∧ d σ S = some r ∧ oT K mg E φ H Q r
def tA (d : DA) : TA := fun σV H Q => ∃ φ σ S r, SR K H φ S ∧ ER K H φ mg σV σ ∧ d σ S = some r ∧ oA K mg E φ H Q r
def oS (φ : Fi) (H : Hp) (D : Ends) : Out → Prop
  | .nx σ' S' => ∀ φ' H' σV', Ext φ H φ' H' → SR K H' φ' S' → ER K H' φ' mg σV' σ' → D.nx σV' H'
  | .rt w S' => ∀ φ' H' v, Ext φ H φ' H' → SR K H' φ' S' → RW K H' φ' mg w v → D.rt v H'
  | .bk σ' S' => ∀ φ' H' σV', Ext φ H φ' H' → SR K H' φ' S' → ER K H' φ' mg σV' σ' → D.bk σV' H'
  | .ct σ' S' => ∀ φ' H' σV', Ext φ H φ' H' → SR K H' φ' S' → ER K H' φ' mg σV' σ' → D.ct σV' H'
  | .xc x S' => ∀ φ' H', Ext φ H φ' H' → SR K H' φ' S' → XR K mg E x H' φ'
def tS (d : DS) : TS := fun D σV H => ∃ φ σ S o, SR K H φ S ∧ ER K H φ mg σV σ ∧ d σ S = some o ∧ oS K mg E φ H D o
/-- a two-place operation -/
def rO (g : So → W → W → Option W) : R2 := fun v1 v2 H Q => ∃ φ S x y w, SR K H φ S ∧ RW K H φ mg x v1 ∧ RW K H φ mg y v2 ∧ g S x y = some w ∧
  ∀ φ' H' v, Ext φ H φ' H' → SR K H' φ' S → RW K H' φ' mg w v → Q v H'
def rU1 (g : So → W → Option W) : V → Hp → VK → Prop := fun v1 H Q => ∃ φ S x w, SR K H φ S ∧ RW K H φ mg x v1 ∧ g S x = some w ∧
  ∀ φ' H' v, Ext φ H φ' H' → SR K H' φ' S → RW K H' φ' mg w v → Q v H'
def rC (g : So → List W → Option W) : List V → Hp → VK → Prop := fun vs H Q => ∃ φ S ws w, SR K H φ S ∧ RWs K H φ mg ws vs ∧ g S ws = some w ∧
  ∀ φ' H' v, Ext φ H φ' H' → SR K H' φ' S → RW K H' φ' mg w v → Q v H'
/-- a method, which may write -/
def rM (g : So → W → List W → Option (W × So)) : V → List V → Hp → VK → Prop := fun v1 vs H Q => ∃ φ S x ws w S', SR K H φ S ∧ RW K H φ mg x v1 ∧ RWs K H φ mg ws vs ∧ g S x ws = some (w, S') ∧
  ∀ φ' H' v, Ext φ H φ' H' → SR K H' φ' S' → RW K H' φ' mg w v → Q v H'
/-- a def's promise -/
def spF (F : DF) : Sp := fun vs H Q E => ∃ φ S ws r, SR K H φ S ∧ RWs K H φ mg ws vs ∧ F ws S = some r ∧ oE K mg E φ H Q r
end
abbrev SE (X : Cx) (E : XK) (e : Expr) (d : DE) : Prop := PE X e (tE X.K X.mg E d)
abbrev ST (X : Cx) (E : XK) (e : Expr) (d : DT) : Prop := PT X e (tT X.K X.mg E d)
abbrev SA (X : Cx) (E : XK) (es : List Expr) (d : DA) : Prop := PA X es (tA X.K X.mg E d)
abbrev SS (X : Cx) (E : XK) (s : Stmt) (d : DS) : Prop := PS X s (tS X.K X.mg E d)
abbrev SSs (X : Cx) (E : XK) (ss : List Stmt) (d : DS) : Prop := PSs X ss (tS X.K X.mg E d)

section
variable {X : Cx} {E : XK} {pos p : Pos}
theorem PEw {e : Expr} {t t' : TE} (h : PE X e t) (k : ∀ σ H Q, t' σ H Q → t σ H Q) : PE X e t' := ⟨fun pins s σ H Q I q => h.run pins s σ H Q I (k σ H Q q)⟩
theorem PTw {e : Expr} {t t' : TT} (h : PT X e t) (k : ∀ σ H Q, t' σ H Q → t σ H Q) : PT X e t' := ⟨fun pins s σ H Q I q => h.run pins s σ H Q I (k σ H Q q)⟩
theorem PWw {e : Expr} {t t' : TT} (h : PW X e t) (k : ∀ σ H Q, t' σ H Q → t σ H Q) : PW X e t' := ⟨fun wh pins s σ H Q I q => h.run wh pins s σ H Q I (k σ H Q q)⟩
theorem PAw {e : List Expr} {t t' : TA} (h : PA X e t) (k : ∀ σ H Q, t' σ H Q → t σ H Q) : PA X e t' := ⟨fun ps pins s σ H Q I q => h.run ps pins s σ H Q I (k σ H Q q)⟩
theorem PSw {e : Stmt} {t t' : TS} (h : PS X e t) (k : ∀ D σ H, t' D σ H → t D σ H) : PS X e t' := ⟨fun pins s σ H D I q => h.run pins s σ H D I (k D σ H q)⟩
theorem PSsw {e : List Stmt} {t t' : TS} (h : PSs X e t) (k : ∀ D σ H, t' D σ H → t D σ H) : PSs X e t' := ⟨fun pins s σ H D I q => h.run pins s σ H D I (k D σ H q)⟩

/-! ### names, constants -/
def dVar (i : Nat) : DE := fun σ S => match σ[i]? with
  | some (some w) => some (.ok w S)
  | _ => none
def dC (x : PyData) : DE := fun _ S => some (.ok (.d x) S)
def dG (x : Str) : DE := fun _ S => some (.ok (.g x) S)
theorem e_var (i : Nat) {x : Str} (hN : X.N[i]? = some x := by rfl) (hv : Vis X.env.scope x := by first | exact Or.inl rfl | exact Or.inr (Or.inl rfl) | exact Or.inr (Or.inr rfl)) (hd : (x == ("__debug__" : Str)) = false := by decide)
    (hcd : (x == ("__classdict__" : Str)) = false := by decide) : SE X E (.Name x p) (dVar i) := by
  refine PEw (pe_var hN hv hd hcd) fun σV H Q h => ?_
  obtain ⟨φ, σ, S, r, hs, he, hd, hq⟩ := h
  unfold dVar at hd
  split at hd
  · rename_i w hw
    cases hd
    obtain ⟨v, h1, h2⟩ := he.at_ i w hw
    exact ⟨v, h1, hq φ H v .refl hs h2⟩
  · cases hd
theorem e_c {e : Expr} {v : V} {x : PyData} (h : PE X e (tC v)) (hx : ∀ H φ, RD X.K H φ x v) : SE X E e (dC x) :=
  PEw h fun σV H Q ⟨φ, σ, S, r, hs, he, hd, hq⟩ => by cases hd; exact hq φ H v .refl hs (hx H φ)
theorem e_int {i j} : SE X E (.Constant (.int i) j p) (dC (.int i)) := e_c pe_int fun _ _ => rfl
theorem e_bl {b j} : SE X E (.Constant (.bool b) j p) (dC (.bool b)) := e_c pe_bl fun _ _ => rfl
theorem e_non {j} : SE X E (.Constant .none j p) (dC .none) := e_c pe_non fun _ _ => rfl
theorem e_str {x j} : SE X E (.Constant (.str x) j p) (dC (.str x)) := e_c pe_str fun _ _ => rfl
/-- a constant of the module -/
theorem e_glob {x : Str} {v : V} {u : Value} {c : PyData} (hm : X.mg x = some u) (hr : RelV v u) (hx : ∀ H φ, RD X.K H φ c v) (hg : Gl X x := by rfl) (hd : (x == ("__debug__" : Str)) = false := by decide) : SE X E (.Name x p) (dC c) :=
  e_c (pe_glob hg hm hr hd) hx
/-- a def of the module, as a value -/
theorem e_def {x : Str} {f : Addr} (hm : X.mg x = some (.ref f)) (hg : Gl X x := by rfl) (hd : (x == ("__debug__" : Str)) = false := by decide) : SE X E (.Name x p) (dG x) :=
  PEw (pe_glob (v := .ref f) hg hm rfl hd) fun σV H Q ⟨φ, σ, S, r, hs, he, hd, hq⟩ => by cases hd; exact hq φ H _ .refl hs ⟨f, hm, rfl⟩

/-! ### operators -/
def dBin (g : So → W → W → Option W) (a b : DE) : DE := fun σ S => bnd (a σ S) fun x S1 => bnd (b σ S1) fun y S2 => giv (g S2 x y) S2
def dUn (g : So → W → Option W) (a : DE) : DE := fun σ S => bnd (a σ S) fun x S1 => giv (g S1 x) S1
variable {a b c : Expr} {da db dc : DE}
theorem XR.keep {x : XV} {H H1 : Hp} {φ φ1 : Fi} {S : So} (e : Ext φ H φ1 H1)
    (h : ∀ φ' H', Ext φ H φ' H' → SR X.K H' φ' S → XR X.K X.mg E x H' φ') : ∀ φ' H', Ext φ1 H1 φ' H' → SR X.K H' φ' S → XR X.K X.mg E x H' φ' := fun φ' H' e' s => h φ' H' (e.trans e') s
theorem bin_rd {g : So → W → W → Option W} {r : R2} (hr : ∀ v1 v2 H Q, rO X.K X.mg g v1 v2 H Q → r v1 v2 H Q) (σV : L2.St) (H : Hp) (Q : VK) (h : tE X.K X.mg E (dBin g da db) σV H Q) : tOp r (tE X.K X.mg E da) (tE X.K X.mg E db) σV H Q := by
  obtain ⟨φ, σ, S, r', hs, he, hd, hq⟩ := h
  unfold dBin at hd
  match ha : da σ S, hd with
  | none, hd => cases hd
  | some (.xc x S1), hd =>
    cases hd
    exact ⟨φ, σ, S, .xc x S1, hs, he, ha, hq⟩
  | some (.ok x S1), hd =>
    refine ⟨φ, σ, S, .ok x S1, hs, he, ha, fun φ1 H1 v1 e1 s1 x1 => ?_⟩
    rw [bnd_ok] at hd
    match hb : db σ S1, hd with
    | none, hd => cases hd
    | some (.xc y S2), hd =>
      cases hd
      exact ⟨φ1, σ, S1, .xc y S2, s1, he.mono e1, hb, XR.keep e1 hq⟩
    | some (.ok y S2), hd =>
      refine ⟨φ1, σ, S1, .ok y S2, s1, he.mono e1, hb, fun φ2 H2 v2 e2 s2 y2 => hr _ _ _ _ ?_⟩
      rw [bnd_ok] at hd
      match hg : g S2 x y, hd with
      | none, hd => cases hd
      | some w, hd =>
        cases hd
        exact ⟨φ2, S2, x, y, w, s2, x1.mono e2, y2, hg, fun φ' H' v e' => hq φ' H' v ((e1.trans e2).trans e')⟩
theorem e_bin {op : Operator} {g : So → W → W → Option W} (ho : OpR X (binaryOp op) (rO X.K X.mg g)) (ha : SE X E a da) (hb : SE X E b db) : SE X E (.BinOp a op b pos) (dBin g da db) :=
  PEw (pe_op ho ha hb) fun σV H Q h => bin_rd (fun _ _ _ _ q => q) σV H Q h
theorem e_cmp {op : CmpOp} {g : So → W → W → Option W} (ho : OpR X (compareOp op) (rO X.K X.mg g)) (ha : SE X E a da) (hb : SE X E b db) (hm : behindInMarks op b = false := by first | exact nomark _ | rfl) : SE X E (.Compare a [op] [b] pos) (dBin g da db) :=
  PEw (pe_cmpR ho ha hb hm) fun σV H Q h => bin_rd (fun _ _ _ _ q => q) σV H Q h
theorem un_rd {g : So → W → Option W} (σV : L2.St) (H : Hp) (Q : VK) (h : tE X.K X.mg E (dUn g da) σV H Q) : tUn (rU1 X.K X.mg g) (tE X.K X.mg E da) σV H Q := by
  obtain ⟨φ, σ, S, r', hs, he, hd, hq⟩ := h
  unfold dUn at hd
  match ha : da σ S, hd with
  | none, hd => cases hd
  | some (.xc x S1), hd =>
    cases hd
    exact ⟨φ, σ, S, .xc x S1, hs, he, ha, hq⟩
  | some (.ok x S1), hd =>
    refine ⟨φ, σ, S, .ok x S1, hs, he, ha, fun φ1 H1 v1 e1 s1 x1 => ?_⟩
    rw [bnd_ok] at hd
    match hg : g S1 x, hd with
    | none, hd => cases hd
    | some w, hd =>
      cases hd
      exact ⟨φ1, S1, x, w, s1, x1, hg, fun φ' H' v e' => hq φ' H' v (e1.trans e')⟩
theorem e_un {op : UnaryOp} {g : So → W → Option W} (ho : UnR X (unaryOp op) (rU1 X.K X.mg g)) (ha : SE X E a da) : SE X E (.UnaryOp op a pos) (dUn g da) :=
  PEw (pe_un ho ha) un_rd

/-! ### tests -/
def bOf : W → Option Bool
  | .d (.bool b) => some b
  | _ => none
@[simp] theorem bOf_b (b : Bool) : bOf (.d (.bool b)) = some b := rfl
/-- a value that is a bool, as a test -/
def dB (d : DE) : DT := fun σ S => bnd (d σ S) fun w S1 => giv (bOf w) S1
theorem bOf_eq {w : W} {b : Bool} (h : bOf w = some b) : w = .d (.bool b) := by
  unfold bOf at h; split at h
  · cases h; rfl
  · cases h
theorem b_rd (σV : L2.St) (H : Hp) (Q : Bool → Hp → Prop) (h : tT X.K X.mg E (dB da) σV H Q) : tE X.K X.mg E da σV H fun x H' => ∃ k, x = .bl k ∧ Q k H' := by
  obtain ⟨φ, σ, S, r', hs, he, hd, hq⟩ := h
  unfold dB at hd
  match ha : da σ S, hd with
  | none, hd => cases hd
  | some (.xc x S1), hd => cases hd; exact ⟨φ, σ, S, .xc x S1, hs, he, ha, hq⟩
  | some (.ok x S1), hd =>
    refine ⟨φ, σ, S, .ok x S1, hs, he, ha, fun φ1 H1 v1 e1 s1 x1 => ?_⟩
    rw [bnd_ok] at hd
    match hg : bOf x, hd with
    | none, hd => cases hd
    | some k, hd =>
      cases hd
      rw [bOf_eq hg] at x1
      exact ⟨k, x1, hq φ1 H1 e1 s1⟩
theorem t_cmp {op : CmpOp} {g : So → W → W → Option W} (ho : OpR X (compareOp op) (rO X.K X.mg g)) (ha : SE X E a da) (hb : SE X E b db) (hm : behindInMarks op b = false := by first | exact nomark _ | rfl) : ST X E (.Compare a [op] [b] pos) (dB (dBin g da db)) := by
  refine PTw (pt_cmpR ho ha hb hm) fun σV H Q h => ?_
  have h1 := b_rd σV H Q h
  exact bin_rd (fun _ _ _ _ q => q) σV H _ h1
theorem t_val {e : Expr} {d : DE} (h : SE X E e d) (he : ∀ whole, isTrue e X.env whole = (do let v ← whole; standAt e.pos; holding [v] (truthy v)) := by intro _; rfl) : ST X E e (dB d) :=
  PTw (pt_val h he) fun σV H Q q => b_rd σV H Q q
/-- the truth of any value -/
def rd (S : So) : W → Option PyData
  | .d x => some x
  | .r n => match S[n]? with
    | some (.lst xs) => some (.list xs)
    | _ => none
  | .g _ => none
  | .s xs => some (.list xs)
@[simp] theorem rd_d (S : So) (x : PyData) : rd S (.d x) = some x := rfl
def truD : PyData → Option Bool
  | .none => some false
  | .bool b => some b
  | .int i => some (i != 0)
  | .list xs => some (!xs.isEmpty)
  | .tuple xs => some (!xs.isEmpty)
  | _ => none
def dTr (d : DE) : DT := fun σ S => bnd (d σ S) fun w S1 => giv ((rd S1 w).bind truD) S1
theorem RDs.isEmpty {K : PySem.W.Frag} {H : Hp} {φ : Fi} {ds : List PyData} {vs : List V} (h : RDs K H φ ds vs) : ds.isEmpty = vs.isEmpty := by
  cases ds with
  | nil => cases h; rfl
  | cons d ds => obtain ⟨v, r, e, _⟩ := h; subst e; rfl
theorem seqL_of {K : PySem.W.Frag} {mg : Str → Option Value} {H : Hp} {φ : Fi} {S : So} {w : W} {v : V} {ds : List PyData} (hs : SR K H φ S) (h : RW K H φ mg w v) (e : rd S w = some (.list ds)) : ∃ a vs, v = .ref a ∧ SqL K H a vs ∧ RDs K H φ ds vs := by
  cases w with
  | d x => cases e; obtain ⟨a, vs, e1, h1, h2⟩ := h; exact ⟨a, vs, e1, h1.sq, h2⟩
  | r n =>
    obtain ⟨a, h1, e1⟩ := h
    obtain ⟨o, h2, h3⟩ := hs.get h1
    unfold rd at e
    simp only [h2] at e
    cases o with
    | lst xs => cases e; obtain ⟨vs, q1, q2⟩ := h3; exact ⟨a, vs, e1, .of q1, q2⟩
    | dk _ => cases e
    | dt _ => cases e
    | lkK _ => cases e
    | lkT _ => cases e
  | g x => cases e
  | s xs => cases e; obtain ⟨a, vs, e1, h1, h2⟩ := h; exact ⟨a, vs, e1, h1.elim (fun q => q.sq) fun q => .inr q, h2⟩
theorem tup_of {K : PySem.W.Frag} {mg : Str → Option Value} {H : Hp} {φ : Fi} {S : So} {w : W} {v : V} {ds : List PyData} (h : RW K H φ mg w v) (e : rd S w = some (.tuple ds)) : ∃ a vs, v = .ref a ∧ TP K H a vs ∧ RDs K H φ ds vs := by
  cases w with
  | d x => cases e; exact h
  | r n =>
    unfold rd at e
    dsimp only at e
    split at e <;> cases e
  | g x => cases e
  | s xs => cases e
theorem seqT_of {K : PySem.W.Frag} {mg : Str → Option Value} {H : Hp} {φ : Fi} {S : So} {w : W} {v : V} {ds : List PyData} (h : RW K H φ mg w v) (e : rd S w = some (.tuple ds)) : ∃ a vs, v = .ref a ∧ SqT K H a vs ∧ RDs K H φ ds vs := by
  obtain ⟨a, vs, e1, h1, h2⟩ := tup_of h e
  exact ⟨a, vs, e1, h1.sq, h2⟩
theorem dp_of {K : PySem.W.Frag} {mg : Str → Option Value} {H : Hp} {φ : Fi} {S : So} {w : W} {v : V} {d : PyData} (hs : SR K H φ S) (h : RW K H φ mg w v) (e : rd S w = some d) : Dp K H v d := by
  cases w with
  | d x => cases e; exact RD.dp _ _ h
  | r n =>
    cases d with
    | list ds =>
      obtain ⟨a, vs, e1, h1, h2⟩ := seqL_of hs h e
      subst e1
      exact .lst h1 (RDs.dp _ _ h2)
    | _ =>
      unfold rd at e
      dsimp only at e
      split at e <;> cases e
  | g x => cases e
  | s xs =>
    cases e
    obtain ⟨a, vs, e1, h1, h2⟩ := h
    subst e1
    exact .lst (h1.elim (fun q => q.sq) fun q => .inr q) (RDs.dp _ _ h2)
theorem rd_eq {S : So} {w : W} {x : PyData} (h : rd S w = some x) (hl : ∀ ds, x ≠ .list ds) : w = .d x := by
  cases w with
  | d y => cases h; rfl
  | r n =>
    unfold rd at h
    dsimp only at h
    split at h
    · cases h; exact absurd rfl (hl _)
    · cases h
  | g _ => cases h
  | s xs => cases h; exact absurd rfl (hl _)
theorem t_tru {e : Expr} {d : DE} (h : SE X E e d) (he : ∀ whole, isTrue e X.env whole = (do let v ← whole; standAt e.pos; holding [v] (truthy v)) := by intro _; rfl) : ST X E e (dTr d) := by
  refine PTw (pt_truth h he) fun σV H Q q => ?_
  obtain ⟨φ, σ, S, r', hs, hen, hd, hq⟩ := q
  unfold dTr at hd
  match ha : d σ S, hd with
  | none, hd => cases hd
  | some (.xc x S1), hd => cases hd; exact ⟨φ, σ, S, .xc x S1, hs, hen, ha, hq⟩
  | some (.ok x S1), hd =>
    refine ⟨φ, σ, S, .ok x S1, hs, hen, ha, fun φ1 H1 v1 e1 s1 x1 => ?_⟩
    rw [bnd_ok] at hd
    match hg : (rd S1 x).bind truD, hd with
    | none, hd => cases hd
    | some k, hd =>
      cases hd
      refine ⟨k, ?_, hq φ1 H1 e1 s1⟩
      obtain ⟨y, hy, ht⟩ := Option.bind_eq_some_iff.mp hg
      cases y with
      | none => rw [rd_eq hy (by simp)] at x1; cases x1; cases ht; rfl
      | bool b => rw [rd_eq hy (by simp)] at x1; cases x1; cases ht; rfl
      | int i => rw [rd_eq hy (by simp)] at x1; cases x1; cases ht; rfl
      | str _ => cases ht
      | list ds =>
        obtain ⟨a, vs, e2, h1, h2⟩ := seqL_of s1 x1 hy
        subst e2; cases ht
        exact .inl ⟨vs, h1, by rw [RDs.isEmpty h2]⟩
      | tuple ds =>
        obtain ⟨a, vs, e2, h1, h2⟩ := seqT_of x1 hy
        subst e2; cases ht
        exact .inr (.inl ⟨vs, h1, by rw [RDs.isEmpty h2]⟩)
      | dict _ => cases ht
def dAndT (a b : DT) : DT := fun σ S => bnd (a σ S) fun k S1 => if k = true then b σ S1 else some (.ok false S1)
def dOrT (a b : DT) : DT := fun σ S => bnd (a σ S) fun k S1 => if k = true then some (.ok true S1) else b σ S1
def dNotT (a : DT) : DT := fun σ S => bnd (a σ S) fun k S1 => some (.ok (!k) S1)
variable {ta tb : DT} {es : List Expr}
theorem t_and1 (ha : ST X E a ta) : PW X (.BoolOp .And [a] pos) (tT X.K X.mg E ta) := pw_and1 ha
theorem t_or1 (ha : ST X E a ta) : PW X (.BoolOp .Or [a] pos) (tT X.K X.mg E ta) := pw_or1 ha
theorem t_and (ha : ST X E a ta) (hb : PW X (.BoolOp .And (b :: es) pos) (tT X.K X.mg E tb)) : PW X (.BoolOp .And (a :: b :: es) pos) (tT X.K X.mg E (dAndT ta tb)) := by
  refine PWw (pw_and ha hb) fun σV H Q q => ?_
  obtain ⟨φ, σ, S, r', hs, he, hd, hq⟩ := q
  unfold dAndT at hd
  match ha : ta σ S, hd with
  | none, hd => cases hd
  | some (.xc x S1), hd => cases hd; exact ⟨φ, σ, S, .xc x S1, hs, he, ha, hq⟩
  | some (.ok true S1), hd =>
    refine ⟨φ, σ, S, .ok true S1, hs, he, ha, fun φ1 H1 e1 s1 => ?_⟩
    refine iteT ?_
    simp only [bnd_ok, if_true] at hd
    refine ⟨φ1, σ, S1, r', s1, he.mono e1, hd, ?_⟩
    cases r' with
    | ok k S2 => exact fun φ' H' e' => hq φ' H' (e1.trans e')
    | xc x S2 => exact XR.keep e1 hq
  | some (.ok false S1), hd =>
    refine ⟨φ, σ, S, .ok false S1, hs, he, ha, fun φ1 H1 e1 s1 => ?_⟩
    cases hd
    exact hq φ1 H1 e1 s1
theorem t_or (ha : ST X E a ta) (hb : PW X (.BoolOp .Or (b :: es) pos) (tT X.K X.mg E tb)) : PW X (.BoolOp .Or (a :: b :: es) pos) (tT X.K X.mg E (dOrT ta tb)) := by
  refine PWw (pw_or ha hb) fun σV H Q q => ?_
  obtain ⟨φ, σ, S, r', hs, he, hd, hq⟩ := q
  unfold dOrT at hd
  match ha : ta σ S, hd with
  | none, hd => cases hd
  | some (.xc x S1), hd => cases hd; exact ⟨φ, σ, S, .xc x S1, hs, he, ha, hq⟩
  | some (.ok false S1), hd =>
    refine ⟨φ, σ, S, .ok false S1, hs, he, ha, fun φ1 H1 e1 s1 => ?_⟩
    refine iteF ?_
    simp only [bnd_ok, if_neg Bool.false_ne_true] at hd
    refine ⟨φ1, σ, S1, r', s1, he.mono e1, hd, ?_⟩
    cases r' with
    | ok k S2 => exact fun φ' H' e' => hq φ' H' (e1.trans e')
    | xc x S2 => exact XR.keep e1 hq
  | some (.ok true S1), hd =>
    refine ⟨φ, σ, S, .ok true S1, hs, he, ha, fun φ1 H1 e1 s1 => ?_⟩
    cases hd
    exact hq φ1 H1 e1 s1
theorem t_not (ha : ST X E a ta) : ST X E (.UnaryOp .Not a pos) (dNotT ta) := by
  refine PTw (pt_not ha) fun σV H Q q => ?_
  obtain ⟨φ, σ, S, r', hs, he, hd, hq⟩ := q
  unfold dNotT at hd
  match ha : ta σ S, hd with
  | none, hd => cases hd
  | some (.xc x S1), hd => cases hd; exact ⟨φ, σ, S, .xc x S1, hs, he, ha, hq⟩
  | some (.ok k S1), hd =>
    cases hd
    exact ⟨φ, σ, S, .ok k S1, hs, he, ha, fun φ1 H1 e1 s1 => hq φ1 H1 e1 s1⟩
/-- and, or, not as values: all but the last are bools -/
def dAnd (a b : DE) : DE := fun σ S => bnd (a σ S) fun x S1 => match bOf x with
  | some true => b σ S1
  | some false => some (.ok (.d (.bool false)) S1)
  | none => none
def dOr (a b : DE) : DE := fun σ S => bnd (a σ S) fun x S1 => match bOf x with
  | some true => some (.ok (.d (.bool true)) S1)
  | some false => b σ S1
  | none => none
theorem tE_ext {d : DE} {φ φ1 : Fi} {H H1 : Hp} {σ : En} {σV : L2.St} {S1 : So} {r : RE W} {Q : VK} (e1 : Ext φ H φ1 H1) (s1 : SR X.K H1 φ1 S1) (he : ER X.K H φ X.mg σV σ) (hd : d σ S1 = some r)
    (hq : oE X.K X.mg E φ H Q r) : tE X.K X.mg E d σV H1 Q := by
  refine ⟨φ1, σ, S1, r, s1, he.mono e1, hd, ?_⟩
  cases r with
  | ok k S2 => exact fun φ' H' v e' => hq φ' H' v (e1.trans e')
  | xc x S2 => exact XR.keep e1 hq
theorem e_one {op} {d : DE} (h : SE X E a d) : SE X E (.BoolOp op [a] pos) d := pe_one h
theorem e_and (ha : SE X E a da) (hb : SE X E (.BoolOp .And (b :: es) pos) db) : SE X E (.BoolOp .And (a :: b :: es) pos) (dAnd da db) := by
  refine PEw (pe_and ha hb) fun σV H Q q => ?_
  obtain ⟨φ, σ, S, r', hs, he, hd, hq⟩ := q
  unfold dAnd at hd
  match ha : da σ S, hd with
  | none, hd => cases hd
  | some (.xc x S1), hd => cases hd; exact ⟨φ, σ, S, .xc x S1, hs, he, ha, hq⟩
  | some (.ok x S1), hd =>
    refine ⟨φ, σ, S, .ok x S1, hs, he, ha, fun φ1 H1 v1 e1 s1 x1 => ?_⟩
    rw [bnd_ok] at hd
    match hg : bOf x, hd with
    | none, hd => cases hd
    | some true, hd =>
      rw [bOf_eq hg] at x1
      refine ⟨true, x1, ?_⟩
      refine iteT ?_
      exact tE_ext e1 s1 he hd hq
    | some false, hd =>
      rw [bOf_eq hg] at x1
      refine ⟨false, x1, ?_⟩
      refine iteF ?_
      cases hd
      exact hq φ1 H1 _ e1 s1 rfl
theorem e_or (ha : SE X E a da) (hb : SE X E (.BoolOp .Or (b :: es) pos) db) : SE X E (.BoolOp .Or (a :: b :: es) pos) (dOr da db) := by
  refine PEw (pe_or ha hb) fun σV H Q q => ?_
  obtain ⟨φ, σ, S, r', hs, he, hd, hq⟩ := q
  unfold dOr at hd
  match ha : da σ S, hd with
  | none, hd => cases hd
  | some (.xc x S1), hd => cases hd; exact ⟨φ, σ, S, .xc x S1, hs, he, ha, hq⟩
  | some (.ok x S1), hd =>
    refine ⟨φ, σ, S, .ok x S1, hs, he, ha, fun φ1 H1 v1 e1 s1 x1 => ?_⟩
    rw [bnd_ok] at hd
    match hg : bOf x, hd with
    | none, hd => cases hd
    | some false, hd =>
      rw [bOf_eq hg] at x1
      refine ⟨false, x1, ?_⟩
      refine iteF ?_
      exact tE_ext e1 s1 he hd hq
    | some true, hd =>
      rw [bOf_eq hg] at x1
      refine ⟨true, x1, ?_⟩
      refine iteT ?_
      cases hd
      exact hq φ1 H1 _ e1 s1 rfl
def dNot (a : DE) : DE := fun σ S => bnd (a σ S) fun x S1 => giv ((bOf x).map fun b => .d (.bool (!b))) S1
theorem e_not (ha : SE X E a da) : SE X E (.UnaryOp .Not a pos) (dNot da) := by
  refine PEw (pe_not ha) fun σV H Q q => ?_
  obtain ⟨φ, σ, S, r', hs, he, hd, hq⟩ := q
  unfold dNot at hd
  match ha : da σ S, hd with
  | none, hd => cases hd
  | some (.xc x S1), hd => cases hd; exact ⟨φ, σ, S, .xc x S1, hs, he, ha, hq⟩
  | some (.ok x S1), hd =>
    refine ⟨φ, σ, S, .ok x S1, hs, he, ha, fun φ1 H1 v1 e1 s1 x1 => ?_⟩
    rw [bnd_ok] at hd
    match hg : bOf x, hd with
    | none, hd => cases hd
    | some k, hd =>
      rw [bOf_eq hg] at x1
      cases hd
      exact ⟨k, x1, hq φ1 H1 _ e1 s1 rfl⟩
def dIf (t : DT) (a b : DE) : DE := fun σ S => bnd (t σ S) fun k S1 => if k = true then a σ S1 else b σ S1
theorem e_if {t : Expr} (ht : ST X E t ta) (ha : SE X E a da) (hb : SE X E b db) : SE X E (.IfExp t a b pos) (dIf ta da db) := by
  refine PEw (pe_ifExp ht ha hb) fun σV H Q q => ?_
  obtain ⟨φ, σ, S, r', hs, he, hd, hq⟩ := q
  unfold dIf at hd
  match ha : ta σ S, hd with
  | none, hd => cases hd
  | some (.xc x S1), hd => cases hd; exact ⟨φ, σ, S, .xc x S1, hs, he, ha, hq⟩
  | some (.ok true S1), hd =>
    refine ⟨φ, σ, S, .ok true S1, hs, he, ha, fun φ1 H1 e1 s1 => ?_⟩
    refine iteT ?_
    exact tE_ext e1 s1 he (by simpa using hd) hq
  | some (.ok false S1), hd =>
    refine ⟨φ, σ, S, .ok false S1, hs, he, ha, fun φ1 H1 e1 s1 => ?_⟩
    refine iteF ?_
    exact tE_ext e1 s1 he (by simpa using hd) hq

/-! ### arguments -/
def dNil : DA := fun _ S => some (.ok [] S)
def dCons (a : DE) (r : DA) : DA := fun σ S => bnd (a σ S) fun x S1 => bnd (r σ S1) fun xs S2 => some (.ok (x :: xs) S2)
theorem a_nil : SA X E [] dNil := PAw pa_nil fun σV H Q ⟨φ, σ, S, r, hs, he, hd, hq⟩ => by cases hd; exact hq φ H [] .refl hs rfl
theorem a_cons {dr : DA} (ha : SE X E a da) (hr : SA X E es dr) (hs : starEach (a :: es) X.env = (false, eval a X.env) :: starEach es X.env := by rfl) : SA X E (a :: es) (dCons da dr) := by
  refine PAw (pa_cons ha hr hs) fun σV H Q q => ?_
  obtain ⟨φ, σ, S, r', hs, he, hd, hq⟩ := q
  unfold dCons at hd
  match ha : da σ S, hd with
  | none, hd => cases hd
  | some (.xc x S1), hd => cases hd; exact ⟨φ, σ, S, .xc x S1, hs, he, ha, hq⟩
  | some (.ok x S1), hd =>
    refine ⟨φ, σ, S, .ok x S1, hs, he, ha, fun φ1 H1 v1 e1 s1 x1 => ?_⟩
    rw [bnd_ok] at hd
    match hb : dr σ S1, hd with
    | none, hd => cases hd
    | some (.xc y S2), hd =>
      cases hd
      exact ⟨φ1, σ, S1, .xc y S2, s1, he.mono e1, hb, XR.keep e1 hq⟩
    | some (.ok xs S2), hd =>
      cases hd
      exact ⟨φ1, σ, S1, .ok xs S2, s1, he.mono e1, hb, fun φ2 H2 vs e2 s2 y2 => hq φ2 H2 (v1 :: vs) (e1.trans e2) s2 ⟨v1, vs, rfl, x1.mono e2, y2⟩⟩
/-- a call of a built-in -/
def dCall (g : So → List W → Option W) (as : DA) : DE := fun σ S => bnd (as σ S) fun ws S1 => giv (g S1 ws) S1
theorem call_rd {g : So → List W → Option W} {das : DA} (σV : L2.St) (H : Hp) (Q : VK) (h : tE X.K X.mg E (dCall g das) σV H Q) : tCB (rC X.K X.mg g) (tA X.K X.mg E das) σV H Q := by
  obtain ⟨φ, σ, S, r', hs, he, hd, hq⟩ := h
  unfold dCall at hd
  match ha : das σ S, hd with
  | none, hd => cases hd
  | some (.xc x S1), hd => cases hd; exact ⟨φ, σ, S, .xc x S1, hs, he, ha, hq⟩
  | some (.ok ws S1), hd =>
    refine ⟨φ, σ, S, .ok ws S1, hs, he, ha, fun φ1 H1 vs e1 s1 x1 => ?_⟩
    rw [bnd_ok] at hd
    match hg : g S1 ws, hd with
    | none, hd => cases hd
    | some w, hd =>
      cases hd
      exact ⟨φ1, S1, ws, w, s1, x1, hg, fun φ' H' v e' => hq φ' H' v (e1.trans e')⟩
variable {x : Str} {das : DA}
theorem e_callB {id : String} {g : So → List W → Option W} (hc : CallR X (.builtin id) (rC X.K X.mg g)) (hm : X.mg x = none) (ha : SA X E (a :: es) das) (hg : Gl X x := by rfl) (hv : bootBuiltins x = some (.builtin id) := by decide +kernel) (hn : x ≠ "__name__" := by decide) (hdb : (x == ("__debug__" : Str)) = false := by decide)
    (he : starEach (a :: es) X.env = (false, eval a X.env) :: starEach es X.env := by rfl) (hpl : (backTo pos (starEach es X.env)).any (·.1) = false := by rfl) : SE X E (.Call (.Name x p) (a :: es) [] pos) (dCall g das) :=
  PEw (pe_callB hc hg hm hv ha hn hdb he hpl) call_rd
theorem e_callTy {T : String} {g : So → List W → Option W} (hc : CallR X (.type T) (rC X.K X.mg g)) (hm : X.mg x = none) (ha : SA X E (a :: es) das) (hg : Gl X x := by rfl) (hv : bootBuiltins x = some (.type T) := by decide +kernel) (hn : x ≠ "__name__" := by decide) (hdb : (x == ("__debug__" : Str)) = false := by decide)
    (he : starEach (a :: es) X.env = (false, eval a X.env) :: starEach es X.env := by rfl) (hpl : (backTo pos (starEach es X.env)).any (·.1) = false := by rfl) : SE X E (.Call (.Name x p) (a :: es) [] pos) (dCall g das) :=
  PEw (pe_callTy hc hg hm hv ha hn hdb he hpl) call_rd
/-- a call of a def -/
def dFn (F : DF) (as : DA) : DE := fun σ S => bnd (as σ S) fun ws S1 => F ws S1
theorem fn_rd {F : DF} (σV : L2.St) (H : Hp) (Q : VK) (h : tE X.K X.mg E (dFn F das) σV H Q) : tCall (spF X.K X.mg F) [] E (tA X.K X.mg E das) σV H Q := by
  obtain ⟨φ, σ, S, r', hs, he, hd, hq⟩ := h
  unfold dFn at hd
  match ha : das σ S, hd with
  | none, hd => cases hd
  | some (.xc x S1), hd => cases hd; exact ⟨φ, σ, S, .xc x S1, hs, he, ha, hq⟩
  | some (.ok ws S1), hd =>
    refine ⟨φ, σ, S, .ok ws S1, hs, he, ha, fun φ1 H1 vs e1 s1 x1 => ?_⟩
    rw [bnd_ok] at hd
    refine ⟨φ1, S1, ws, r', s1, by rw [List.append_nil]; exact x1, hd, ?_⟩
    cases r' with
    | ok w S2 => exact fun φ' H' v e' => hq φ' H' v (e1.trans e')
    | xc x S2 => exact XR.keep e1 hq
variable {CX : CXT} {k : Nat} {f : Addr} {fd : FuncData} {ps : List Str} {F : DF}
theorem e_fn (hF : FnG X.prog X.w X.K X.mg X.base CX k f fd ps (spF X.K X.mg F)) (hgd : X.A.guards = some []) (hr : Room k X.A) (hm : X.mg x = some (.ref f)) (hk : PySem.W.keepIn X.K (.ref f) = true) (hb : Binds X.K fd ps []) (hx : Passes CX X E)
    (ha : SA X E (a :: es) das) (hg : Gl X x := by rfl) (hdb : (x == ("__debug__" : Str)) = false := by decide) (he : starEach (a :: es) X.env = (false, eval a X.env) :: starEach es X.env := by rfl) (hpl : (backTo pos (starEach es X.env)).any (·.1) = false := by rfl) :
    SE X E (.Call (.Name x p) (a :: es) [] pos) (dFn F das) := PEw (pe_fnG hF hgd hr hg hm hk hb .nil hx ha hdb he hpl) fn_rd
theorem e_fn0 (hF : FnG X.prog X.w X.K X.mg X.base CX k f fd ps (spF X.K X.mg F)) (hgd : X.A.guards = some []) (hr : Room k X.A) (hm : X.mg x = some (.ref f)) (hk : PySem.W.keepIn X.K (.ref f) = true) (hb : Binds X.K fd ps []) (hx : Passes CX X E)
    (hg : Gl X x := by rfl) (hdb : (x == ("__debug__" : Str)) = false := by decide) : SE X E (.Call (.Name x p) [] [] pos) (dFn F dNil) :=
  PEw (pe_fnG0 hF hgd hr hg hm hk hb .nil hx hdb) fun σV H Q h => by
    obtain ⟨φ, σ, S, r', hs, he, hd, hq⟩ := h
    exact ⟨φ, S, [], r', hs, rfl, hd, hq⟩
/-- a def that a local name holds: its function is looked up by its name -/
def dHeld (i : Nat) (T : Str → Option DF) (as : DA) : DE := fun σ S => match σ[i]? with
  | some (some (.g x)) => match T x with
    | some F => bnd (as σ S) fun ws S1 => F ws S1
    | none => none
  | _ => none
theorem e_held (i : Nat) {T : Str → Option DF} (hT : ∀ x F, T x = some F → ∃ f, X.mg x = some (.ref f) ∧ HeldG X CX k f (spF X.K X.mg F)) (hinj : ∀ x y f, (T x).isSome = true → (T y).isSome = true → X.mg x = some (.ref f) → X.mg y = some (.ref f) → x = y)
    (hgd : X.A.guards = some []) (hr : Room k X.A) (hx : Passes CX X E) (ha : SA X E (a :: es) das) (hN : X.N[i]? = some x := by rfl) (hv : Vis X.env.scope x := by first | exact Or.inl rfl | exact Or.inr (Or.inl rfl) | exact Or.inr (Or.inr rfl))
    (hdb : (x == ("__debug__" : Str)) = false := by decide) (hcd : (x == ("__classdict__" : Str)) = false := by decide) (he : starEach (a :: es) X.env = (false, eval a X.env) :: starEach es X.env := by rfl) (hpl : (backTo pos (starEach es X.env)).any (·.1) = false := by rfl) :
    SE X E (.Call (.Name x p) (a :: es) [] pos) (dHeld i T das) := by
  classical
  let S : Addr → Option Sp := fun f => if h : ∃ y F, T y = some F ∧ X.mg y = some (.ref f) then some (spF X.K X.mg (Classical.choose (Classical.choose_spec h))) else none
  have hS : ∀ f sp, S f = some sp → HeldG X CX k f sp := fun f sp h => by
    by_cases hh : ∃ y F, T y = some F ∧ X.mg y = some (.ref f)
    · simp only [S, dif_pos hh] at h
      cases h
      obtain ⟨h1, h2⟩ := Classical.choose_spec (Classical.choose_spec hh)
      obtain ⟨g, h3, h4⟩ := hT _ _ h1
      rw [h2] at h3
      cases h3
      exact h4
    · simp only [S, dif_neg hh] at h; cases h
  refine PEw (pe_heldG (S := S) (i := i) hS hgd hr hN hv hx ha hdb hcd he hpl) fun σV H Q q => ?_
  obtain ⟨φ, σ, S', r', hs, hen, hd, hq⟩ := q
  unfold dHeld at hd
  split at hd
  · rename_i y hy
    split at hd
    · rename_i F hF
      obtain ⟨v, h1, f, h2, h3⟩ := hen.at_ i _ hy
      subst h3
      have hh : ∃ y F, T y = some F ∧ X.mg y = some (.ref f) := ⟨y, F, hF, h2⟩
      have hSf : S f = some (spF X.K X.mg F) := by
        simp only [S, dif_pos hh]
        obtain ⟨q1, q2⟩ := Classical.choose_spec (Classical.choose_spec hh)
        have e := hinj _ y f (by rw [q1]; rfl) (by rw [hF]; rfl) q2 h2
        have e2 : T (Classical.choose hh) = some F := by rw [e]; exact hF
        rw [q1] at e2
        rw [Option.some.inj e2]
      refine ⟨f, _, h1, hSf, ?_⟩
      have := fn_rd (X := X) (E := E) (F := F) (das := das) σV H Q ⟨φ, σ, S', r', hs, hen, hd, hq⟩
      obtain ⟨φ0, σ0, S0, r0, a1, a2, a3, a4⟩ := this
      refine ⟨φ0, σ0, S0, r0, a1, a2, a3, ?_⟩
      cases r0 with
      | ok ws S2 =>
        intro φ' H' vs e s' x'
        have h : spF X.K X.mg F (vs ++ []) H' Q E := a4 φ' H' vs e s' x'
        rw [List.append_nil] at h
        exact h
      | xc y S2 => exact a4
    · cases hd
  · cases hd
/-- o.m(..) of a built-in type, which may write -/
def dMt (g : So → W → List W → Option (W × So)) (o : DE) (as : DA) : DE := fun σ S => bnd (o σ S) fun x S1 => bnd (as σ S1) fun ws S2 => match g S2 x ws with
  | some (w, S3) => some (.ok w S3)
  | none => none
end
end CL
end

section
/-! part CLStm -/
set_option Elab.async false
set_option linter.all false
set_option maxRecDepth 100000
/-! CLStm: statements, loops, comprehensions, new objects, defs. -/
namespace CL
open PySem PySem.Spec PyProof.Rows L2

def bndS {α : Type} (m : M α) (f : α → So → Option Out) : Option Out := match m with
  | none => none
  | some (.xc x S) => some (.xc x S)
  | some (.ok a S) => f a S
@[simp] theorem bndS_ok {α : Type} (a : α) (S : So) (f : α → So → Option Out) : bndS (some (.ok a S)) f = f a S := rfl
@[simp] theorem bndS_none {α : Type} (f : α → So → Option Out) : bndS none f = none := rfl
@[simp] theorem bndS_xc {α : Type} (x : XV) (S : So) (f : α → So → Option Out) : bndS (some (.xc x S)) f = some (.xc x S) := rfl

section
variable {X : Cx} {E : XK} {pos p : Pos} {e : Expr} {d : DE} {st : Stmt} {sts : List Stmt} {ds es : DS}
theorem oS_keep {φ φ1 : Fi} {H H1 : Hp} {D : Ends} {o : Out} (e1 : Ext φ H φ1 H1) (h : oS X.K X.mg E φ H D o) : oS X.K X.mg E φ1 H1 D o := by
  cases o with
  | nx σ S => exact fun φ' H' σV e' => h φ' H' σV (e1.trans e')
  | rt w S => exact fun φ' H' σV e' => h φ' H' σV (e1.trans e')
  | bk σ S => exact fun φ' H' σV e' => h φ' H' σV (e1.trans e')
  | ct σ S => exact fun φ' H' σV e' => h φ' H' σV (e1.trans e')
  | xc x S => exact XR.keep e1 h
theorem tS_ext {φ φ1 : Fi} {H H1 : Hp} {σ : En} {σV : L2.St} {S1 : So} {o : Out} {D : Ends} (e1 : Ext φ H φ1 H1) (s1 : SR X.K H1 φ1 S1) (he : ER X.K H1 φ1 X.mg σV σ) (hd : ds σ S1 = some o)
    (hq : oS X.K X.mg E φ H D o) : tS X.K X.mg E ds D σV H1 := ⟨φ1, σ, S1, o, s1, he, hd, oS_keep e1 hq⟩

/-! ### blocks -/
def sNil : DS := fun σ S => some (.nx σ S)
def sCons (a b : DS) : DS := fun σ S => match a σ S with
  | some (.nx σ1 S1) => b σ1 S1
  | o => o
theorem ss_nil : SSs X E [] sNil := PSsw pss_nil fun D σV H ⟨φ, σ, S, o, hs, he, hd, hq⟩ => by cases hd; exact hq φ H σV .refl hs he
theorem ss_cons (h1 : SS X E st ds) (h2 : SSs X E sts es) : SSs X E (st :: sts) (sCons ds es) := by
  refine PSsw (pss_cons h1 h2) fun D σV H q => ?_
  obtain ⟨φ, σ, S, o, hs, he, hd, hq⟩ := q
  unfold sCons at hd
  match ha : ds σ S, hd with
  | none, hd => cases hd
  | some (.nx σ1 S1), hd => exact ⟨φ, σ, S, .nx σ1 S1, hs, he, ha, fun φ1 H1 σV1 e1 s1 r1 => tS_ext e1 s1 r1 hd hq⟩
  | some (.rt w S1), hd => cases hd; exact ⟨φ, σ, S, .rt w S1, hs, he, ha, hq⟩
  | some (.bk w S1), hd => cases hd; exact ⟨φ, σ, S, .bk w S1, hs, he, ha, hq⟩
  | some (.ct w S1), hd => cases hd; exact ⟨φ, σ, S, .ct w S1, hs, he, ha, hq⟩
  | some (.xc w S1), hd => cases hd; exact ⟨φ, σ, S, .xc w S1, hs, he, ha, hq⟩
theorem ss_one (h1 : SS X E st ds) : SSs X E [st] ds := pss_one h1
/-- x = e -/
def sSet (i : Nat) (d : DE) : DS := fun σ S => bndS (d σ S) fun w S1 => some (.nx (σ.set i (some w)) S1)
theorem s_set (i : Nat) {x : Str} {pos' : Pos} (hN : X.N.Nodup) (he : SE X E e d) (hi : X.N[i]? = some x := by rfl) (hx : Loc X.env.scope x := by first | exact Or.inl rfl | exact Or.inr rfl) (hs : swapsWith e (some (.Name x pos')) pos.line X.env = pure false := by rfl)
    (hf : X.fn x = true ∨ X.env.scope.names.lookup x = some .local := by first | exact .inl rfl | exact .inr rfl) : SS X E (.Assign [.Name x pos'] e pos) (sSet i d) := by
  refine PSw (ps_set hN hi hx he hs hf) fun D σV H q => ?_
  obtain ⟨φ, σ, S, o, hs, hen, hd, hq⟩ := q
  unfold sSet at hd
  match ha : d σ S, hd with
  | none, hd => cases hd
  | some (.xc x S1), hd => cases hd; exact ⟨φ, σ, S, .xc x S1, hs, hen, ha, hq⟩
  | some (.ok w S1), hd =>
    cases hd
    exact ⟨φ, σ, S, .ok w S1, hs, hen, ha, fun φ1 H1 v e1 s1 x1 => hq φ1 H1 _ e1 s1 ((hen.mono e1).set x1)⟩
def sDrop (d : DE) : DS := fun σ S => bndS (d σ S) fun _ S1 => some (.nx σ S1)
theorem s_expr (he : SE X E e d) (hs : swapsWith e none pos.line X.env = pure false := by rfl) : SS X E (.Expr e pos) (sDrop d) := by
  refine PSw (ps_expr he hs) fun D σV H q => ?_
  obtain ⟨φ, σ, S, o, hs, hen, hd, hq⟩ := q
  unfold sDrop at hd
  match ha : d σ S, hd with
  | none, hd => cases hd
  | some (.xc x S1), hd => cases hd; exact ⟨φ, σ, S, .xc x S1, hs, hen, ha, hq⟩
  | some (.ok w S1), hd =>
    cases hd
    exact ⟨φ, σ, S, .ok w S1, hs, hen, ha, fun φ1 H1 v e1 s1 x1 => hq φ1 H1 _ e1 s1 (hen.mono e1)⟩
def sRet (d : DE) : DS := fun σ S => bndS (d σ S) fun w S1 => some (.rt w S1)
theorem s_ret (he : SE X E e d) : SS X E (.Return (some e) pos) (sRet d) := by
  refine PSw (ps_ret he) fun D σV H q => ?_
  obtain ⟨φ, σ, S, o, hs, hen, hd, hq⟩ := q
  unfold sRet at hd
  match ha : d σ S, hd with
  | none, hd => cases hd
  | some (.xc x S1), hd => cases hd; exact ⟨φ, σ, S, .xc x S1, hs, hen, ha, hq⟩
  | some (.ok w S1), hd => cases hd; exact ⟨φ, σ, S, .ok w S1, hs, hen, ha, hq⟩
def sIf (t : DT) (a b : DS) : DS := fun σ S => bndS (t σ S) fun k S1 => if k = true then a σ S1 else b σ S1
theorem s_if {c : Expr} {a b : List Stmt} {dt : DT} {da db : DS} (ht : ST X E c dt) (ha : SSs X E a da) (hb : SSs X E b db) : SS X E (.If c a b pos) (sIf dt da db) := by
  refine PSw (ps_if ht ha hb) fun D σV H q => ?_
  obtain ⟨φ, σ, S, o, hs, hen, hd, hq⟩ := q
  unfold sIf at hd
  match ha : dt σ S, hd with
  | none, hd => cases hd
  | some (.xc x S1), hd => cases hd; exact ⟨φ, σ, S, .xc x S1, hs, hen, ha, hq⟩
  | some (.ok true S1), hd =>
    exact ⟨φ, σ, S, .ok true S1, hs, hen, ha, fun φ1 H1 e1 s1 => iteT (tS_ext e1 s1 (hen.mono e1) (by simpa using hd) hq)⟩
  | some (.ok false S1), hd =>
    exact ⟨φ, σ, S, .ok false S1, hs, hen, ha, fun φ1 H1 e1 s1 => iteF (tS_ext e1 s1 (hen.mono e1) (by simpa using hd) hq)⟩
def sNever : DS := fun _ _ => none
theorem s_never : SS X E st sNever := PSw ps_never fun D σV H ⟨φ, σ, S, o, hs, he, hd, hq⟩ => by cases hd
def sPass : DS := fun σ S => some (.nx σ S)
theorem s_pass : SS X E (.Pass pos) sPass := PSw ps_pass fun D σV H ⟨φ, σ, S, o, hs, he, hd, hq⟩ => by cases hd; exact hq φ H σV .refl hs he
def sBreak : DS := fun σ S => some (.bk σ S)
theorem s_break : SS X E (.Break pos) sBreak := PSw ps_break fun D σV H ⟨φ, σ, S, o, hs, he, hd, hq⟩ => by cases hd; exact hq φ H σV .refl hs he
def sCont : DS := fun σ S => some (.ct σ S)
theorem s_continue : SS X E (.Continue pos) sCont := PSw ps_continue fun D σV H ⟨φ, σ, S, o, hs, he, hd, hq⟩ => by cases hd; exact hq φ H σV .refl hs he

/-! ### targets -/
/-- a name in slot i, or a tuple of names -/
inductive Tg where
  | nm (i : Nat)
  | tp (is : List Nat)
def setW : En → List Nat → List W → Option En
  | σ, [], [] => some σ
  | σ, i :: is, w :: ws => setW (σ.set i (some w)) is ws
  | _, _, _ => none
def setV : L2.St → List Nat → List V → L2.St
  | σ, i :: is, v :: vs => setV (σ.set i (some v)) is vs
  | σ, _, _ => σ
def bindT : Tg → W → En → Option En
  | .nm i, w, σ => some (σ.set i (some w))
  | .tp is, .d (.tuple ds), σ => setW σ is (ds.map W.d)
  | _, _, _ => none
/-- a target's reading: how the slots change is told -/
def gT (K : PySem.W.Frag) : Tg → TG
  | .nm i => gName i
  | .tp is => fun v σ H Q => ∃ a xs, v = .ref a ∧ SqT K H a xs ∧ xs.length = is.length ∧ Q (setV σ is xs) H
theorem g_nm (i : Nat) {x : Str} (hN : X.N.Nodup) (hi : X.N[i]? = some x := by rfl) (hx : Loc X.env.scope x := by first | exact Or.inl rfl | exact Or.inr rfl) (hf : X.fn x = true ∨ X.env.scope.names.lookup x = some .local := by first | exact .inl rfl | exact .inr rfl) : PG X (.Name x pos) (gT X.K (.nm i)) := pg_name hN hi hx hf
structure PGw (X : Cx) (ts : List Expr) (is : List Nat) : Prop where
  run : ∃ t, PGs X ts t ∧ ∀ vs σ H Q, vs.length = is.length → Q (setV σ is vs) H → t vs σ H Q
theorem g_nil : PGw X [] [] := ⟨_, pgs_nil, fun vs σ H Q hl h => by cases vs with
  | nil => exact ⟨rfl, h⟩
  | cons _ _ => cases hl⟩
theorem g_cons {ts : List Expr} {is : List Nat} (i : Nat) {x : Str} (hN : X.N.Nodup) (h : PGw X ts is) (hi : X.N[i]? = some x := by rfl) (hx : Loc X.env.scope x := by first | exact Or.inl rfl | exact Or.inr rfl)
    (hf : X.fn x = true ∨ X.env.scope.names.lookup x = some .local := by first | exact .inl rfl | exact .inr rfl) (hs : (assignEach (.Name x pos :: ts) X.env).map (·.2) = assign (.Name x pos) X.env :: (assignEach ts X.env).map (·.2) := by rfl) : PGw X (.Name x pos :: ts) (i :: is) := by
  obtain ⟨t, h1, h2⟩ := h.run
  refine ⟨_, pgs_cons (pg_name hN hi hx hf) h1 hs, fun vs σ H Q hl q => ?_⟩
  cases vs with
  | nil => cases hl
  | cons v vs => exact ⟨v, vs, rfl, h2 vs _ H Q (by simpa using hl) q⟩
theorem PGweak {tg : Expr} {t t' : TG} (h : PG X tg t) (k : ∀ v σ H Q, t' v σ H Q → t v σ H Q) : PG X tg t' := ⟨fun pins s σ H v u Q I r q => h.run pins s σ H v u Q I r (k v σ H Q q)⟩
theorem g_tp {ts : List Expr} {is : List Nat} {k : Nat} (h : PGw X ts is) (hc : X.calm = true := by rfl) (hn : (assignEach ts X.env).length = is.length := by rfl) (hst : (assignEach ts X.env).findIdx? (·.1) = none := by rfl) : PG X (.Tuple ts k pos) (gT X.K (.tp is)) := by
  obtain ⟨t, h1, h2⟩ := h.run
  refine PGweak (pg_tup hc h1 hn hst) fun v σ H Q q => ?_
  obtain ⟨a, xs, e1, hq, hl, q⟩ := q
  exact ⟨a, xs, e1, hq, hl, h2 xs σ H Q hl q⟩
section
variable {K : PySem.W.Frag} {mg : Str → Option Value} {H : Hp} {φ : Fi}
theorem setW_er : ∀ {is : List Nat} {ds : List PyData} {vs : List V} {σ σ' : En} {σV : L2.St}, ER K H φ mg σV σ → RDs K H φ ds vs → setW σ is (ds.map W.d) = some σ' → ER K H φ mg (setV σV is vs) σ' ∧ vs.length = is.length
  | [], [], _, _, _, _, he, h, q => by cases h; cases q; exact ⟨he, rfl⟩
  | [], _ :: _, _, _, _, _, _, _, q => by cases q
  | _ :: _, [], _, _, _, _, _, _, q => by cases q
  | i :: is, d :: ds, _, σ, σ', σV, he, ⟨v, r, e, h, t⟩, q => by
    subst e
    obtain ⟨h1, h2⟩ := setW_er (he.set (w := .d d) h) t q
    exact ⟨h1, by simp [h2]⟩
theorem gT_ok {tg : Tg} {w : W} {v : V} {σ σ' : En} {σV : L2.St} {Q : L2.St → Hp → Prop} (he : ER K H φ mg σV σ) (hw : RW K H φ mg w v) (hb : bindT tg w σ = some σ')
    (q : ∀ σV', ER K H φ mg σV' σ' → Q σV' H) : gT K tg v σV H Q := by
  cases tg with
  | nm i => cases hb; exact q _ (he.set hw)
  | tp is =>
    cases w with
    | d x =>
      cases x with
      | tuple ds =>
        obtain ⟨a, vs, e1, h1, h2⟩ := hw
        obtain ⟨h3, h4⟩ := setW_er he h2 hb
        exact ⟨a, vs, e1, h1.sq, h4, q _ h3⟩
      | _ => cases hb
    | _ => cases hb
end
/-- target = e -/
def sAsg (tg : Tg) (d : DE) : DS := fun σ S => bndS (d σ S) fun w S1 => (bindT tg w σ).map fun σ1 => .nx σ1 S1
theorem s_asg {tg : Tg} {t : Expr} (he : SE X E e d) (hg : PG X t (gT X.K tg)) (hs : swapsWithSole [t] e pos.line X.env = pure false := by rfl) (hw : swappedStores [t] e X.env = pure none := by rfl)
    (h1 : (assignEach [t] X.env).map (·.2) = [assign t X.env] := by rfl) : SS X E (.Assign [t] e pos) (sAsg tg d) := by
  refine PSw (ps_asg he hg hs hw h1) fun D σV H q => ?_
  obtain ⟨φ, σ, S, o, hs, hen, hd, hq⟩ := q
  unfold sAsg at hd
  match ha : d σ S, hd with
  | none, hd => cases hd
  | some (.xc x S1), hd => cases hd; exact ⟨φ, σ, S, .xc x S1, hs, hen, ha, hq⟩
  | some (.ok w S1), hd =>
    rw [bndS_ok] at hd
    match hb : bindT tg w σ, hd with
    | none, hd => cases hd
    | some σ1, hd =>
      cases hd
      exact ⟨φ, σ, S, .ok w S1, hs, hen, ha, fun φ1 H1 v e1 s1 x1 => gT_ok (hen.mono e1) x1 hb fun σV' h => hq φ1 H1 σV' e1 s1 h⟩
/-- a, b = x, y: both sides written -/
def sPar (is : List Nat) (as : DA) : DS := fun σ S => bndS (as σ S) fun ws S1 => (setW σ is ws).map fun σ1 => .nx σ1 S1
theorem setW_erW : ∀ {K : PySem.W.Frag} {mg : Str → Option Value} {H : Hp} {φ : Fi} {is : List Nat} {ws : List W} {vs : List V} {σ σ' : En} {σV : L2.St}, ER K H φ mg σV σ → RWs K H φ mg ws vs → setW σ is ws = some σ' → ER K H φ mg (setV σV is vs) σ' ∧ vs.length = is.length
  | _, _, _, _, [], [], _, _, _, _, he, h, q => by cases h; cases q; exact ⟨he, rfl⟩
  | _, _, _, _, [], _ :: _, _, _, _, _, _, _, q => by cases q
  | _, _, _, _, _ :: _, [], _, _, _, _, _, _, q => by cases q
  | _, _, _, _, i :: is, w :: ws, _, σ, σ', σV, he, ⟨v, r, e, h, t⟩, q => by
    subst e
    obtain ⟨h1, h2⟩ := setW_erW (he.set h) t q
    exact ⟨h1, by simp [h2]⟩
/-- .. by the model's swap of two plain local names -/
theorem s_par2 (i j : Nat) {x y : Str} {a b : Expr} {das : DA} {px py pt : Pos} {kt k2 pt2} (hN : X.N.Nodup) (ha : SA X E [a, b] das) (hi : X.N[i]? = some x := by rfl) (hj : X.N[j]? = some y := by rfl) (hij : i ≠ j := by decide)
    (hx : X.env.scope.names.lookup x = some .local := by rfl) (hy : X.env.scope.names.lookup y = some .local := by rfl) (hc : X.calm = true := by rfl)
    (hw : swappedStores [.Tuple [.Name x px, .Name y py] kt pt] (.Tuple [a, b] k2 pt2) X.env = pure (some [x, y]) := by rfl)
    (hs : swapsWithSole [.Tuple [.Name x px, .Name y py] kt pt] (.Tuple [a, b] k2 pt2) pos.line X.env = pure false := by rfl) :
    SS X E (.Assign [.Tuple [.Name x px, .Name y py] kt pt] (.Tuple [a, b] k2 pt2) pos) (sPar [i, j] das) := by
  refine PSw (ps_par hc hN hi hj hij hx hy ha hw hs) fun D σV H q => ?_
  obtain ⟨φ, σ, S, o, hs, hen, hd, hq⟩ := q
  unfold sPar at hd
  match ha : das σ S, hd with
  | none, hd => cases hd
  | some (.xc x S1), hd => cases hd; exact ⟨φ, σ, S, .xc x S1, hs, hen, ha, hq⟩
  | some (.ok ws S1), hd =>
    rw [bndS_ok] at hd
    match hb : setW σ [i, j] ws, hd with
    | none, hd => cases hd
    | some σ1, hd =>
      cases hd
      refine ⟨φ, σ, S, .ok ws S1, hs, hen, ha, fun φ1 H1 vs e1 s1 x1 => ?_⟩
      obtain ⟨h1, h2⟩ := setW_erW (hen.mono e1) x1 hb
      match vs, h2 with
      | [v, w], _ => exact ⟨v, w, rfl, hq φ1 H1 _ e1 s1 h1⟩
/-- .. by a tuple made and taken apart -/
theorem s_parT {ts as : List Expr} {is : List Nat} {das : DA} {kt k2 : Nat} {pt pt2 : Pos} (hg : PGw X ts is) (ha : SA X E as das) (hsz : is.length ≤ 1000 := by decide) (hc : X.calm = true := by rfl) (hn : (assignEach ts X.env).length = is.length := by rfl) (hst : (assignEach ts X.env).findIdx? (·.1) = none := by rfl)
    (hs : swapsWithSole [.Tuple ts kt pt] (.Tuple as k2 pt2) pos.line X.env = pure false := by rfl) (hw : swappedStores [.Tuple ts kt pt] (.Tuple as k2 pt2) X.env = pure none := by rfl)
    (h1 : (assignEach [.Tuple ts kt pt] X.env).map (·.2) = [assign (.Tuple ts kt pt) X.env] := by rfl) : SS X E (.Assign [.Tuple ts kt pt] (.Tuple as k2 pt2) pos) (sPar is das) := by
  refine PSw (ps_asg (pe_tup ha) (g_tp hg hc hn hst) hs hw h1) fun D σV H q => ?_
  obtain ⟨φ, σ, S, o, hs, hen, hd, hq⟩ := q
  unfold sPar at hd
  match ha : das σ S, hd with
  | none, hd => cases hd
  | some (.xc x S1), hd => cases hd; exact ⟨φ, σ, S, .xc x S1, hs, hen, ha, hq⟩
  | some (.ok ws S1), hd =>
    rw [bndS_ok] at hd
    match hb : setW σ is ws, hd with
    | none, hd => cases hd
    | some σ1, hd =>
      cases hd
      refine ⟨φ, σ, S, .ok ws S1, hs, hen, ha, fun φ1 H1 vs e1 s1 x1 => ?_⟩
      obtain ⟨h1, h2⟩ := setW_erW (hen.mono e1) x1 hb
      refine ⟨?_, fun p hp => ⟨p, vs, rfl, .of upd_same, h2, ?_⟩⟩
      · rw [h2, sizeLine_eq]; omega
      · have e2 := Ext.new (o := .tup vs) hp s1
        exact hq φ1 _ _ (e1.trans e2) (s1.new hp) (h1.mono e2)

/-! ### what is walked -/
mutual
def eqD : PyData → PyData → Bool
  | .none, .none => true
  | .bool a, .bool b => a == b
  | .int a, .int b => a == b
  | .str a, .str b => a == b
  | .list xs, .list ys => eqDs xs ys
  | .tuple xs, .tuple ys => eqDs xs ys
  | _, _ => false
def eqDs : List PyData → List PyData → Bool
  | [], [] => true
  | x :: xs, y :: ys => eqD x y && eqDs xs ys
  | _, _ => false
end
mutual
theorem eqD_eq : ∀ (x y : PyData), eqD x y = true → x = y
  | .none, .none, _ => rfl
  | .bool a, .bool b, h => by simp [eqD] at h; rw [h]
  | .int a, .int b, h => by simp [eqD] at h; rw [h]
  | .str a, .str b, h => by simp [eqD] at h; rw [h]
  | .list xs, .list ys, h => by rw [eqDs_eq xs ys (by simpa [eqD] using h)]
  | .tuple xs, .tuple ys, h => by rw [eqDs_eq xs ys (by simpa [eqD] using h)]
  | .none, .bool _, h | .none, .int _, h | .none, .str _, h | .none, .list _, h | .none, .tuple _, h | .none, .dict _, h => by simp [eqD] at h
  | .bool _, .none, h | .bool _, .int _, h | .bool _, .str _, h | .bool _, .list _, h | .bool _, .tuple _, h | .bool _, .dict _, h => by simp [eqD] at h
  | .int _, .none, h | .int _, .bool _, h | .int _, .str _, h | .int _, .list _, h | .int _, .tuple _, h | .int _, .dict _, h => by simp [eqD] at h
  | .str _, .none, h | .str _, .bool _, h | .str _, .int _, h | .str _, .list _, h | .str _, .tuple _, h | .str _, .dict _, h => by simp [eqD] at h
  | .list _, .none, h | .list _, .bool _, h | .list _, .int _, h | .list _, .str _, h | .list _, .tuple _, h | .list _, .dict _, h => by simp [eqD] at h
  | .tuple _, .none, h | .tuple _, .bool _, h | .tuple _, .int _, h | .tuple _, .str _, h | .tuple _, .list _, h | .tuple _, .dict _, h => by simp [eqD] at h
  | .dict _, .none, h | .dict _, .bool _, h | .dict _, .int _, h | .dict _, .str _, h | .dict _, .list _, h | .dict _, .tuple _, h | .dict _, .dict _, h => by simp [eqD] at h
theorem eqDs_eq : ∀ (x y : List PyData), eqDs x y = true → x = y
  | [], [], _ => rfl
  | x :: xs, y :: ys, h => by
    simp [eqDs] at h
    rw [eqD_eq x y h.1, eqDs_eq xs ys h.2]
  | [], _ :: _, h => by simp [eqDs] at h
  | _ :: _, [], h => by simp [eqDs] at h
end
mutual
def plD : PyData → Bool
  | .dict _ => false
  | .list xs => plDs xs
  | .tuple xs => plDs xs
  | _ => true
def plDs : List PyData → Bool
  | [] => true
  | x :: xs => plD x && plDs xs
end
mutual
theorem eqD_refl : ∀ x : PyData, plD x = true → eqD x x = true
  | .none, _ => rfl
  | .bool _, _ => by simp [eqD]
  | .int _, _ => by simp [eqD]
  | .str _, _ => by simp [eqD]
  | .list xs, h => eqDs_refl xs h
  | .tuple xs, h => eqDs_refl xs h
  | .dict _, h => by cases h
theorem eqDs_refl : ∀ xs : List PyData, plDs xs = true → eqDs xs xs = true
  | [], _ => rfl
  | x :: xs, h => by
    simp [plDs] at h
    simp [eqDs, eqD_refl x h.1, eqDs_refl xs h.2]
end
/-- the items, and the object of the store that is walked, if it is one -/
abbrev DI := En → So → M (List PyData × Option Nat)
def keepB (o : Option Nat) (ds : List PyData) (S : So) : Bool := match o with
  | none => true
  | some n => match S[n]? with
    | some (.lst ys) => eqDs ds ys
    | _ => false
structure ItD (K : PySem.W.Frag) (J : It) (ds : List PyData) (o : Option Nat) (φ0 : Fi) (H0 : Hp) : Prop where
  go : ∀ φ H S i d, Ext φ0 H0 φ H → SR K H φ S → keepB o ds S = true → ds[i]? = some d → J.go i H ∧ ∀ x H', J.yld i H x H' → Ext φ H φ H' ∧ SR K H' φ S ∧ RD K H' φ d x
  stop : ∀ φ H S, Ext φ0 H0 φ H → SR K H φ S → keepB o ds S = true → J.stop ds.length H
def oI (K : PySem.W.Frag) (mg : Str → Option Value) (E : XK) (φ : Fi) (H : Hp) (R : It → Hp → Prop) : RE (List PyData × Option Nat) → Prop
  | .ok ds S' => ∀ φ' H' J, Ext φ H φ' H' → SR K H' φ' S' → ItD K J ds.1 ds.2 φ' H' → ds.1.length ≤ sizeLine → R J H'
  | .xc x S' => ∀ φ' H', Ext φ H φ' H' → SR K H' φ' S' → XR K mg E x H' φ'
def iD (K : PySem.W.Frag) (mg : Str → Option Value) (E : XK) (d : DI) : TI := fun σV H R => ∃ φ σ S r, SR K H φ S ∧ ER K H φ mg σV σ ∧ d σ S = some r ∧ oI K mg E φ H R r
abbrev SI (X : Cx) (E : XK) (tg e : Expr) (d : DI) : Prop := PI X tg e (iD X.K X.mg E d)
theorem PIw {tg e : Expr} {t t' : TI} (h : PI X tg e t) (k : ∀ σ H R, t' σ H R → t σ H R) : PI X tg e t' := ⟨fun pins s σ H R I q => h.run pins s σ H R I (k σ H R q)⟩
/-- a list or a tuple is walked; its size is told -/
theorem pi_seqZ {tg l : Expr} {tl : TE} (hl : PE X l tl) : PI X tg l (fun σ H R => tl σ H fun x H1 => ∃ a xs, x = .ref a ∧
    ((SqL X.K H1 a xs ∧ (xs.length ≤ sizeLine → R (Itl X.K a) H1)) ∨ (SqT X.K H1 a xs ∧ (xs.length ≤ sizeLine → R (Itt X.K a) H1)))) := by
  refine ⟨fun pins s σ H R I h => ?_⟩
  refine thn (hl.run pins s σ H _ I h) fun v s1 ⟨x, H1, I1, r1, q1⟩ => ?_
  obtain ⟨a, xs, e, q⟩ := q1
  subst e
  cases r1
  have fresh : ∀ b ∈ [s1.heap.objs.size], FpOk X pins H1 b := fun b hb => by
    have e : b = s1.heap.objs.size := by simpa using hb
    rw [e]; exact I1.fpOk (Nat.le_refl _) (I1.hok.fresh (Nat.le_refl _))
  rcases q with ⟨hq, q⟩ | ⟨hq, q⟩
  · obtain ⟨its, rv, pl, hz⟩ := I1.list hq
    refine wpAny_pyIter_list pl.isList ?_
    exact ⟨_, _, _, _, H1, rfl, I1.kept (t' := s1.toks) fun b o e => Heap.get?_push_of_some _ e, turn_list a _, ⟨_, Heap.get?_push_size _ rfl, rfl, rfl⟩, fresh, q hz⟩
  · obtain ⟨its, rv, pl, hz⟩ := I1.tuple hq
    refine wpAny_pyIter_tuple (show s1.heap.IsTuple a its.toArray from pl) ?_
    exact ⟨_, _, _, _, H1, rfl, I1.kept (t' := s1.toks) fun b o e => Heap.get?_push_of_some _ e, turn_tuple a _, ⟨_, Heap.get?_push_size _ rfl, rfl, rfl⟩, fresh, q hz⟩
def dSeq (d : DE) : DI := fun σ S => bnd (d σ S) fun w S1 => match w with
  | .d (.list xs) => some (.ok (xs, none) S1)
  | .d (.tuple xs) => some (.ok (xs, none) S1)
  | .r n => match S1[n]? with
    | some (.lst xs) => some (.ok (xs, some n) S1)
    | _ => none
  | _ => none
theorem itl_it {K : PySem.W.Frag} {a : Addr} {vs : List V} {ds : List PyData} {φ : Fi} {H : Hp} (h : FL H φ a vs) (hd : RDs K H φ ds vs) : ItD K (Itl K a) ds none φ H where
  go := fun φ2 H2 S i d e s _ hi => by
    have hf := FL.sq (K := K) (h.mono e)
    have hr := RDs.mono e _ _ hd
    obtain ⟨v, hv, hw⟩ := hr.get hi
    exact ⟨⟨vs, v, hf, hv⟩, fun x H' ⟨e1, y⟩ => by subst e1; rw [Option.some.inj ((y vs hf).symm.trans hv)]; exact ⟨.refl, s, hw⟩⟩
  stop := fun φ2 H2 S e s _ => ⟨vs, (h.mono e).sq, by rw [hd.length]; exact Nat.le_refl _⟩
theorem itt_it {K : PySem.W.Frag} {a : Addr} {vs : List V} {ds : List PyData} {φ : Fi} {H : Hp} (h : TP K H a vs) (hd : RDs K H φ ds vs) : ItD K (Itt K a) ds none φ H where
  go := fun φ2 H2 S i d e s _ hi => by
    have hf := TP.sq (K := K) (TP.mono e h)
    have hr := RDs.mono e _ _ hd
    obtain ⟨v, hv, hw⟩ := hr.get hi
    exact ⟨⟨vs, v, hf, hv⟩, fun x H' ⟨e1, y⟩ => by subst e1; rw [Option.some.inj ((y vs hf).symm.trans hv)]; exact ⟨.refl, s, hw⟩⟩
  stop := fun φ2 H2 S e s _ => ⟨vs, (TP.mono e h).sq, by rw [hd.length]; exact Nat.le_refl _⟩
theorem itr_it {K : PySem.W.Frag} {a : Addr} {n : Nat} {ds : List PyData} {φ : Fi} {H : Hp} (h : φ.l[n]? = some a) : ItD K (Itl K a) ds (some n) φ H := by
  have key : ∀ φ2 H2 S, Ext φ H φ2 H2 → SR K H2 φ2 S → keepB (some n) ds S = true → ∃ vs, SqL K H2 a vs ∧ RDs K H2 φ2 ds vs := fun φ2 H2 S e s hk => by
    unfold keepB at hk
    dsimp only at hk
    split at hk
    · rename_i ys hy
      have e1 := eqDs_eq _ _ hk
      subst e1
      obtain ⟨t, ht⟩ := e.pre
      have h2 : φ2.l[n]? = some a := by rw [← ht, List.getElem?_append_left (List.getElem?_eq_some_iff.mp h).1]; exact h
      obtain ⟨vs, q1, q2⟩ := s.ob n a _ h2 hy
      exact ⟨vs, .of q1, q2⟩
    · cases hk
  refine ⟨fun φ2 H2 S i d e s hk hi => ?_, fun φ2 H2 S e s hk => ?_⟩
  · obtain ⟨vs, hf, hr⟩ := key φ2 H2 S e s hk
    obtain ⟨v, hv, hw⟩ := hr.get hi
    exact ⟨⟨vs, v, hf, hv⟩, fun x H' ⟨e1, y⟩ => by subst e1; rw [Option.some.inj ((y vs hf).symm.trans hv)]; exact ⟨.refl, s, hw⟩⟩
  · obtain ⟨vs, hf, hr⟩ := key φ2 H2 S e s hk
    exact ⟨vs, hf, by rw [hr.length]; exact Nat.le_refl _⟩
theorem i_seq {tg : Expr} (he : SE X E e d) : SI X E tg e (dSeq d) := by
  refine PIw (pi_seqZ he) fun σV H R q => ?_
  obtain ⟨φ, σ, S, r', hs, hen, hd, hq⟩ := q
  unfold dSeq at hd
  match ha : d σ S, hd with
  | none, hd => cases hd
  | some (.xc x S1), hd => cases hd; exact ⟨φ, σ, S, .xc x S1, hs, hen, ha, hq⟩
  | some (.ok w S1), hd =>
    refine ⟨φ, σ, S, .ok w S1, hs, hen, ha, fun φ1 H1 v e1 s1 x1 => ?_⟩
    rw [bnd_ok] at hd
    match w, hd, x1 with
    | .d (.list xs), hd, ⟨a, vs, e2, h1, h2⟩ =>
      cases hd
      exact ⟨a, vs, e2, .inl ⟨h1.sq, fun hz => hq φ1 H1 _ e1 s1 (itl_it h1 h2) (by rw [← h2.length]; exact hz)⟩⟩
    | .d (.tuple xs), hd, ⟨a, vs, e2, h1, h2⟩ =>
      cases hd
      exact ⟨a, vs, e2, .inr ⟨h1.sq, fun hz => hq φ1 H1 _ e1 s1 (itt_it h1 h2) (by rw [← h2.length]; exact hz)⟩⟩
    | .r n, hd, ⟨a, h1, e2⟩ =>
      dsimp only at hd
      split at hd
      · rename_i xs hx
        cases hd
        obtain ⟨vs, q1, q2⟩ := s1.ob n a _ h1 hx
        exact ⟨a, vs, e2, .inl ⟨.of q1, fun hz => hq φ1 H1 _ e1 s1 (itr_it h1) (by rw [← q2.length]; exact hz)⟩⟩
      · cases hd
/-- range(n), range(a, b) -/
def rng (a b : Int) : List PyData := (List.range (b - a).toNat).map fun (i : Nat) => .int (a + (i : Int))
def dRng1 (as : DA) : DI := fun σ S => bnd (as σ S) fun ws S1 => match ws with
  | [.d (.int n)] => if n < 16777216 ∧ -16777216 < n then some (.ok (rng 0 n, none) S1) else none
  | _ => none
def dRng2 (as : DA) : DI := fun σ S => bnd (as σ S) fun ws S1 => match ws with
  | [.d (.int m), .d (.int n)] => if n < 8000000 ∧ -8000000 < n ∧ m < 8000000 ∧ -8000000 < m then some (.ok (rng m n, none) S1) else none
  | _ => none
theorem rng_it {K : PySem.W.Frag} {a b : Int} {φ : Fi} {H : Hp} : ItD K (Itr a (b - a).toNat) (rng a b) none φ H where
  go := fun φ2 H2 S i d e s _ hi => by
    unfold rng at hi
    have hl : i < (b - a).toNat := by
      have := (List.getElem?_eq_some_iff.mp hi).1
      simpa using this
    simp [List.getElem?_range, hl] at hi
    exact ⟨hl, fun x H' ⟨e1, e2⟩ => by subst e1; subst hi; exact ⟨.refl, s, e2⟩⟩
  stop := fun φ2 H2 S e s _ => by show (b - a).toNat ≤ _; simp [rng]
theorem rng_len (a b : Int) : (rng a b).length = (b - a).toNat := by simp [rng]
theorem i_rng1 {tg a : Expr} {das : DA} (hm : X.mg "range" = none) (ha : SA X E [a] das) (hg : Gl X "range" := by rfl) (hs : starEach [a] X.env = [(false, eval a X.env)] := by rfl) : SI X E tg (.Call (.Name "range" p) [a] [] pos) (dRng1 das) := by
  refine PIw (pi_range1 hg hm ha hs) fun σV H R q => ?_
  obtain ⟨φ, σ, S, r', hs, hen, hd, hq⟩ := q
  unfold dRng1 at hd
  match ha : das σ S, hd with
  | none, hd => cases hd
  | some (.xc x S1), hd => cases hd; exact ⟨φ, σ, S, .xc x S1, hs, hen, ha, hq⟩
  | some (.ok ws S1), hd =>
    refine ⟨φ, σ, S, .ok ws S1, hs, hen, ha, fun φ1 H1 vs e1 s1 x1 => ?_⟩
    rw [bnd_ok] at hd
    split at hd
    · rename_i n
      split at hd
      · rename_i hn
        cases hd
        obtain ⟨v, r, e2, h1, h2⟩ := x1
        cases h1; cases h2
        refine ⟨n, e2, by omega, by omega, ?_⟩
        have := hq φ1 H1 (Itr 0 (n - 0).toNat) e1 s1 rng_it (by rw [rng_len, sizeLine_eq]; omega)
        simpa using this
      · cases hd
    · cases hd
theorem i_rng2 {tg a b : Expr} {das : DA} (hm : X.mg "range" = none) (ha : SA X E [a, b] das) (hg : Gl X "range" := by rfl) (hs : starEach [a, b] X.env = [(false, eval a X.env), (false, eval b X.env)] := by rfl) (hs2 : starEach [b] X.env = [(false, eval b X.env)] := by rfl) : SI X E tg (.Call (.Name "range" p) [a, b] [] pos) (dRng2 das) := by
  refine PIw (pi_range2 hg hm ha hs hs2) fun σV H R q => ?_
  obtain ⟨φ, σ, S, r', hs, hen, hd, hq⟩ := q
  unfold dRng2 at hd
  match ha : das σ S, hd with
  | none, hd => cases hd
  | some (.xc x S1), hd => cases hd; exact ⟨φ, σ, S, .xc x S1, hs, hen, ha, hq⟩
  | some (.ok ws S1), hd =>
    refine ⟨φ, σ, S, .ok ws S1, hs, hen, ha, fun φ1 H1 vs e1 s1 x1 => ?_⟩
    rw [bnd_ok] at hd
    split at hd
    · rename_i m n
      split at hd
      · rename_i hn
        cases hd
        obtain ⟨v, r, e2, h1, v2, r2, e3, h2, h3⟩ := x1
        cases h1; cases h2; cases h3
        subst e3
        exact ⟨m, n, e2, ⟨by omega, by omega, by omega, by omega⟩, hq φ1 H1 _ e1 s1 rng_it (by rw [rng_len, sizeLine_eq]; omega)⟩
      · cases hd
    · cases hd

/-! ### for -/
def forGo (o : Option Nat) (all : List PyData) (tg : Tg) (body : DS) : List PyData → DS
  | [], σ, S => if keepB o all S = true then some (.nx σ S) else none
  | x :: xs, σ, S => if keepB o all S = true then
      match bindT tg (.d x) σ with
      | none => none
      | some σ1 => match body σ1 S with
        | some (.nx σ2 S2) => forGo o all tg body xs σ2 S2
        | some (.ct σ2 S2) => forGo o all tg body xs σ2 S2
        | some (.bk σ2 S2) => some (.nx σ2 S2)
        | r => r
    else none
def sFor (tg : Tg) (it : DI) (body : DS) : DS := fun σ S => bndS (it σ S) fun p S1 => forGo p.2 p.1 tg body p.1 σ S1
theorem s_for {tg : Tg} {t iter : Expr} {body : List Stmt} {di : DI} {db : DS} (hi : SI X E t iter di) (hg : PG X t (gT X.K tg)) (hb : SSs X E body db) (hp : PassesOwn (model X.prog X.w) X.A X.env X.xe := by first | exact PassesOwn.never | assumption) (hc : X.calm = true := by rfl)
    (hs : ∀ x, foldedSetIterable iter X.env x = pure x := by intro _; rfl) : SS X E (.For t iter body [] pos) (sFor tg di db) := by
  refine PSw (ps_for hp hc hi hg hb hs) fun D σV H q => ?_
  obtain ⟨φ, σ, S, r, hs, hen, hd, hq⟩ := q
  unfold sFor at hd
  match ha : di σ S, hd with
  | none, hd => cases hd
  | some (.xc x S1), hd => cases hd; exact ⟨φ, σ, S, .xc x S1, hs, hen, ha, hq⟩
  | some (.ok (ds, o) S1), hd =>
    rw [bndS_ok] at hd
    dsimp only at hd
    refine ⟨φ, σ, S, .ok (ds, o) S1, hs, hen, ha, fun φ1 H1 J e1 s1 it hz => ?_⟩
    have hq1 := oS_keep e1 hq
    refine ⟨fun i m σV2 H2 => ∃ φ2 σ2 S2, i + m = ds.length ∧ Ext φ1 H1 φ2 H2 ∧ SR X.K H2 φ2 S2 ∧ ER X.K H2 φ2 X.mg σV2 σ2 ∧ forGo o ds tg db (ds.drop i) σ2 S2 = some r,
      ⟨ds.length, φ1, σ, S1, by omega, .refl, s1, hen.mono e1, hd⟩, fun i m σV2 H2 hW => ?_⟩
    obtain ⟨φ2, σ2, S2, hm, e2, s2, en2, hf⟩ := hW
    by_cases hlt : i < ds.length
    · have hdr : ds.drop i = ds[i] :: ds.drop (i + 1) := List.drop_eq_getElem_cons hlt
      rw [hdr] at hf
      unfold forGo at hf
      split at hf
      · rename_i hk
        obtain ⟨go, yl⟩ := it.go φ2 H2 S2 i ds[i] e2 s2 hk (List.getElem?_eq_getElem hlt)
        refine .inr ⟨go, fun σ' H' => ∃ φ3 σ3 S3, i + 1 + (m - 1) = ds.length ∧ Ext φ1 H1 φ3 H' ∧ SR X.K H' φ3 S3 ∧ ER X.K H' φ3 X.mg σ' σ3 ∧ forGo o ds tg db (ds.drop (i + 1)) σ3 S3 = some r,
          fun σ' H' hN => ⟨m - 1, by omega, hN⟩, fun x H' hy => ?_⟩
        obtain ⟨e3, s3, x3⟩ := yl x H' hy
        match hbd : bindT tg (.d ds[i]) σ2, hf with
        | none, hf => cases hf
        | some σ3, hf =>
          refine gT_ok (en2.mono e3) (w := .d ds[i]) x3 hbd fun σV3 en3 => ?_
          have e13 := e2.trans e3
          dsimp only at hf
          match hbody : db σ3 S2, hf with
          | none, hf => cases hf
          | some (.nx σ4 S4), hf => exact ⟨φ2, σ3, S2, _, s3, en3, hbody, fun φ5 H5 σV5 e5 s5 en5 => ⟨φ5, σ4, S4, by omega, e13.trans e5, s5, en5, hf⟩⟩
          | some (.ct σ4 S4), hf => exact ⟨φ2, σ3, S2, _, s3, en3, hbody, fun φ5 H5 σV5 e5 s5 en5 => ⟨φ5, σ4, S4, by omega, e13.trans e5, s5, en5, hf⟩⟩
          | some (.bk σ4 S4), hf => cases hf; exact ⟨φ2, σ3, S2, _, s3, en3, hbody, oS_keep (o := .nx σ4 S4) e13 hq1⟩
          | some (.rt w S4), hf => cases hf; exact ⟨φ2, σ3, S2, _, s3, en3, hbody, oS_keep (o := .rt w S4) e13 hq1⟩
          | some (.xc w S4), hf => cases hf; exact ⟨φ2, σ3, S2, _, s3, en3, hbody, oS_keep (o := .xc w S4) e13 hq1⟩
      · cases hf
    · have hi : i = ds.length := by omega
      subst hi
      rw [List.drop_length] at hf
      unfold forGo at hf
      split at hf
      · rename_i hk
        cases hf
        exact .inl ⟨it.stop φ2 H2 S2 e2 s2 hk, oS_keep e2 hq1 φ2 H2 σV2 .refl s2 en2⟩
      · cases hf
end
end CL
end

section
/-! part CLNew -/
set_option Elab.async false
set_option linter.all false
set_option maxRecDepth 100000
/-! CLNew: lists that are made (as values, as objects), comprehensions, defs by their bodies. -/
namespace CL
open PySem PySem.Spec PyProof.Rows L2

abbrev DN := En → So → M (List PyData)
section
variable (K : PySem.W.Frag) (mg : Str → Option Value) (E : XK)
/-- a new list stands at a free place -/
def oN (φ : Fi) (H : Hp) (Q : VK) : RE (List PyData) → Prop
  | .ok xs S' => ∀ φ' H' p vs, Ext φ H φ' H' → SR K H' φ' S' → H' p = none → RDs K H' φ' xs vs → Q (.ref p) (upd H' p (.lst vs))
  | .xc x S' => ∀ φ' H', Ext φ H φ' H' → SR K H' φ' S' → XR K mg E x H' φ'
def tN (d : DN) : TE := fun σV H Q => ∃ φ σ S r, SR K H φ S ∧ ER K H φ mg σV σ ∧ d σ S = some r ∧ oN K mg E φ H Q r
end
abbrev SN (X : Cx) (E : XK) (e : Expr) (d : DN) : Prop := PE X e (tN X.K X.mg E d)
def dFz (d : DN) : DE := fun σ S => bnd (d σ S) fun xs S1 => some (.ok (.d (.list xs)) S1)
def dNew (d : DN) : DE := fun σ S => bnd (d σ S) fun xs S1 => some (.ok (.r S1.length) (S1 ++ [.lst xs]))
section
variable {X : Cx} {E : XK} {pos p : Pos} {e a : Expr} {d : DE} {dn : DN} {es : List Expr} {das : DA}
theorem newFL {K : PySem.W.Frag} {H : Hp} {φ : Fi} {S : So} {p : Addr} {vs : List V} (hs : SR K H φ S) (hp : H p = none) : FL (upd H p (.lst vs)) φ p vs := ⟨.inl upd_same, hs.notin hp, hs.notinh hp⟩
theorem fz_rd (σV : L2.St) (H : Hp) (Q : VK) (q : tE X.K X.mg E (dFz dn) σV H Q) : tN X.K X.mg E dn σV H Q := by
  obtain ⟨φ, σ, S, r, hs, hen, hd, hq⟩ := q
  unfold dFz at hd
  match ha : dn σ S, hd with
  | none, hd => cases hd
  | some (.xc x S1), hd => cases hd; exact ⟨φ, σ, S, .xc x S1, hs, hen, ha, hq⟩
  | some (.ok xs S1), hd =>
    cases hd
    refine ⟨φ, σ, S, .ok xs S1, hs, hen, ha, fun φ1 H1 p vs e1 s1 hp x1 => ?_⟩
    have e2 := Ext.new (o := .lst vs) hp s1
    exact hq φ1 _ _ (e1.trans e2) (s1.new hp) ⟨p, vs, rfl, newFL s1 hp, RDs.mono e2 _ _ x1⟩
theorem e_fz (h : SN X E e dn) : SE X E e (dFz dn) := PEw h fz_rd
theorem e_new (h : SN X E e dn) : SE X E e (dNew dn) := by
  refine PEw h fun σV H Q q => ?_
  obtain ⟨φ, σ, S, r, hs, hen, hd, hq⟩ := q
  unfold dNew at hd
  match ha : dn σ S, hd with
  | none, hd => cases hd
  | some (.xc x S1), hd => cases hd; exact ⟨φ, σ, S, .xc x S1, hs, hen, ha, hq⟩
  | some (.ok xs S1), hd =>
    cases hd
    refine ⟨φ, σ, S, .ok xs S1, hs, hen, ha, fun φ1 H1 p vs e1 s1 hp x1 => ?_⟩
    have e2 := Ext.push (o := .lst vs) hp s1
    refine hq (φ1.push p) _ _ (e1.trans e2) (s1.push hp ⟨vs, upd_same, RDs.mono e2 _ _ x1⟩) ⟨p, ?_, rfl⟩
    show (φ1.l ++ [p])[S1.length]? = some p
    rw [← s1.len]; simp
/-! ### displays -/
def dats : List W → Option (List PyData)
  | [] => some []
  | .d x :: ws => (dats ws).map (x :: ·)
  | _ :: _ => none
theorem dats_rd {K : PySem.W.Frag} {mg : Str → Option Value} {H : Hp} {φ : Fi} : ∀ {ws : List W} {vs : List V} {xs : List PyData}, RWs K H φ mg ws vs → dats ws = some xs → RDs K H φ xs vs
  | [], _, _, h, e => by cases e; exact h
  | .d x :: ws, _, _, ⟨v, r, e1, h1, h2⟩, e => by
    obtain ⟨ys, e2, e3⟩ := Option.map_eq_some_iff.mp e
    subst e3
    exact ⟨v, r, e1, h1, dats_rd h2 e2⟩
  | .r _ :: _, _, _, _, e => by cases e
  | .g _ :: _, _, _, _, e => by cases e
  | .s _ :: _, _, _, _, e => by cases e
def small (n : Nat) : Bool := decide (n ≤ 16777216)
theorem small_le {n : Nat} (h : small n = true) : n ≤ sizeLine := by rw [sizeLine_eq]; exact of_decide_eq_true h
def datz (ws : List W) : Option (List PyData) := if small ws.length = true then dats ws else none
def dLst (as : DA) : DN := fun σ S => bnd (as σ S) fun ws S1 => giv (datz ws) S1
theorem datz_of {ws : List W} {xs : List PyData} (h : datz ws = some xs) : ws.length ≤ sizeLine ∧ dats ws = some xs := by
  unfold datz at h
  split at h
  · rename_i hs; exact ⟨small_le hs, h⟩
  · cases h
theorem RWs.length {K : PySem.W.Frag} {mg : Str → Option Value} {H : Hp} {φ : Fi} : ∀ {ws : List W} {vs : List V}, RWs K H φ mg ws vs → vs.length = ws.length
  | [], _, h => by cases h; rfl
  | _ :: _, _, ⟨_, _, e, _, h⟩ => by subst e; simp [RWs.length h]
theorem n_lst (ha : SA X E es das) : SN X E (.List es pos) (dLst das) := by
  refine PEw (pe_lst ha) fun σV H Q q => ?_
  obtain ⟨φ, σ, S, r, hs, hen, hd, hq⟩ := q
  unfold dLst at hd
  match ha : das σ S, hd with
  | none, hd => cases hd
  | some (.xc x S1), hd => cases hd; exact ⟨φ, σ, S, .xc x S1, hs, hen, ha, hq⟩
  | some (.ok ws S1), hd =>
    rw [bnd_ok] at hd
    match hg : datz ws, hd with
    | none, hd => cases hd
    | some xs, hd =>
      cases hd
      obtain ⟨z, hg⟩ := datz_of hg
      exact ⟨φ, σ, S, .ok ws S1, hs, hen, ha, fun φ1 H1 vs e1 s1 x1 => ⟨by rw [x1.length]; exact z, fun p hp => hq φ1 H1 p vs e1 s1 hp (dats_rd x1 hg)⟩⟩
def dTup (as : DA) : DE := fun σ S => bnd (as σ S) fun ws S1 => giv ((datz ws).map fun xs => .d (.tuple xs)) S1
theorem e_tup {k : Nat} (ha : SA X E es das) : SE X E (.Tuple es k pos) (dTup das) := by
  refine PEw (pe_tup ha) fun σV H Q q => ?_
  obtain ⟨φ, σ, S, r, hs, hen, hd, hq⟩ := q
  unfold dTup at hd
  match ha : das σ S, hd with
  | none, hd => cases hd
  | some (.xc x S1), hd => cases hd; exact ⟨φ, σ, S, .xc x S1, hs, hen, ha, hq⟩
  | some (.ok ws S1), hd =>
    rw [bnd_ok] at hd
    match hg : datz ws, hd with
    | none, hd => cases hd
    | some xs, hd =>
      cases hd
      obtain ⟨z, hg⟩ := datz_of hg
      refine ⟨φ, σ, S, .ok ws S1, hs, hen, ha, fun φ1 H1 vs e1 s1 x1 => ⟨by rw [x1.length]; exact z, fun p hp => ?_⟩⟩
      have e2 := Ext.new (o := .tup vs) hp s1
      exact hq φ1 _ _ (e1.trans e2) (s1.new hp) ⟨p, vs, rfl, upd_same, RDs.mono e2 _ _ (dats_rd x1 hg)⟩

/-! ### comprehensions -/
def wipeW (σ : En) : List Nat → En
  | [] => σ
  | v :: vs => (wipeW σ vs).set v none
theorem wipe_er {K : PySem.W.Frag} {mg : Str → Option Value} {H : Hp} {φ : Fi} {σV : L2.St} {σ : En} (h : ER K H φ mg σV σ) : ∀ vs : List Nat, ER K H φ mg (wipe σV vs) (wipeW σ vs)
  | [] => h
  | v :: vs => by
    have ih := wipe_er h vs
    refine ⟨by unfold wipe wipeW; simp [ih.len], fun i w q => ?_⟩
    unfold wipeW at q
    unfold wipe
    by_cases e : v = i
    · subst e
      by_cases hl : v < (wipeW σ vs).length
      · rw [List.getElem?_set_self hl] at q; cases q
      · rw [List.getElem?_eq_none (by simp; omega)] at q; cases q
    · rw [List.getElem?_set_ne e] at q
      obtain ⟨u, h1, h2⟩ := ih.at_ i w q
      exact ⟨u, by rw [List.getElem?_set_ne e]; exact h1, h2⟩
def subT (tg : Tg) (vs : List Nat) : Bool := match tg with
  | .nm i => vs.contains i
  | .tp is => is.all vs.contains
theorem wipe_at {σV : L2.St} : ∀ {vs : List Nat} {i : Nat}, (wipe σV vs)[i]? = if i ∈ vs then (if i < σV.length then some none else none) else σV[i]?
  | [], i => by simp [wipe]
  | v :: vs, i => by
    unfold wipe
    by_cases e : v = i
    · subst e
      rw [List.getElem?_set_self']
      rw [wipe_at]
      by_cases h1 : v ∈ vs <;> by_cases h2 : v < σV.length <;> simp [h1, h2]
    · rw [List.getElem?_set_ne e, wipe_at]
      by_cases h1 : i ∈ vs
      · simp [h1]
      · simp [h1, Ne.symm e]
theorem wipe_ext {σV σW : L2.St} {vs : List Nat} (hl : σV.length = σW.length) (h : ∀ i, i ∉ vs → σV[i]? = σW[i]?) : wipe σV vs = wipe σW vs := by
  refine List.ext_getElem? fun i => ?_
  rw [wipe_at, wipe_at, hl]
  by_cases hi : i ∈ vs
  · rw [if_pos hi, if_pos hi]
  · rw [if_neg hi, if_neg hi, h i hi]
theorem setV_out : ∀ {is : List Nat} {xs : List V} {σV : L2.St} {i : Nat}, i ∉ is → (setV σV is xs)[i]? = σV[i]?
  | [], _, _, _, _ => rfl
  | _ :: _, [], _, _, _ => rfl
  | j :: is, x :: xs, σV, i, h => by
    unfold setV
    rw [setV_out (fun z => h (List.mem_cons_of_mem _ z)), List.getElem?_set_ne fun z => h (by subst z; exact List.mem_cons_self)]
theorem setV_len : ∀ {is : List Nat} {xs : List V} {σV : L2.St}, (setV σV is xs).length = σV.length
  | [], _, _ => rfl
  | _ :: _, [], _ => rfl
  | j :: is, x :: xs, σV => by unfold setV; rw [setV_len]; simp
theorem wipe_len {σV : L2.St} {vs : List Nat} : (wipe σV vs).length = σV.length := wipe_length _ _
theorem wipe_in {σV : L2.St} {vs : List Nat} : wipe (wipe σV vs) vs = wipe σV vs := wipe_ext wipe_len fun i hi => by rw [wipe_at, if_neg hi]
theorem gT_wipe {K : PySem.W.Frag} {mg : Str → Option Value} {H : Hp} {φ : Fi} {tg : Tg} {w : W} {v : V} {σ σ' : En} {σV : L2.St} {vs : List Nat} {Q : L2.St → Hp → Prop} (he : ER K H φ mg (wipe σV vs) σ) (hw : RW K H φ mg w v) (hb : bindT tg w σ = some σ')
    (hsub : subT tg vs = true) (q : ∀ σV', ER K H φ mg σV' σ' → wipe σV' vs = wipe σV vs → Q σV' H) : gT K tg v (wipe σV vs) H Q := by
  cases tg with
  | nm i =>
    cases hb
    refine q _ (he.set hw) (Eq.trans (wipe_ext (by simp) fun j hj => ?_) wipe_in)
    rw [List.getElem?_set_ne]
    intro e; subst e
    exact hj (by simpa [subT] using hsub)
  | tp is =>
    cases w with
    | d x =>
      cases x with
      | tuple ds =>
        obtain ⟨a, us, e1, h1, h2⟩ := hw
        obtain ⟨h3, h4⟩ := setW_er he h2 hb
        refine ⟨a, us, e1, h1.sq, h4, q _ h3 (Eq.trans (wipe_ext setV_len fun j hj => setV_out fun hm => hj ?_) wipe_in)⟩
        have := List.all_eq_true.mp hsub j hm
        simpa using this
      | _ => cases hb
    | _ => cases hb
def dYes : DT := fun _ S => some (.ok true S)
abbrev STs (X : Cx) (E : XK) (ifs : List Expr) (d : DT) : Prop := PTs X ifs (tT X.K X.mg E d)
theorem ts_nil : STs X E [] dYes := ⟨fun pins s σ H Q I ⟨φ, σ', S, r, hs, he, hd, hq⟩ => by cases hd; exact pts_nil.run pins s σ H Q I (hq φ H .refl hs)⟩
theorem ts_one {c : Expr} {dt : DT} (h : ST X E c dt) : STs X E [c] dt := pts_one h
def lcGo (o : Option Nat) (all : List PyData) (vs : List Nat) (σ : En) (tg : Tg) (cond : DT) (elt : DE) : List PyData → List PyData → So → M (List PyData)
  | [], acc, S => if keepB o all S = true then some (.ok acc S) else none
  | x :: xs, acc, S => if keepB o all S = true then
      match bindT tg (.d x) (wipeW σ vs) with
      | none => none
      | some σ1 => match cond σ1 S with
        | some (.ok true S1) => match elt σ1 S1 with
          | some (.ok (.d y) S2) => lcGo o all vs σ tg cond elt xs (acc ++ [y]) S2
          | _ => none
        | some (.ok false S1) => lcGo o all vs σ tg cond elt xs acc S1
        | _ => none
    else none
def dLc (vs : List Nat) (it : DI) (tg : Tg) (cond : DT) (elt : DE) : DN := fun σ S => bnd (it σ S) fun p S1 => lcGo p.2 p.1 vs σ tg cond elt p.1 [] S1
theorem RDs.unhide {K : PySem.W.Frag} {H : Hp} {φ2 : Fi} {h : List Addr} (hs : ∀ b ∈ h, b ∈ φ2.h) {ds : List PyData} {vs : List V} (q : RDs K H φ2 ds vs) : RDs K H ⟨φ2.l, h⟩ ds vs := RDs.sub (φ := ⟨φ2.l, h⟩) (φ' := φ2) (fun b hb => ⟨hb.1, fun z => hb.2 (hs b z)⟩) ds vs q
theorem SR.unhide {K : PySem.W.Frag} {H : Hp} {φ2 : Fi} {h : List Addr} {S : So} (hs : ∀ b ∈ h, b ∈ φ2.h) (q : SR K H φ2 S) : SR K H ⟨φ2.l, h⟩ S :=
  ⟨q.len, q.nd, fun i a o h1 h2 => by
    have := q.ob i a o h1 h2
    cases o with
    | lst xs => obtain ⟨vs, q1, q2⟩ := this; exact ⟨vs, q1, RDs.unhide hs q2⟩
    | dk xs => obtain ⟨vs, q1, q2, q3⟩ := this; exact ⟨vs, q1, q2, RDs.unhide hs q3⟩
    | dt xs => obtain ⟨vs, q1, q2, q3⟩ := this; exact ⟨vs, q1, q2, RDs.unhide hs q3⟩
    | lkK xs => obtain ⟨vs, q1, q2, q3⟩ := this; exact ⟨vs, q1, q2, RDs.unhide hs q3⟩
    | lkT xs => obtain ⟨vs, q1, q2, q3⟩ := this; exact ⟨vs, q1, q2, RDs.unhide hs q3⟩, fun b hb => q.hid b (hs b hb)⟩
/-- what stands between two turns: the list at D is hidden -/
structure LcSt (X : Cx) (φ1 : Fi) (H1 : Hp) (D : Addr) (σV : L2.St) (σ : En) (φ2 : Fi) (H2 : Hp) (S2 : So) (acc : List PyData) : Prop where
  hD : H1 D = none
  ext : Ext φ1 H1 φ2 H2
  hh : D ∈ φ2.h
  sr : SR X.K H2 φ2 S2
  er : ER X.K H2 φ2 X.mg σV σ
  at_ : ∃ vs, H2 D = some (.lst vs) ∧ RDs X.K H2 φ2 acc vs
theorem LcSt.step {φ1 φ2 φ3 : Fi} {H1 H2 H3 : Hp} {D : Addr} {σV : L2.St} {σ : En} {S2 S3 : So} {acc : List PyData} (L : LcSt X φ1 H1 D σV σ φ2 H2 S2 acc) (e : Ext φ2 H2 φ3 H3) (s : SR X.K H3 φ3 S3) : LcSt X φ1 H1 D σV σ φ3 H3 S3 acc := by
  obtain ⟨vs, h1, h2⟩ := L.at_
  have nD : D ∉ φ2.l := (L.sr.hid D L.hh).1
  exact ⟨L.hD, L.ext.trans e, e.hsub L.hh, s, L.er.mono e, vs, (e.kept D _ h1 nD).1, RDs.mono e _ _ h2⟩
theorem LcSt.add {φ1 φ2 : Fi} {H1 H2 : Hp} {D : Addr} {σV : L2.St} {σ : En} {S2 : So} {acc : List PyData} {vs : List V} {y : PyData} {v : V} (L : LcSt X φ1 H1 D σV σ φ2 H2 S2 acc) (hv : H2 D = some (.lst vs)) (hy : RD X.K H2 φ2 y v) :
    LcSt X φ1 H1 D σV σ φ2 (upd H2 D (.lst (vs ++ [v]))) S2 (acc ++ [y]) := by
  obtain ⟨us, h1, h2⟩ := L.at_
  rw [hv] at h1; cases h1
  have hx : ∀ b, b ≠ D → upd H2 D (.lst (vs ++ [v])) b = H2 b := fun b hb => upd_ne hb
  refine ⟨L.hD, ⟨L.ext.pre, L.ext.hid, fun b h => L.ext.trk b (upd_trk b h), fun b o h n => ?_, fun b ws h => TP.grow (K := X.K) hv hx (L.ext.tups b ws h), fun b o u h => (upd_ne (ne_of_none h L.hD)).trans (L.ext.frz b o u h)⟩, L.hh, L.sr.grow L.hh hv, L.er.grow L.hh hv hx, _, upd_same, RDs.append (RDs.grow L.hh hv hx _ _ h2) (RDs.one (RD.grow L.hh hv hx _ _ hy))⟩
  obtain ⟨a1, a2⟩ := L.ext.kept b o h n
  exact ⟨by rw [upd_ne (ne_of_none h L.hD)]; exact a1, a2⟩
theorem lc_rd {vs : List Nat} {di : DI} {tgd : Tg} {dt : DT} {de : DE} (hsub : subT tgd vs = true) (σV : L2.St) (H : Hp) (Q : VK) (q : tN X.K X.mg E (dLc vs di tgd dt de) σV H Q) :
    tLc (iD X.K X.mg E di) (gT X.K tgd) (tT X.K X.mg E0 dt) (tE X.K X.mg E0 de) vs σV H Q := by
  obtain ⟨φ, σ, S, r, hs, hen, hd, hq⟩ := q
  unfold dLc at hd
  match ha : di σ S, hd with
  | none, hd => cases hd
  | some (.xc x S1), hd => cases hd; exact ⟨φ, σ, S, .xc x S1, hs, hen, ha, hq⟩
  | some (.ok (ds, o) S1), hd =>
    rw [bnd_ok] at hd
    refine ⟨φ, σ, S, .ok (ds, o) S1, hs, hen, ha, fun φ1 H1 J e1 s1 itd hz D hD => ?_⟩
    have hz : ds.length ≤ sizeLine := hz
    refine ⟨fun i m H2 => ∃ φ2 S2 acc, i + m = ds.length ∧ acc.length ≤ i ∧ LcSt X φ1 H1 D σV σ φ2 H2 S2 acc ∧ lcGo o ds vs σ tgd dt de (ds.drop i) acc S2 = some r,
      ⟨ds.length, φ1.hide D, S1, [], by omega, Nat.le_refl _, ⟨hD, Ext.hide hD, List.mem_cons_self, s1.hide hD, (hen.mono e1).hide hD, [], upd_same, rfl⟩, hd⟩, fun i m H2 hW => ?_⟩
    obtain ⟨φ2, S2, acc, hm, hal, L, hf⟩ := hW
    by_cases hlt : i < ds.length
    · have hdr : ds.drop i = ds[i] :: ds.drop (i + 1) := List.drop_eq_getElem_cons hlt
      rw [hdr] at hf
      unfold lcGo at hf
      split at hf
      · rename_i hk
        obtain ⟨go, yl⟩ := itd.go φ2 H2 S2 i ds[i] L.ext L.sr hk (List.getElem?_eq_getElem hlt)
        refine .inr ⟨go, fun H' => ∃ φ3 S3 acc, i + 1 + (m - 1) = ds.length ∧ acc.length ≤ i + 1 ∧ LcSt X φ1 H1 D σV σ φ3 H' S3 acc ∧ lcGo o ds vs σ tgd dt de (ds.drop (i + 1)) acc S3 = some r,
          fun H' hN => ⟨m - 1, by omega, hN⟩, fun x H3 hy => ?_⟩
        obtain ⟨e3, s3, x3⟩ := yl x H3 hy
        have L3 := L.step e3 s3
        match hbd : bindT tgd (.d ds[i]) (wipeW σ vs), hf with
        | none, hf => cases hf
        | some σ3, hf =>
          refine gT_wipe (wipe_er L3.er vs) (w := .d ds[i]) x3 hbd hsub fun σV3 en3 hw => ⟨hw, ?_⟩
          dsimp only at hf
          match hct : dt σ3 S2, hf with
          | none, hf => cases hf
          | some (.xc x S4), hf => cases hf
          | some (.ok true S4), hf =>
            refine ⟨φ2, σ3, S2, _, s3, en3, hct, fun φ5 H5 e5 s5 => iteT ?_⟩
            have L5 := L3.step e5 s5
            dsimp only at hf
            match hce : de σ3 S4, hf with
            | none, hf => cases hf
            | some (.xc x S6), hf => cases hf
            | some (.ok (.r _) S6), hf => cases hf
            | some (.ok (.g _) S6), hf => cases hf
            | some (.ok (.s _) S6), hf => cases hf
            | some (.ok (.d y) S6), hf =>
              refine ⟨φ5, σ3, S4, _, s5, en3.mono e5, hce, fun φ7 H7 v e7 s7 x7 => ?_⟩
              have L7 := L5.step e7 s7
              obtain ⟨us, h1, h2⟩ := L7.at_
              refine ⟨us, h1, ?_, φ7, S6, acc ++ [y], by omega, by simp; omega, L7.add h1 x7, hf⟩
              rw [h2.length]
              omega
          | some (.ok false S4), hf =>
            refine ⟨φ2, σ3, S2, _, s3, en3, hct, fun φ5 H5 e5 s5 => iteF ?_⟩
            exact ⟨φ5, S4, acc, by omega, by omega, L3.step e5 s5, hf⟩
      · cases hf
    · have hi : i = ds.length := by omega
      subst hi
      rw [List.drop_length] at hf
      unfold lcGo at hf
      split at hf
      · rename_i hk
        cases hf
        refine .inl ⟨itd.stop φ2 H2 S2 L.ext L.sr hk, ?_⟩
        obtain ⟨us, h1, h2⟩ := L.at_
        have hx : ∀ b, b ≠ D → (fun b => if b = D then none else H2 b : Hp) b = H2 b := fun b hb => if_neg hb
        have nD : D ∉ φ2.l := (L.sr.hid D L.hh).1
        have hsub2 : ∀ b ∈ φ1.h, b ∈ φ2.h := fun b hb => L.ext.hsub hb
        have back : upd (fun b => if b = D then none else H2 b) D (.lst us) = H2 := by
          funext b
          by_cases e : b = D
          · subst e; rw [upd_same, h1]
          · rw [upd_ne e]; exact if_neg e
        have ext2 : Ext φ1 H1 ⟨φ2.l, φ1.h⟩ (fun b => if b = D then none else H2 b) := by
          refine ⟨L.ext.pre, ⟨[], rfl, fun _ h => by cases h⟩, fun b h => ?_, fun b u h n => ?_, fun b ws h => TP.grow (K := X.K) h1 hx (L.ext.tups b ws h), fun b o u h => (hx b (ne_of_none h hD)).trans (L.ext.frz b o u h)⟩
          · by_cases e : b = D
            · subst e; exact hD
            · exact L.ext.trk b (by rw [← hx b e]; exact h)
          · obtain ⟨a1, a2⟩ := L.ext.kept b u h n
            exact ⟨(hx b (ne_of_none h hD)).trans a1, a2⟩
        have sr2 : SR X.K (fun b => if b = D then none else H2 b) ⟨φ2.l, φ1.h⟩ S2 := by
          refine ⟨L.sr.len, L.sr.nd, fun j a ob q1 q2 => ?_, fun b hb => ?_⟩
          · have hne : a ≠ D := fun e => nD (e ▸ List.mem_of_getElem? q1)
            have w := OR.grow L.hh h1 hx hne (L.sr.ob j a ob q1 q2)
            cases ob with
            | lst xs => obtain ⟨vs, w1, w2⟩ := w; exact ⟨vs, w1, RDs.unhide hsub2 w2⟩
            | dk xs => obtain ⟨vs, w1, w2, w3⟩ := w; exact ⟨vs, w1, w2, RDs.unhide hsub2 w3⟩
            | dt xs => obtain ⟨vs, w1, w2, w3⟩ := w; exact ⟨vs, w1, w2, RDs.unhide hsub2 w3⟩
            | lkK xs => obtain ⟨vs, w1, w2, w3⟩ := w; exact ⟨vs, w1, w2, RDs.unhide hsub2 w3⟩
            | lkT xs => obtain ⟨vs, w1, w2, w3⟩ := w; exact ⟨vs, w1, w2, RDs.unhide hsub2 w3⟩
          · obtain ⟨w1, ws, w2⟩ := L.sr.hid b (hsub2 b hb)
            have hne : b ≠ D := fun e => s1.notinh hD (e ▸ hb)
            exact ⟨w1, ws, (hx b hne).trans w2⟩
        have := hq ⟨φ2.l, φ1.h⟩ _ D us (e1.trans ext2) sr2 (if_pos rfl) (RDs.unhide hsub2 (RDs.grow L.hh h1 hx _ _ h2))
        rw [back] at this
        exact this
      · cases hf
theorem n_lc {elt tg iter : Expr} {ifs : List Expr} {scope : Scope} (own : List (Str × Nat)) {di : DI} {tgd : Tg} {dt : DT} {de : DE} (hN : X.N.Nodup) (hi : SI X E tg iter di) (ok : BlkOk X.N X.env.scope scope own)
    (hg : ∀ (s : Shared) (H : Hp) (C : Addr) (cl : List (Str × Addr)) (fp : List Addr), PG (X.blk s H scope (compEnvC scope cl C X.env) fp) tg (gT X.K tgd)) (ht : ∀ (s : Shared) (H : Hp) (C : Addr) (cl : List (Str × Addr)) (fp : List Addr), STs (X.blk s H scope (compEnvC scope cl C X.env) fp) E0 ifs dt)
    (he : ∀ (s : Shared) (H : Hp) (C : Addr) (cl : List (Str × Addr)) (fp : List Addr), SE (X.blk s H scope (compEnvC scope cl C X.env) fp) E0 elt de) (hsub : subT tgd (own.map (·.2)) = true := by rfl) (hc : X.calm = true := by rfl) (hs : ∀ x, foldedSetIterable iter X.env x = pure x := by intro _; rfl) :
    SN X E (elt.ListComp [⟨tg, iter, ifs, 0⟩] scope pos) (dLc (own.map (·.2)) di tgd dt de) :=
  PEw (pe_lc (g := gT X.K tgd) (tt := tT X.K X.mg E0 dt) (te := tE X.K X.mg E0 de) hc hN hi ok hg ht he hs) (lc_rd hsub)
theorem set_rd {i : Nat} {d : DE} (D : Ends) (σV : L2.St) (H : Hp) (q : tS X.K X.mg E (sSet i d) D σV H) : tE X.K X.mg E d σV H fun x H1 => gName i x σV H1 D.nx := by
  obtain ⟨φ, σ, S, o, hs, hen, hd, hq⟩ := q
  unfold sSet at hd
  match ha : d σ S, hd with
  | none, hd => cases hd
  | some (.xc x S1), hd => cases hd; exact ⟨φ, σ, S, .xc x S1, hs, hen, ha, hq⟩
  | some (.ok w S1), hd =>
    cases hd
    exact ⟨φ, σ, S, .ok w S1, hs, hen, ha, fun φ1 H1 v e1 s1 x1 => hq φ1 H1 _ e1 s1 ((hen.mono e1).set x1)⟩
/-- y = [..]: the model's own road where y is a plain local -/
theorem s_setLc (i : Nat) {y : Str} {py spos : Pos} {elt tg iter : Expr} {ifs : List Expr} {scope : Scope} (own : List (Str × Nat)) {di : DI} {tgd : Tg} {dt : DT} {de : DE} (hN : X.N.Nodup) (hi : SI X E tg iter di) (ok : BlkOk X.N X.env.scope scope own)
    (hg : ∀ (s : Shared) (H : Hp) (C : Addr) (cl : List (Str × Addr)) (fp : List Addr), PG (X.blk s H scope (compEnvC scope cl C X.env) fp) tg (gT X.K tgd)) (ht : ∀ (s : Shared) (H : Hp) (C : Addr) (cl : List (Str × Addr)) (fp : List Addr), STs (X.blk s H scope (compEnvC scope cl C X.env) fp) E0 ifs dt)
    (he : ∀ (s : Shared) (H : Hp) (C : Addr) (cl : List (Str × Addr)) (fp : List Addr), SE (X.blk s H scope (compEnvC scope cl C X.env) fp) E0 elt de)
    (hsw : swapsWith (.ListComp elt [⟨tg, iter, ifs, 0⟩] scope pos) (some (.Name y py)) spos.line X.env = pure true) (hy : X.N[i]? = some y := by rfl) (hyl : X.env.scope.names.lookup y = some .local := by rfl)
    (hsub : subT tgd (own.map (·.2)) = true := by rfl) (hc : X.calm = true := by rfl) (hs : ∀ x, foldedSetIterable iter X.env x = pure x := by intro _; rfl) :
    SS X E (.Assign [.Name y py] (elt.ListComp [⟨tg, iter, ifs, 0⟩] scope pos) spos) (sSet i (dFz (dLc (own.map (·.2)) di tgd dt de))) := by
  refine PSw (ps_setLc (g := gT X.K tgd) (tt := tT X.K X.mg E0 dt) (te := tE X.K X.mg E0 de) hc hN hy hyl hsw hi ok hg ht he hs) fun D σV H q => ?_
  exact lc_rd hsub _ _ _ (fz_rd _ _ _ (set_rd D σV H q))

/-! ### a def by its body -/
def startW (n : Nat) (ws : List W) : En := ws.map some ++ List.replicate (n - ws.length) none
/-- the objects that the def made are given up; a list that is handed back stands as a value -/
def gc (k : Nat) (w : W) (S' : So) : M W := match w with
  | .d x => some (.ok (.d x) (S'.take k))
  | .g x => some (.ok (.g x) (S'.take k))
  | .s _ => none
  | .r n => if n < k then some (.ok (.r n) (S'.take k)) else match S'[n]? with
    | some (.lst xs) => some (.ok (.d (.list xs)) (S'.take k))
    | _ => none
/-- .. but for the object that is handed back -/
def gcNew (k : Nat) (w : W) (S' : So) : M W := match w with
  | .d x => some (.ok (.d x) (S'.take k))
  | .g x => some (.ok (.g x) (S'.take k))
  | .s _ => none
  | .r n => if n < k then some (.ok (.r n) (S'.take k)) else match S'[n]? with
    | some o => some (.ok (.r k) (S'.take k ++ [o]))
    | _ => none
def fnB (G : Nat → W → So → M W) (np nN : Nat) (body : DS) : DF := fun ws S => if ws.length = np then
    match body (startW nN ws) S with
    | some (.nx _ S') => some (.ok (.d .none) (S'.take S.length))
    | some (.rt w S') => G S.length w S'
    | some (.xc x S') => some (.xc x (S'.take S.length))
    | _ => none
  else none
def GcOk (G : Nat → W → So → M W) : Prop := ∀ (K : PySem.W.Frag) (mg : Str → Option Value) (φ φ' : Fi) (H H' : Hp) (S' : So) (w : W) (v : V) (r : RE W), Ext φ H φ' H' → SR K H' φ' S' → RW K H' φ' mg w v → G φ.l.length w S' = some r →
  ∃ w2 S2 φ2, r = .ok w2 S2 ∧ Ext φ H φ2 H' ∧ SR K H' φ2 S2 ∧ RW K H' φ2 mg w2 v
theorem gc_ok : GcOk gc := by
  intro K mg φ φ' H H' S' w v r e s x h
  cases w with
  | d y => cases h; exact ⟨_, _, φ, rfl, e.cut, s.cut e rfl, RD.cut e x⟩
  | g y => cases h; exact ⟨_, _, φ, rfl, e.cut, s.cut e rfl, x⟩
  | s y => cases h
  | r n =>
    obtain ⟨a, h1, e1⟩ := x
    obtain ⟨t, ht⟩ := e.pre
    unfold gc at h
    dsimp only at h
    split at h
    · rename_i hn
      cases h
      exact ⟨_, _, φ, rfl, e.cut, s.cut e rfl, a, by rw [← ht, List.getElem?_append_left hn] at h1; exact h1, e1⟩
    · rename_i hn
      split at h
      · rename_i xs hx
        cases h
        obtain ⟨vs, q1, q2⟩ := s.ob n a _ h1 hx
        refine ⟨_, _, φ, rfl, e.cut, s.cut e rfl, a, vs, e1, ⟨.inl q1, fun hm => ?_, fun hm => (s.hid a (e.hsub hm)).1 (List.mem_of_getElem? h1)⟩, RDs.cut e q2⟩
        obtain ⟨i, hi, ei⟩ := List.getElem_of_mem hm
        have h2 : φ'.l[i]? = some a := by rw [← ht, List.getElem?_append_left hi, List.getElem?_eq_getElem hi, ei]
        have : i = n := (List.getElem?_inj (List.getElem?_eq_some_iff.mp h2).1 s.nd).mp (h2.trans h1.symm)
        omega
      · cases h
theorem gcNew_ok : GcOk gcNew := by
  intro K mg φ φ' H H' S' w v r e s x h
  cases w with
  | d y => cases h; exact ⟨_, _, φ, rfl, e.cut, s.cut e rfl, RD.cut e x⟩
  | g y => cases h; exact ⟨_, _, φ, rfl, e.cut, s.cut e rfl, x⟩
  | s y => cases h
  | r n =>
    obtain ⟨a, h1, e1⟩ := x
    obtain ⟨t, ht⟩ := e.pre
    unfold gcNew at h
    dsimp only at h
    split at h
    · rename_i hn
      cases h
      exact ⟨_, _, φ, rfl, e.cut, s.cut e rfl, a, by rw [← ht, List.getElem?_append_left hn] at h1; exact h1, e1⟩
    · rename_i hn
      split at h
      · rename_i o hx
        cases h
        have hm' : a ∈ φ'.l := List.mem_of_getElem? h1
        have na : a ∉ φ.l := fun hm => by
          obtain ⟨i, hi, ei⟩ := List.getElem_of_mem hm
          have h2 : φ'.l[i]? = some a := by rw [← ht, List.getElem?_append_left hi, List.getElem?_eq_getElem hi, ei]
          have : i = n := (List.getElem?_inj (List.getElem?_eq_some_iff.mp h2).1 s.nd).mp (h2.trans h1.symm)
          omega
        have sc := s.cut e rfl
        have hsub : ∀ b, b ∉ φ'.l ∧ b ∉ φ'.h → b ∉ (φ.push a).l ∧ b ∉ (φ.push a).h := fun b hb => ⟨fun hm => by
          rcases List.mem_append.mp hm with hm | hm
          · exact hb.1 (e.pre.subset hm)
          · rw [List.mem_singleton] at hm; subst hm; exact hb.1 hm', fun hm => hb.2 (e.hsub hm)⟩
        have orx : ∀ {b : Addr} {ob : O}, OR K H' φ' b ob → OR K H' (φ.push a) b ob := fun {b ob} w => by
          cases ob with
          | lst xs => obtain ⟨vs, w1, w2⟩ := w; exact ⟨vs, w1, RDs.sub hsub _ _ w2⟩
          | dk xs => obtain ⟨vs, w1, w2, w3⟩ := w; exact ⟨vs, w1, w2, RDs.sub hsub _ _ w3⟩
          | dt xs => obtain ⟨vs, w1, w2, w3⟩ := w; exact ⟨vs, w1, w2, RDs.sub hsub _ _ w3⟩
          | lkK xs => obtain ⟨vs, w1, w2, w3⟩ := w; exact ⟨vs, w1, w2, RDs.sub hsub _ _ w3⟩
          | lkT xs => obtain ⟨vs, w1, w2, w3⟩ := w; exact ⟨vs, w1, w2, RDs.sub hsub _ _ w3⟩
        have hle : φ.l.length ≤ S'.length := by rw [← s.len, ← ht]; simp
        have htk : (S'.take φ.l.length).length = φ.l.length := by simp; omega
        refine ⟨_, _, φ.push a, rfl, ⟨List.prefix_append _ _, ⟨[], rfl, fun _ h => by cases h⟩, e.trk, fun b u h nb => ⟨(e.kept b u h nb).1, fun hm => ?_⟩, e.tups, e.frz⟩, ⟨?_, ?_, fun i b ob q1 q2 => ?_, fun b hb => ?_⟩, a, ?_, e1⟩
        · rcases List.mem_append.mp hm with hm | hm
          · exact nb hm
          · rw [List.mem_singleton] at hm; subst hm; exact (e.kept b u h nb).2 hm'
        · show (φ.l ++ [a]).length = _
          rw [List.length_append, List.length_append, htk]; rfl
        · show (φ.l ++ [a]).Nodup
          rw [List.nodup_append]
          refine ⟨sc.nd, by simp, fun c hc d hd => ?_⟩
          rw [List.mem_singleton] at hd; subst hd
          intro z; subst z; exact na hc
        · have q1 : (φ.l ++ [a])[i]? = some b := q1
          by_cases hi : i < φ.l.length
          · rw [List.getElem?_append_left hi] at q1
            rw [List.getElem?_append_left (by rw [htk]; exact hi), List.getElem?_take_of_lt hi] at q2
            exact orx (s.ob i b ob (by rw [← ht, List.getElem?_append_left hi]; exact q1) q2)
          · have hi2 : i = φ.l.length := by
              have := (List.getElem?_eq_some_iff.mp q1).1
              simp at this; omega
            subst hi2
            rw [List.getElem?_append_right (Nat.le_refl _)] at q1
            rw [List.getElem?_append_right (by rw [htk]; exact Nat.le_refl _), htk] at q2
            simp at q1 q2
            subst q1; subst q2
            exact orx (s.ob n a _ h1 hx)
        · obtain ⟨w1, us, w2⟩ := s.hid b (e.hsub hb)
          refine ⟨fun hm => ?_, us, w2⟩
          rcases List.mem_append.mp hm with hm | hm
          · exact w1 (e.pre.subset hm)
          · rw [List.mem_singleton] at hm; subst hm; exact w1 hm'
        · show (φ.l ++ [a])[φ.l.length]? = some a
          simp
      · cases h
theorem RWs.get {K : PySem.W.Frag} {mg : Str → Option Value} {H : Hp} {φ : Fi} : ∀ {ws : List W} {vs : List V} {i : Nat} {w : W}, RWs K H φ mg ws vs → ws[i]? = some w → ∃ v, vs[i]? = some v ∧ RW K H φ mg w v
  | [], _, _, _, _, e => by simp at e
  | _ :: _, _, 0, _, ⟨v, r, e, h, _⟩, e2 => by subst e; simp at e2; subst e2; exact ⟨v, rfl, h⟩
  | _ :: _, _, i + 1, d, ⟨v, r, e, _, h⟩, e2 => by
    subst e
    obtain ⟨u, h1, h2⟩ := RWs.get (i := i) (w := d) h (by simpa using e2)
    exact ⟨u, by simpa using h1, h2⟩
theorem start_er {K : PySem.W.Frag} {mg : Str → Option Value} {H : Hp} {φ : Fi} {ws : List W} {vs : List V} {N : List Str} (h : RWs K H φ mg ws vs) : ER K H φ mg (L2.start N vs) (startW N.length ws) := by
  have hl := h.length
  refine ⟨by simp [L2.start, startW, hl], fun i w q => ?_⟩
  unfold startW at q
  by_cases hi : i < ws.length
  · rw [List.getElem?_append_left (by simpa using hi), List.getElem?_map] at q
    obtain ⟨w', e1, e2⟩ := Option.map_eq_some_iff.mp q
    cases e2
    obtain ⟨v, h1, h2⟩ := h.get e1
    refine ⟨v, ?_, h2⟩
    unfold L2.start
    rw [List.getElem?_append_left (by simpa [hl] using hi), List.getElem?_map, h1]; rfl
  · rw [List.getElem?_append_right (by simpa using Nat.le_of_not_lt hi)] at q
    have := List.mem_of_getElem? q
    rw [List.mem_replicate] at this
    cases this.2
theorem mk_fn {P : Program} {w : World} {K : PySem.W.Frag} {mg : Str → Option Value} {base : Heap} {x qual : Str} {st : Stmt} {f : Addr} {fd : FuncData} {N ps : List Str} {k : Nat} {G : Nat → W → So → M W} {d : DS} (hG : GcOk G) (F : Fun K x qual st f fd) (Sc : FnScope N ps (defScope st))
    (hbody : ∀ (cdv : Value) (A : Around) (outer : List Env) (s : Shared) (H : Hp) (E : XK), A.guards = some [] → Room k (A.deeper (envOfC qual (defScope st) s.heap.objs.size f cdv)) → SSs (cxOf CX0 P w K mg base N qual (defScope st) f cdv A outer s H E).nox E (defBody st) d) :
    FnG P w K mg base CX0 (k + 1) f fd ps (spF K mg (fnB G ps.length N.length d)) := by
  refine fnG_of F Sc (fun vs H Q E h => ?_) (fun cdv A outer s H vs Q E hgd hr h => ?_)
  · obtain ⟨φ, S, ws, r, hs, hw, hF, hq⟩ := h
    unfold fnB at hF
    split at hF
    · rename_i hl; rw [hw.length, hl]
    · cases hF
  · refine ⟨_, (hbody cdv A outer s H E hgd hr).nox, ?_⟩
    obtain ⟨φ, S, ws, r, hs, hw, hF, hq⟩ := h
    unfold fnB at hF
    split at hF
    · have en := start_er (N := N) hw
      match hb : d (startW N.length ws) S, hF with
      | none, hF => cases hF
      | some (.nx σ' S'), hF =>
        cases hF
        exact ⟨φ, _, S, _, hs, en, hb, fun φ' H' σV' e s' _ => hq φ H' .non e.cut (s'.cut e hs.len) rfl⟩
      | some (.rt w S'), hF =>
        refine ⟨φ, _, S, _, hs, en, hb, fun φ' H' v e s' xw => ?_⟩
        dsimp only at hF
        rw [← hs.len] at hF
        obtain ⟨w2, S2, φ2, rfl, e2, s2, x2⟩ := hG K mg φ φ' H H' S' w v r e s' xw hF
        exact hq φ2 H' v e2 s2 x2
      | some (.xc y S'), hF =>
        cases hF
        refine ⟨φ, _, S, _, hs, en, hb, fun φ' H' e s' C hC => ?_⟩
        have := hq φ H' e.cut (s'.cut e hs.len) C hC
        exact ⟨this.1, fun a us h1 h2 => this.2 a us h1 (RDs.cut e h2)⟩
      | some (.bk _ _), hF => cases hF
      | some (.ct _ _), hF => cases hF
    · cases hF
end
end CL
end

section
/-! part CLOpA -/
set_option Elab.async false
set_option linter.all false
set_option maxRecDepth 100000
/-! CLOpA: numbers, comparisons, joins. -/
namespace CL
open PySem PySem.Spec PyProof.Rows L2

section
variable {X : Cx} {E : XK} {pos p : Pos}
theorem opw {f : Value → Value → Sem Value} {r r' : R2} (h : OpR X f r) (k : ∀ v1 v2 H Q, r' v1 v2 H Q → r v1 v2 H Q) : OpR X f r' :=
  fun pins s σ H x y v u Q I rx ry q => h pins s σ H x y v u Q I rx ry (k x y H Q q)
theorem callw {f : Value} {r r' : List V → Hp → VK → Prop} (h : CallR X f r) (k : ∀ vs H Q, r' vs H Q → r vs H Q) : CallR X f r' :=
  fun pins s σ H xs us Q I rx q => h pins s σ H xs us Q I rx (k xs H Q q)
/-- an operation on data as it is read -/
def on2 (f : PyData → PyData → Option PyData) : So → W → W → Option W := fun S x y => match rd S x, rd S y with
  | some a, some b => (f a b).map W.d
  | _, _ => none
@[simp] theorem on2_d (f : PyData → PyData → Option PyData) (S : So) (a b : PyData) : on2 f S (.d a) (.d b) = (f a b).map W.d := rfl
def on1 (f : PyData → Option PyData) : So → W → Option W := fun S x => match rd S x with
  | some a => (f a).map W.d
  | _ => none
@[simp] theorem on1_d (f : PyData → Option PyData) (S : So) (a : PyData) : on1 f S (.d a) = (f a).map W.d := rfl
theorem on2_of {f : PyData → PyData → Option PyData} {S : So} {x y w : W} (h : on2 f S x y = some w) : ∃ a b c, rd S x = some a ∧ rd S y = some b ∧ f a b = some c ∧ w = .d c := by
  unfold on2 at h
  split at h
  · rename_i a b h1 h2
    obtain ⟨c, h3, h4⟩ := Option.map_eq_some_iff.mp h
    exact ⟨a, b, c, h1, h2, h3, h4.symm⟩
  · cases h
theorem on1_of {f : PyData → Option PyData} {S : So} {x w : W} (h : on1 f S x = some w) : ∃ a c, rd S x = some a ∧ f a = some c ∧ w = .d c := by
  unfold on1 at h
  split at h
  · rename_i a h1
    obtain ⟨c, h3, h4⟩ := Option.map_eq_some_iff.mp h
    exact ⟨a, c, h1, h3, h4.symm⟩
  · cases h
section
variable {K : PySem.W.Frag} {mg : Str → Option Value} {H : Hp} {φ : Fi} {S : So}
theorem int_of {x : W} {v : V} {i : Int} (h : RW K H φ mg x v) (e : rd S x = some (.int i)) : v = .int i := by
  rw [rd_eq e (by simp)] at h; exact h
theorem bl_of {x : W} {v : V} {i : Bool} (h : RW K H φ mg x v) (e : rd S x = some (.bool i)) : v = .bl i := by
  rw [rd_eq e (by simp)] at h; exact h
theorem str_of {x : W} {v : V} {i : Str} (h : RW K H φ mg x v) (e : rd S x = some (.str i)) : v = .str i := by
  rw [rd_eq e (by simp)] at h; exact h
end
/-! ### whole numbers -/
def i2 (f : Int → Int → Option PyData) : PyData → PyData → Option PyData
  | .int a, .int b => f a b
  | _, _ => none
@[simp] theorem i2_ii (f : Int → Int → Option PyData) (a b : Int) : i2 f (.int a) (.int b) = f a b := rfl
theorem i2_of {f : Int → Int → Option PyData} {x y c : PyData} (h : i2 f x y = some c) : ∃ a b, x = .int a ∧ y = .int b ∧ f a b = some c := by
  unfold i2 at h
  split at h
  · exact ⟨_, _, rfl, rfl, h⟩
  · cases h
/-- an operator on two ints, from the layer's rule -/
theorem int_op {g : Value → Value → Sem Value} {C : Int → Int → Prop} {r : Int → Int → V} {f : Int → Int → Option PyData} (h : OpR X g (rI C r)) (k : ∀ a b c, f a b = some c → C a b ∧ ∀ H φ, RD X.K H φ c (r a b)) : OpR X g (rO X.K X.mg (on2 (i2 f))) :=
  opw h fun v1 v2 H Q ⟨φ, S, x, y, w, hs, hx, hy, hg, hq⟩ => by
    obtain ⟨a, b, c, h1, h2, h3, rfl⟩ := on2_of hg
    obtain ⟨i, j, rfl, rfl, h4⟩ := i2_of h3
    obtain ⟨q1, q2⟩ := k i j c h4
    exact ⟨i, j, int_of hx h1, int_of hy h2, q1, hq φ H _ .refl hs (q2 H φ)⟩
theorem int_op0 {g : Value → Value → Sem Value} {r : Int → Int → V} {f : Int → Int → Option PyData} (h : OpR X g (rI0 r)) (k : ∀ a b c, f a b = some c → ∀ H φ, RD X.K H φ c (r a b)) : OpR X g (rO X.K X.mg (on2 (i2 f))) :=
  opw h fun v1 v2 H Q ⟨φ, S, x, y, w, hs, hx, hy, hg, hq⟩ => by
    obtain ⟨a, b, c, h1, h2, h3, rfl⟩ := on2_of hg
    obtain ⟨i, j, rfl, rfl, h4⟩ := i2_of h3
    exact ⟨i, j, int_of hx h1, int_of hy h2, hq φ H _ .refl hs (k i j c h4 H φ)⟩
def mulI (a b : Int) : Option PyData := if (-18446744073709551616 < a ∧ a < 18446744073709551616) ∨ (-18446744073709551616 < b ∧ b < 18446744073709551616) then some (.int (a * b)) else none
theorem o_mul : OpR X (binaryOp .Mult) (rO X.K X.mg (on2 (i2 mulI))) := int_op op_mul fun a b c h => by
  unfold mulI at h
  split at h
  · rename_i hc
    cases h
    exact ⟨hc.imp (fun q => by constructor <;> omega) (fun q => by constructor <;> omega), fun _ _ => rfl⟩
  · cases h
def modI (a b : Int) : Option PyData := if 0 < b then some (.int (a % b)) else none
theorem o_mod : OpR X (binaryOp .Mod) (rO X.K X.mg (on2 (i2 modI))) := int_op op_mod fun a b c h => by
  unfold modI at h
  split at h
  · rename_i hc; cases h; exact ⟨hc, fun _ _ => rfl⟩
  · cases h
def divI (a b : Int) : Option PyData := if 0 < b ∧ b < 1073741824 then some (.int (a / b)) else none
theorem o_div : OpR X (binaryOp .FloorDiv) (rO X.K X.mg (on2 (i2 divI))) := int_op op_fdiv fun a b c h => by
  unfold divI at h
  split at h
  · rename_i hc; cases h; exact ⟨hc, fun _ _ => rfl⟩
  · cases h
def powI (a b : Int) : Option PyData := if 0 ≤ b ∧ b ≤ 1000 ∧ 0 ≤ a ∧ a < 1000000 then some (.int (a ^ b.toNat)) else none
theorem o_pow : OpR X (binaryOp .Pow) (rO X.K X.mg (on2 (i2 powI))) := int_op op_pow fun a b c h => by
  unfold powI at h
  split at h
  · rename_i hc; cases h; exact ⟨⟨hc.1, by omega, by omega⟩, fun _ _ => rfl⟩
  · cases h
def negI : PyData → Option PyData
  | .int a => some (.int (-a))
  | _ => none
theorem o_neg : UnR X (unaryOp .USub) (rU1 X.K X.mg (on1 negI)) := fun pins s σ H x v Q I rx ⟨φ, S, w0, w, hs, hx, hg, hq⟩ => by
  obtain ⟨a, c, h1, h2, rfl⟩ := on1_of hg
  cases a with
  | int i => cases h2; exact un_neg pins s σ H x v Q I rx ⟨i, int_of hx h1, hq φ H _ .refl hs rfl⟩
  | _ => cases h2
/-! ### order -/
mutual
def ltD : PyData → PyData → Bool
  | .bool a, .bool b => !a && b
  | .int a, .int b => decide (a < b)
  | .str a, .str b => decide (a.cps.toList < b.cps.toList)
  | .list xs, .list ys => ltDs xs ys
  | .tuple xs, .tuple ys => ltDs xs ys
  | _, _ => false
def ltDs : List PyData → List PyData → Bool
  | [], [] => false
  | [], _ :: _ => true
  | _ :: _, [] => false
  | x :: xs, y :: ys => if PyData.eqv x y = true then ltDs xs ys else ltD x y
end
mutual
theorem dataLt_eq : ∀ (x y : PyData), PySem.W.alike x y = true → PySem.W.dataLt x y = ltD x y
  | .none, .none, _ => by simp [PySem.W.dataLt, PySem.W.keyToks, ltD, PyProof.Rows.lexLt]
  | .bool a, .bool b, _ => by rw [PySem.W.dataLt_bool]; cases a <;> cases b <;> simp [ltD, b2i]
  | .int a, .int b, _ => by rw [PySem.W.dataLt_int]; rfl
  | .str a, .str b, _ => by rw [PySem.W.dataLt_str]; rfl
  | .list xs, .list ys, h => dataLts_eq xs ys (by simpa [PySem.W.alike] using h)
  | .tuple xs, .tuple ys, h => dataLts_eq xs ys (by simpa [PySem.W.alike] using h)
  | .none, .bool _, h | .none, .int _, h | .none, .str _, h | .none, .list _, h | .none, .tuple _, h | .none, .dict _, h => by simp [PySem.W.alike] at h
  | .bool _, .none, h | .bool _, .int _, h | .bool _, .str _, h | .bool _, .list _, h | .bool _, .tuple _, h | .bool _, .dict _, h => by simp [PySem.W.alike] at h
  | .int _, .none, h | .int _, .bool _, h | .int _, .str _, h | .int _, .list _, h | .int _, .tuple _, h | .int _, .dict _, h => by simp [PySem.W.alike] at h
  | .str _, .none, h | .str _, .bool _, h | .str _, .int _, h | .str _, .list _, h | .str _, .tuple _, h | .str _, .dict _, h => by simp [PySem.W.alike] at h
  | .list _, .none, h | .list _, .bool _, h | .list _, .int _, h | .list _, .str _, h | .list _, .tuple _, h | .list _, .dict _, h => by simp [PySem.W.alike] at h
  | .tuple _, .none, h | .tuple _, .bool _, h | .tuple _, .int _, h | .tuple _, .str _, h | .tuple _, .list _, h | .tuple _, .dict _, h => by simp [PySem.W.alike] at h
  | .dict _, .none, h | .dict _, .bool _, h | .dict _, .int _, h | .dict _, .str _, h | .dict _, .list _, h | .dict _, .tuple _, h | .dict _, .dict _, h => by simp [PySem.W.alike] at h
theorem dataLts_eq : ∀ (xs ys : List PyData), PySem.W.alikeAll xs ys = true → PySem.W.rowLt xs ys = ltDs xs ys
  | [], [], _ => by simp [PySem.W.rowLt, PySem.W.keyToksAll, ltDs, PyProof.Rows.lexLt, PyProof.Rows.itemLt]
  | [], _ :: _, _ => by simp [PySem.W.rowLt, PySem.W.keyToksAll, ltDs, PyProof.Rows.lexLt, PyProof.Rows.itemLt]
  | _ :: _, [], _ => by simp [PySem.W.rowLt, PySem.W.keyToksAll, ltDs, PyProof.Rows.lexLt, PyProof.Rows.itemLt]
  | x :: xs, y :: ys, h => by
    obtain ⟨h1, h2⟩ := PySem.W.alike_all_cons h
    unfold PySem.W.rowLt
    rw [PySem.W.dataLt_cons h1]
    unfold ltDs
    by_cases e : PyData.eqv x y = true
    · rw [if_pos e, if_pos e]; exact dataLts_eq xs ys h2
    · rw [if_neg e, if_neg e]; exact dataLt_eq x y h1
end
/-- x < y of alike data -/
def ltP (x y : PyData) : Option PyData := if PySem.W.alike x y = true ∧ eqD x .none = false ∧ decide (x.depth ≤ 60) = true then some (.bool (ltD x y)) else none
theorem o_lt (hu : X.A.units + 64 < cLine) : OpR X (compareOp .Lt) (rO X.K X.mg (on2 ltP)) := by
  intro pins s σ H x y v u Q I rx ry h
  obtain ⟨φ, S, w1, w2, w, hs, hx, hy, hg, hq⟩ := h
  obtain ⟨a, b, c, h1, h2, h3, rfl⟩ := on2_of hg
  unfold ltP at h3
  split at h3
  · rename_i hc
    obtain ⟨ha, hn, hd⟩ := hc
    cases h3
    obtain ⟨as, r1⟩ := Dp.reads I a x v (dp_of hs hx h1) rx
    obtain ⟨bs, r2⟩ := Dp.reads I b y u (dp_of hs hy h2) ry
    have hd := of_decide_eq_true hd
    refine PySem.W.rcLt_alike a b X.A s v u as bs r1 r2 ha (fun e => by subst e; simp [eqD] at hn) ?_ X.prog X.w X.xe _ ?_
    · have : min a.depth b.depth ≤ a.depth := Nat.min_le_left _ _
      omega
    · rw [dataLt_eq a b ha]
      exact ⟨.bl _, H, I, rfl, hq φ H _ .refl hs rfl⟩
  · cases h3
def cmpI (f : Int → Int → Bool) (a b : Int) : Option PyData := some (.bool (f a b))
def leI (a b : Int) : Option PyData := some (.bool (decide (a ≤ b)))
def gtI (a b : Int) : Option PyData := some (.bool (decide (b < a)))
def geI (a b : Int) : Option PyData := some (.bool (decide (b ≤ a)))
theorem o_leI : OpR X (compareOp .LtE) (rO X.K X.mg (on2 (i2 leI))) := int_op0 op_le fun a b c h => by cases h; exact fun _ _ => rfl
theorem o_gtI : OpR X (compareOp .Gt) (rO X.K X.mg (on2 (i2 gtI))) := int_op0 op_gt fun a b c h => by cases h; exact fun _ _ => rfl
theorem o_geI : OpR X (compareOp .GtE) (rO X.K X.mg (on2 (i2 geI))) := int_op0 op_ge fun a b c h => by cases h; exact fun _ _ => rfl
/-- x <= y of texts -/
def s2 (f : Str → Str → Option PyData) : PyData → PyData → Option PyData
  | .str a, .str b => f a b
  | _, _ => none
@[simp] theorem s2_ss (f : Str → Str → Option PyData) (a b : Str) : s2 f (.str a) (.str b) = f a b := rfl
theorem s2_of {f : Str → Str → Option PyData} {x y c : PyData} (h : s2 f x y = some c) : ∃ a b, x = .str a ∧ y = .str b ∧ f a b = some c := by
  unfold s2 at h
  split at h
  · exact ⟨_, _, rfl, rfl, h⟩
  · cases h
def leSs (a b : Str) : Option PyData := some (.bool (!decide (b.cps.toList < a.cps.toList)))
def leS : PyData → PyData → Option PyData := s2 leSs
theorem o_leS : OpR X (compareOp .LtE) (rO X.K X.mg (on2 leS)) :=
  opw op_le_str fun v1 v2 H Q ⟨φ, S, x, y, w, hs, hx, hy, hg, hq⟩ => by
    obtain ⟨a, b, c, h1, h2, h3, rfl⟩ := on2_of hg
    obtain ⟨i, j, rfl, rfl, h4⟩ := s2_of h3
    cases h4
    exact ⟨i, j, str_of hx h1, str_of hy h2, hq φ H _ .refl hs rfl⟩
/-- c in t, of texts -/
def inS (a b : Str) : Bool := !(Builtin.Str.occurrences b a 0 b.length 1).isEmpty
/-! ### == and in, of data -/
def okD (x : PyData) : Bool := SeqAt.shaped x
def eqP (x y : PyData) : Option PyData := if (okD x && okD y) = true then some (.bool (PyData.eqv x y)) else none
def neP (x y : PyData) : Option PyData := if (okD x && okD y) = true then some (.bool (!PyData.eqv x y)) else none
theorem o_eq (hu : X.A.units + 64 < cLine) : OpR X (compareOp .Eq) (rO X.K X.mg (on2 eqP)) :=
  opw (op_eqD hu) fun v1 v2 H Q ⟨φ, S, x, y, w, hs, hx, hy, hg, hq⟩ => by
    obtain ⟨a, b, c, h1, h2, h3, rfl⟩ := on2_of hg
    unfold eqP at h3
    split at h3
    · rename_i hc
      rw [Bool.and_eq_true] at hc
      cases h3
      exact ⟨a, b, dp_of hs hx h1, dp_of hs hy h2, hc.1, hc.2, hq φ H _ .refl hs rfl⟩
    · cases h3
theorem o_ne (hu : X.A.units + 64 < cLine) : OpR X (compareOp .NotEq) (rO X.K X.mg (on2 neP)) :=
  opw (op_neD hu) fun v1 v2 H Q ⟨φ, S, x, y, w, hs, hx, hy, hg, hq⟩ => by
    obtain ⟨a, b, c, h1, h2, h3, rfl⟩ := on2_of hg
    unfold neP at h3
    split at h3
    · rename_i hc
      rw [Bool.and_eq_true] at hc
      cases h3
      exact ⟨a, b, dp_of hs hx h1, dp_of hs hy h2, hc.1, hc.2, hq φ H _ .refl hs rfl⟩
    · cases h3
def memD (x : PyData) (ys : List PyData) : Bool := ys.any fun z => PyData.eqv z x
/-- x in y: y a list, a tuple, a text -/
def inP (neg : Bool) : PyData → PyData → Option PyData
  | x, .list ys => if (okD x && okD (.list ys)) = true then some (.bool (memD x ys ^^ neg)) else none
  | x, .tuple ys => if (okD x && okD (.tuple ys)) = true then some (.bool (memD x ys ^^ neg)) else none
  | .str a, .str b => some (.bool (inS a b ^^ neg))
  | _, _ => none
theorem o_in (hu : X.A.units + 65 < cLine) : OpR X (compareOp .In) (rO X.K X.mg (on2 (inP false))) := by
  intro pins s σ H x y v u Q I rx ry h
  obtain ⟨φ, S, w1, w2, w, hs, hx, hy, hg, hq⟩ := h
  obtain ⟨a, b, c, h1, h2, h3, rfl⟩ := on2_of hg
  unfold inP at h3
  split at h3
  · rename_i ys
    split at h3
    · rename_i hc
      rw [Bool.and_eq_true] at hc
      cases h3
      refine op_inD hu pins s σ H x y v u Q I rx ry ⟨_, _, dp_of hs hx h1, dp_of hs hy h2, hc.1, hc.2, ?_⟩
      have := hq φ H (.bl (memD a ys ^^ false)) .refl hs rfl
      rw [Bool.xor_false] at this
      exact this
    · cases h3
  · rename_i ys
    split at h3
    · rename_i hc
      rw [Bool.and_eq_true] at hc
      cases h3
      obtain ⟨as, r1⟩ := Dp.reads I a x v (dp_of hs hx h1) rx
      obtain ⟨bs, r2⟩ := Dp.reads I (.tuple ys) y u (dp_of hs hy h2) ry
      refine SeqAt.in_tuple_reads r2 r1 (SeqAt.canLay_of_shaped hc.2) (SeqAt.canLay_of_shaped hc.1) (room_in_shaped hc.1 hu) ⟨.bl _, H, I, rfl, ?_⟩
      have := hq φ H (.bl (memD a ys ^^ false)) .refl hs rfl
      rw [Bool.xor_false] at this
      exact this
    · cases h3
  · rename_i i j
    cases h3
    refine op_in_str pins s σ H x y v u Q I rx ry ⟨i, j, str_of hx h1, str_of hy h2, ?_⟩
    have := hq φ H (.bl (inS i j ^^ false)) .refl hs rfl
    rw [Bool.xor_false] at this
    exact this
  · cases h3
theorem o_notin (hu : X.A.units + 65 < cLine) : OpR X (compareOp .NotIn) (rO X.K X.mg (on2 (inP true))) := by
  intro pins s σ H x y v u Q I rx ry h
  obtain ⟨φ, S, w1, w2, w, hs, hx, hy, hg, hq⟩ := h
  obtain ⟨a, b, c, h1, h2, h3, rfl⟩ := on2_of hg
  unfold inP at h3
  split at h3
  · rename_i ys
    split at h3
    · rename_i hc
      rw [Bool.and_eq_true] at hc
      cases h3
      refine op_notInD hu pins s σ H x y v u Q I rx ry ⟨_, _, dp_of hs hx h1, dp_of hs hy h2, hc.1, hc.2, ?_⟩
      have := hq φ H (.bl (memD a ys ^^ true)) .refl hs rfl
      rw [Bool.xor_true] at this
      exact this
    · cases h3
  · rename_i ys
    split at h3
    · rename_i hc
      rw [Bool.and_eq_true] at hc
      cases h3
      obtain ⟨as, r1⟩ := Dp.reads I a x v (dp_of hs hx h1) rx
      obtain ⟨bs, r2⟩ := Dp.reads I (.tuple ys) y u (dp_of hs hy h2) ry
      refine SeqAt.notIn_tuple_reads r2 r1 (SeqAt.canLay_of_shaped hc.2) (SeqAt.canLay_of_shaped hc.1) (room_in_shaped hc.1 hu) ⟨.bl _, H, I, rfl, ?_⟩
      have := hq φ H (.bl (memD a ys ^^ true)) .refl hs rfl
      rw [Bool.xor_true] at this
      exact this
    · cases h3
  · rename_i i j
    cases h3
    refine op_notIn_str pins s σ H x y v u Q I rx ry ⟨i, j, str_of hx h1, str_of hy h2, ?_⟩
    have := hq φ H (.bl (inS i j ^^ true)) .refl hs rfl
    rw [Bool.xor_true] at this
    exact this
  · cases h3
/-! ### is -/
def isN (neg : Bool) : So → W → W → Option W := fun _ x y => match y with
  | .d .none => match x with
    | .d .none => some (.d (.bool (true ^^ neg)))
    | _ => some (.d (.bool (false ^^ neg)))
  | _ => none
theorem non_iff {K : PySem.W.Frag} {mg : Str → Option Value} {H : Hp} {φ : Fi} : ∀ {x : W} {v : V}, RW K H φ mg x v → (v = .non ↔ x = .d .none)
  | .d .none, _, h => by cases h; simp
  | .d (.bool _), _, h => by cases h; simp
  | .d (.int _), _, h => by cases h; simp
  | .d (.str _), _, h => by cases h; simp
  | .d (.list _), _, ⟨a, vs, e, _⟩ => by subst e; simp
  | .d (.tuple _), _, ⟨a, vs, e, _⟩ => by subst e; simp
  | .d (.dict _), _, h => h.elim
  | .r _, _, ⟨a, _, e⟩ => by subst e; simp
  | .g _, _, ⟨a, _, e⟩ => by subst e; simp
  | .s _, _, ⟨a, vs, e, _⟩ => by subst e; simp
theorem isN_val {x y w : W} {S : So} {neg : Bool} (h : isN neg S x y = some w) : y = .d .none ∧ ((x = .d .none ∧ w = .d (.bool (true ^^ neg))) ∨ (x ≠ .d .none ∧ w = .d (.bool (false ^^ neg)))) := by
  unfold isN at h
  split at h
  · split at h
    · cases h; exact ⟨rfl, .inl ⟨rfl, rfl⟩⟩
    · rename_i hx; cases h; exact ⟨rfl, .inr ⟨fun e => hx e, rfl⟩⟩
  · cases h
theorem o_is : OpR X (compareOp .Is) (rO X.K X.mg (isN false)) :=
  opw op_isN fun v1 v2 H Q ⟨φ, S, x, y, w, hs, hx, hy, hg, hq⟩ => by
    obtain ⟨rfl, h⟩ := isN_val hg
    refine ⟨hy, ?_⟩
    rcases h with ⟨h, rfl⟩ | ⟨h, rfl⟩
    · rw [decide_eq_true ((non_iff hx).mpr h)]; exact hq φ H _ .refl hs rfl
    · rw [decide_eq_false fun e => h ((non_iff hx).mp e)]; exact hq φ H _ .refl hs rfl
theorem o_isnot : OpR X (compareOp .IsNot) (rO X.K X.mg (isN true)) :=
  opw op_notN fun v1 v2 H Q ⟨φ, S, x, y, w, hs, hx, hy, hg, hq⟩ => by
    obtain ⟨rfl, h⟩ := isN_val hg
    refine ⟨hy, ?_⟩
    rcases h with ⟨h, rfl⟩ | ⟨h, rfl⟩
    · rw [decide_eq_true ((non_iff hx).mpr h)]; exact hq φ H _ .refl hs rfl
    · rw [decide_eq_false fun e => h ((non_iff hx).mp e)]; exact hq φ H _ .refl hs rfl
/-! ### + and - -/
theorem cat_lists : OpR X (binaryOp .Add) (fun x y H Q => ∃ l b xs zs, x = .ref l ∧ y = .ref b ∧ Rd H l (.lst xs) ∧ Rd H b (.lst zs) ∧ xs.length + zs.length ≤ sizeLine ∧ ∀ p, H p = none → Q (.ref p) (upd H p (.lst (xs ++ zs)))) := by
  intro pins s σ H x y v u Q I rx ry h
  obtain ⟨l, b, xs, zs, rfl, rfl, hl, hb, hz, q⟩ := h
  cases rx
  cases ry
  obtain ⟨_, its, n, r, e⟩ := hl.ok I.hok
  obtain ⟨_, its2, n2, r2, e2⟩ := hb.ok I.hok
  have z1 := r.length
  have z2 := r2.length
  refine PySem.P.add_list e e2 ?_ (by rw [List.size_toArray, List.size_toArray]; omega)
  rw [show its.toArray ++ its2.toArray = (its ++ its2).toArray by simp]
  exact ⟨.ref _, _, I.lnew (t' := s.toks) (r.append r2) (by rw [List.length_append]; omega), rfl, q _ I.fresh⟩
def addP : PyData → PyData → Option PyData
  | .int a, .int b => some (.int (a + b))
  | .bool a, .int b => some (.int ((if a = true then 1 else 0) + b))
  | .str a, .str b => if small (a.length + b.length) = true then some (.str (a ++ b)) else none
  | .list a, .list b => if small (a.length + b.length) = true then some (.list (a ++ b)) else none
  | .tuple a, .tuple b => if small (a.length + b.length) = true then some (.tuple (a ++ b)) else none
  | _, _ => none
theorem rd_fl {K : PySem.W.Frag} {mg : Str → Option Value} {H : Hp} {φ : Fi} {S : So} {w : W} {v : V} {ds : List PyData} (hs : SR K H φ S) (h : RW K H φ mg w v) (e : rd S w = some (.list ds)) (hns : ∀ xs, w ≠ .s xs) : ∃ a vs, v = .ref a ∧ Rd H a (.lst vs) ∧ RDs K H φ ds vs := by
  cases w with
  | d x => cases e; obtain ⟨a, vs, e1, h1, h2⟩ := h; exact ⟨a, vs, e1, h1.1, h2⟩
  | r n =>
    obtain ⟨a, h1, e1⟩ := h
    obtain ⟨o, h2, h3⟩ := hs.get h1
    unfold rd at e
    simp only [h2] at e
    cases o with
    | lst xs => cases e; obtain ⟨vs, q1, q2⟩ := h3; exact ⟨a, vs, e1, .inl q1, q2⟩
    | dk _ => cases e
    | dt _ => cases e
    | lkK _ => cases e
    | lkT _ => cases e
  | g x => cases e
  | s xs => exact absurd rfl (hns xs)
/-- + : not of the script itself -/
def notS : W → Bool
  | .s _ => false
  | _ => true
def addW : So → W → W → Option W := fun S x y => if (notS x && notS y) = true then on2 addP S x y else none
@[simp] theorem addW_d (S : So) (a b : PyData) : addW S (.d a) (.d b) = (addP a b).map W.d := rfl
theorem o_add : OpR X (binaryOp .Add) (rO X.K X.mg addW) := by
  intro pins s σ H x y v u Q I rx ry h
  obtain ⟨φ, S, w1, w2, w, hs, hx, hy, hg, hq⟩ := h
  unfold addW at hg
  split at hg
  · rename_i hns
    rw [Bool.and_eq_true] at hns
    have n1 : ∀ xs, w1 ≠ .s xs := fun xs e => by subst e; exact absurd hns.1 (by simp [notS])
    have n2 : ∀ xs, w2 ≠ .s xs := fun xs e => by subst e; exact absurd hns.2 (by simp [notS])
    obtain ⟨a, b, c, h1, h2, h3, rfl⟩ := on2_of hg
    unfold addP at h3
    split at h3
    · cases h3
      exact op_add pins s σ H x y v u Q I rx ry ⟨_, _, int_of hx h1, int_of hy h2, hq φ H _ .refl hs rfl⟩
    · cases h3
      have e1 := bl_of hx h1
      have e2 := int_of hy h2
      subst e1; subst e2
      cases rx
      obtain ⟨t, rfl⟩ := ry
      exact PySem.IntBool.add_bool_int ⟨.int _, H, I.tok _, ⟨_, rfl⟩, hq φ H _ .refl hs rfl⟩
    · split at h3
      · rename_i hz
        cases h3
        exact op_add_str pins s σ H x y v u Q I rx ry ⟨_, _, str_of hx h1, str_of hy h2, small_le hz, hq φ H _ .refl hs rfl⟩
      · cases h3
    · split at h3
      · rename_i hz
        cases h3
        obtain ⟨l1, vs1, e1, f1, r1⟩ := rd_fl hs hx h1 n1
        obtain ⟨l2, vs2, e2, f2, r2⟩ := rd_fl hs hy h2 n2
        refine cat_lists pins s σ H x y v u Q I rx ry ⟨l1, l2, vs1, vs2, e1, e2, f1, f2, by rw [r1.length, r2.length]; exact small_le hz, fun p hp => ?_⟩
        have e := Ext.new (o := .lst (vs1 ++ vs2)) hp hs
        exact hq φ _ _ e (hs.new hp) ⟨p, _, rfl, newFL hs hp, RDs.mono e _ _ (RDs.append r1 r2)⟩
      · cases h3
    · split at h3
      · rename_i hz
        cases h3
        obtain ⟨l1, vs1, e1, f1, r1⟩ := tup_of hx h1
        obtain ⟨l2, vs2, e2, f2, r2⟩ := tup_of hy h2
        refine op_catA pins s σ H x y v u Q I rx ry ⟨l1, l2, vs1, vs2, e1, e2, f1.sq, f2.sq, by rw [r1.length, r2.length]; exact small_le hz, fun hz1 => ?_, fun hz1 hz2 => ?_, fun _ _ p hp => ?_⟩
        · have := r1.length
          rw [hz1] at this
          rw [List.length_eq_zero_iff.mp this.symm, List.nil_append] at hq
          exact hq φ H _ .refl hs ⟨l2, vs2, rfl, f2, r2⟩
        · have := r2.length
          rw [hz2] at this
          rw [List.length_eq_zero_iff.mp this.symm, List.append_nil] at hq
          exact hq φ H _ .refl hs ⟨l1, vs1, rfl, f1, r1⟩
        · have e := Ext.new (o := .tup (vs1 ++ vs2)) hp hs
          exact hq φ _ _ e (hs.new hp) ⟨p, _, rfl, upd_same, RDs.mono e _ _ (RDs.append r1 r2)⟩
      · cases h3
    · cases h3
  · cases hg
def subP : PyData → PyData → Option PyData
  | .int a, .int b => some (.int (a - b))
  | .bool a, .int b => some (.int ((if a = true then 1 else 0) - b))
  | _, _ => none
theorem o_sub : OpR X (binaryOp .Sub) (rO X.K X.mg (on2 subP)) := by
  intro pins s σ H x y v u Q I rx ry h
  obtain ⟨φ, S, w1, w2, w, hs, hx, hy, hg, hq⟩ := h
  obtain ⟨a, b, c, h1, h2, h3, rfl⟩ := on2_of hg
  unfold subP at h3
  split at h3
  · cases h3
    exact op_sub pins s σ H x y v u Q I rx ry ⟨_, _, int_of hx h1, int_of hy h2, hq φ H _ .refl hs rfl⟩
  · cases h3
    have e1 := bl_of hx h1
    have e2 := int_of hy h2
    subst e1; subst e2
    cases rx
    obtain ⟨t, rfl⟩ := ry
    exact PySem.IntBool.sub_bool_int ⟨.int _, H, I.tok _, ⟨_, rfl⟩, hq φ H _ .refl hs rfl⟩
  · cases h3
/-! ### chains of two comparisons -/
def dChain (g g' : So → W → W → Option W) (a b c : DE) : DE := fun σ S => bnd (a σ S) fun x S1 => bnd (b σ S1) fun y S2 => match (g S2 x y).bind bOf with
  | none => none
  | some false => some (.ok (.d (.bool false)) S2)
  | some true => bnd (c σ S2) fun z S3 => giv (g' S3 y z) S3
variable {a b c : Expr} {da db dc : DE}
theorem chain_rd {g g' : So → W → W → Option W} (σV : L2.St) (H : Hp) (Q : VK) (h : tE X.K X.mg E (dChain g g' da db dc) σV H Q) :
    tChain (rO X.K X.mg g) (rO X.K X.mg g') (tE X.K X.mg E da) (tE X.K X.mg E db) (tE X.K X.mg E dc) σV H Q := by
  obtain ⟨φ, σ, S, r', hs, he, hd, hq⟩ := h
  unfold dChain at hd
  match ha : da σ S, hd with
  | none, hd => cases hd
  | some (.xc x S1), hd => cases hd; exact ⟨φ, σ, S, .xc x S1, hs, he, ha, hq⟩
  | some (.ok x S1), hd =>
    refine ⟨φ, σ, S, .ok x S1, hs, he, ha, fun φ1 H1 v1 e1 s1 x1 => ?_⟩
    rw [bnd_ok] at hd
    match hb : db σ S1, hd with
    | none, hd => cases hd
    | some (.xc y S2), hd => cases hd; exact ⟨φ1, σ, S1, .xc y S2, s1, he.mono e1, hb, XR.keep e1 hq⟩
    | some (.ok y S2), hd =>
      refine ⟨φ1, σ, S1, .ok y S2, s1, he.mono e1, hb, fun φ2 H2 v2 e2 s2 y2 => ?_⟩
      rw [bnd_ok] at hd
      match hgb : (g S2 x y).bind bOf, hd with
      | none, hd => cases hd
      | some k, hd =>
        obtain ⟨w, hw, hk⟩ := Option.bind_eq_some_iff.mp hgb
        rw [bOf_eq hk] at hw
        refine ⟨φ2, S2, x, y, _, s2, x1.mono e2, y2, hw, fun φ3 H3 v3 e3 s3 x3 => ⟨k, x3, ?_⟩⟩
        have e13 := (e1.trans e2).trans e3
        cases k with
        | false =>
          refine iteF ?_
          cases hd
          exact hq φ3 H3 _ e13 s3 rfl
        | true =>
          refine iteT ?_
          dsimp only at hd
          match hc : dc σ S2, hd with
          | none, hd => cases hd
          | some (.xc z S4), hd => cases hd; exact ⟨φ3, σ, S2, .xc z S4, s3, he.mono e13, hc, XR.keep e13 hq⟩
          | some (.ok z S4), hd =>
            refine ⟨φ3, σ, S2, .ok z S4, s3, he.mono e13, hc, fun φ4 H4 v4 e4 s4 z4 => ?_⟩
            rw [bnd_ok] at hd
            match hg' : g' S4 y z, hd with
            | none, hd => cases hd
            | some w', hd =>
              cases hd
              exact ⟨φ4, S4, y, z, w', s4, (y2.mono e3).mono e4, z4, hg', fun φ' H' v e' => hq φ' H' v (e13.trans (e4.trans e'))⟩
theorem e_chain {op op' : CmpOp} {g g' : So → W → W → Option W} (ho : OpR X (compareOp op) (rO X.K X.mg g)) (ho' : OpR X (compareOp op') (rO X.K X.mg g')) (ha : SE X E a da) (hb : SE X E b db) (hc : SE X E c dc)
    (hm : lastMarks [op, op'] [b, c] = false := by with_unfolding_all rfl) : SE X E (.Compare a [op, op'] [b, c] pos) (dChain g g' da db dc) := PEw (pe_chain ho ho' ha hb hc hm) chain_rd
theorem t_chain {op op' : CmpOp} {g g' : So → W → W → Option W} (ho : OpR X (compareOp op) (rO X.K X.mg g)) (ho' : OpR X (compareOp op') (rO X.K X.mg g')) (ha : SE X E a da) (hb : SE X E b db) (hc : SE X E c dc)
    (hm : lastMarks [op, op'] [b, c] = false := by with_unfolding_all rfl) : ST X E (.Compare a [op, op'] [b, c] pos) (dB (dChain g g' da db dc)) :=
  PTw (pt_chain ho ho' ha hb hc hm) fun σV H Q h => chain_rd σV H _ (b_rd σV H Q h)
end
end CL
end

section
/-! part CLOpB -/
set_option Elab.async false
set_option linter.all false
set_option maxRecDepth 100000
/-! CLOpB: items, slices, len, tuple, list, all, isinstance, repr, str, texts, zip, methods of lists and texts. -/
namespace CL
open PySem PySem.Spec PyProof.Rows L2

section
variable {X : Cx} {E : XK} {pos p : Pos} {a b : Expr} {da db : DE}
/-! ### x[i] -/
def atP : PyData → PyData → Option PyData
  | .list xs, .int i => L2.atI xs i
  | .tuple xs, .int i => L2.atI xs i
  | .str z, .int i => if small z.length = true then (L2.atI z.cps.toList i).map fun c => .str ⟨#[c]⟩ else none
  | _, _ => none
theorem RDs.at_ {K : PySem.W.Frag} {H : Hp} {φ : Fi} {ds : List PyData} {vs : List V} {i : Int} {d : PyData} (h : RDs K H φ ds vs) (e : L2.atI ds i = some d) : ∃ v, L2.atI vs i = some v ∧ RD K H φ d v := by
  unfold L2.atI at e ⊢
  obtain ⟨j, h1, h2⟩ := Option.bind_eq_some_iff.mp e
  obtain ⟨v, h3, h4⟩ := h.get h2
  exact ⟨v, by rw [h.length, h1]; exact h3, h4⟩
theorem ix_rd (v1 v2 : V) (H : Hp) (Q : VK) (h : rO X.K X.mg (on2 atP) v1 v2 H Q) : rIx X.K v1 v2 H Q := by
  obtain ⟨φ, S, x, y, w, hs, hx, hy, hg, hq⟩ := h
  obtain ⟨c, d, e, h1, h2, h3, rfl⟩ := on2_of hg
  unfold atP at h3
  split at h3
  · rename_i xs i
    obtain ⟨l, vs, e1, f1, r1⟩ := seqL_of hs hx h1
    obtain ⟨v, q1, q2⟩ := r1.at_ h3
    exact .inl ⟨l, vs, i, v, e1, int_of hy h2, f1, q1, hq φ H v .refl hs q2⟩
  · rename_i xs i
    obtain ⟨l, vs, e1, f1, r1⟩ := seqT_of hx h1
    obtain ⟨v, q1, q2⟩ := r1.at_ h3
    exact .inr (.inl ⟨l, vs, i, v, e1, int_of hy h2, f1, q1, hq φ H v .refl hs q2⟩)
  · rename_i z i
    split at h3
    · rename_i hz
      obtain ⟨c, q1, q2⟩ := Option.map_eq_some_iff.mp h3
      subst q2
      exact .inr (.inr ⟨z, i, c, str_of hx h1, int_of hy h2, small_le hz, q1, hq φ H _ .refl hs rfl⟩)
    · cases h3
  · cases h3
def dIx (a b : DE) : DE := dBin (on2 atP) a b
theorem e_ix (ha : SE X E a da) (hb : SE X E b db) (hp : PlainIx b := by intro _ _; rfl) : SE X E (.Subscript a b pos) (dIx da db) :=
  PEw (pe_ix ix_seq ha hb hp) fun σV H Q h => bin_rd ix_rd σV H Q h
/-! ### x[lo:hi] -/
abbrev DO := En → So → M (Option Int)
section
variable (K : PySem.W.Frag) (mg : Str → Option Value) (E : XK)
def oO (φ : Fi) (H : Hp) (Q : Option Int → Hp → Prop) : RE (Option Int) → Prop
  | .ok w S' => ∀ φ' H', Ext φ H φ' H' → SR K H' φ' S' → Q w H'
  | .xc x S' => ∀ φ' H', Ext φ H φ' H' → SR K H' φ' S' → XR K mg E x H' φ'
def tO (d : DO) : TO := fun σV H Q => ∃ φ σ S r, SR K H φ S ∧ ER K H φ mg σV σ ∧ d σ S = some r ∧ oO K mg E φ H Q r
end
abbrev SO (X : Cx) (E : XK) (e : Option Expr) (d : DO) : Prop := PO X e (tO X.K X.mg E d)
theorem POw {e : Option Expr} {t t' : TO} (h : PO X e t) (k : ∀ σ H Q, t' σ H Q → t σ H Q) : PO X e t' := ⟨fun pins s σ H Q I q => h.run pins s σ H Q I (k σ H Q q)⟩
def dNoP : DO := fun _ S => some (.ok none S)
def intW : W → Option Int
  | .d (.int i) => some i
  | _ => none
def dPt (d : DE) : DO := fun σ S => bnd (d σ S) fun w S1 => giv ((intW w).map some) S1
theorem p_no : SO X E none dNoP := POw po_none fun σV H Q ⟨φ, σ, S, r, hs, he, hd, hq⟩ => by cases hd; exact hq φ H .refl hs
theorem intW_of {w : W} {i : Int} (h : intW w = some i) : w = .d (.int i) := by
  unfold intW at h; split at h
  · cases h; rfl
  · cases h
theorem p_e (ha : SE X E a da) : SO X E (some a) (dPt da) := by
  refine POw (po_some ha) fun σV H Q q => ?_
  obtain ⟨φ, σ, S, r', hs, he, hd, hq⟩ := q
  unfold dPt at hd
  match ha : da σ S, hd with
  | none, hd => cases hd
  | some (.xc x S1), hd => cases hd; exact ⟨φ, σ, S, .xc x S1, hs, he, ha, hq⟩
  | some (.ok x S1), hd =>
    rw [bnd_ok] at hd
    match hi : intW x, hd with
    | none, hd => cases hd
    | some i, hd =>
      cases hd
      rw [intW_of hi] at ha
      exact ⟨φ, σ, S, .ok (.d (.int i)) S1, hs, he, ha, fun φ1 H1 v1 e1 s1 x1 => ⟨i, x1, hq φ1 H1 e1 s1⟩⟩
def cutG {α : Type} (xs : List α) (lo hi : Option Int) : List α := (xs.drop (HT.sIx xs.length 0 lo)).take (HT.sIx xs.length xs.length hi - HT.sIx xs.length 0 lo)
theorem RDs.cutG {K : PySem.W.Frag} {H : Hp} {φ : Fi} {ds : List PyData} {vs : List V} {lo hi : Option Int} (h : RDs K H φ ds vs) : RDs K H φ (cutG ds lo hi) (cutV vs lo hi) := by
  unfold CL.cutG L2.cutV
  rw [h.length]
  exact RDs.take _ (RDs.drop _ h)
/-- of a tuple, of a text -/
def cutP (lo hi : Option Int) : PyData → Option PyData
  | .tuple xs => some (.tuple (cutG xs lo hi))
  | .str z => if small z.length = true then some (.str (Txt.slice z lo hi)) else none
  | _ => none
def dSl (a : DE) (l h : DO) : DE := fun σ S => bnd (a σ S) fun w S1 => bnd (l σ S1) fun lo S2 => bnd (h σ S2) fun hi S3 => giv ((rd S3 w).bind fun x => (cutP lo hi x).map W.d) S3
theorem sIx_whole {n : Nat} {lo hi : Option Int} {α : Type} {xs : List α} (hn : xs.length = n) (h : HT.sIx n 0 lo = 0 ∧ HT.sIx n n hi = n) : CL.cutG xs lo hi = xs := by
  unfold CL.cutG
  rw [hn, h.1, h.2, ← hn]
  simp
theorem sl_rd {dl dh : DO} (σV : L2.St) (H : Hp) (Q : VK) (h : tE X.K X.mg E (dSl da dl dh) σV H Q) :
    tSl (fun x lo hi H Q => rSlA X.K x lo hi H Q ∨ C8.rSlX x lo hi H Q) (tE X.K X.mg E da) (tO X.K X.mg E dl) (tO X.K X.mg E dh) σV H Q := by
  obtain ⟨φ, σ, S, r', hs, he, hd, hq⟩ := h
  unfold dSl at hd
  match ha : da σ S, hd with
  | none, hd => cases hd
  | some (.xc x S1), hd => cases hd; exact ⟨φ, σ, S, .xc x S1, hs, he, ha, hq⟩
  | some (.ok x S1), hd =>
    refine ⟨φ, σ, S, .ok x S1, hs, he, ha, fun φ1 H1 v1 e1 s1 x1 => ?_⟩
    rw [bnd_ok] at hd
    match hb : dl σ S1, hd with
    | none, hd => cases hd
    | some (.xc y S2), hd => cases hd; exact ⟨φ1, σ, S1, .xc y S2, s1, he.mono e1, hb, XR.keep e1 hq⟩
    | some (.ok lo S2), hd =>
      refine ⟨φ1, σ, S1, .ok lo S2, s1, he.mono e1, hb, fun φ2 H2 e2 s2 => ?_⟩
      rw [bnd_ok] at hd
      have e12 := e1.trans e2
      match hc : dh σ S2, hd with
      | none, hd => cases hd
      | some (.xc y S3), hd => cases hd; exact ⟨φ2, σ, S2, .xc y S3, s2, he.mono e12, hc, XR.keep e12 hq⟩
      | some (.ok hi S3), hd =>
        refine ⟨φ2, σ, S2, .ok hi S3, s2, he.mono e12, hc, fun φ3 H3 e3 s3 => ?_⟩
        rw [bnd_ok] at hd
        have e13 := e12.trans e3
        have x3 := (x1.mono e2).mono e3
        match hg : (rd S3 x).bind fun x => (cutP lo hi x).map W.d, hd with
        | none, hd => cases hd
        | some w, hd =>
          cases hd
          obtain ⟨y, h1, h2⟩ := Option.bind_eq_some_iff.mp hg
          obtain ⟨z, h3, h4⟩ := Option.map_eq_some_iff.mp h2
          subst h4
          unfold cutP at h3
          split at h3
          · cases h3
            obtain ⟨l, vs, e5, f1, r1⟩ := tup_of x3 h1
            refine .inl ⟨l, vs, e5, f1.sq, fun hw => ?_, fun hw p hp => ?_⟩
            · have e6 := sIx_whole (lo := lo) (hi := hi) r1.length.symm hw
              exact hq φ3 H3 _ e13 s3 ⟨l, vs, rfl, f1, by rw [e6]; exact r1⟩
            · have e := Ext.new (o := .tup (cutV vs lo hi)) hp s3
              exact hq φ3 _ _ (e13.trans e) (s3.new hp) ⟨p, _, rfl, upd_same, RDs.mono e _ _ r1.cutG⟩
          · split at h3
            · rename_i hz
              cases h3
              exact .inr ⟨_, str_of x3 h1, small_le hz, hq φ3 H3 _ e13 s3 rfl⟩
            · cases h3
          · cases h3
theorem e_sl {lo hi : Option Expr} {dl dh : DO} {p2 : Pos} (ha : SE X E a da) (hl : SO X E lo dl) (hh : SO X E hi dh) : SE X E (.Subscript a (.Slice lo hi none p2) pos) (dSl da dl dh) :=
  PEw (pe_slice (sl_tupA.or C8.sl_txt) ha hl hh) sl_rd
/-- of a list: a new list -/
def lstW (S : So) (w : W) : Option (List PyData) := (rd S w).bind fun
  | .list xs => some xs
  | _ => none
theorem lstW_of {S : So} {w : W} {xs : List PyData} (h : lstW S w = some xs) : rd S w = some (.list xs) := by
  obtain ⟨y, h1, h2⟩ := Option.bind_eq_some_iff.mp h
  cases y <;> simp at h2
  subst h2
  exact h1
def dSlL (a : DE) (l h : DO) : DN := fun σ S => bnd (a σ S) fun w S1 => bnd (l σ S1) fun lo S2 => bnd (h σ S2) fun hi S3 => giv ((lstW S3 w).map fun xs => cutG xs lo hi) S3
theorem slL_rd {dl dh : DO} (σV : L2.St) (H : Hp) (Q : VK) (h : tN X.K X.mg E (dSlL da dl dh) σV H Q) :
    tSl (rSlL X.K) (tE X.K X.mg E da) (tO X.K X.mg E dl) (tO X.K X.mg E dh) σV H Q := by
  obtain ⟨φ, σ, S, r', hs, he, hd, hq⟩ := h
  unfold dSlL at hd
  match ha : da σ S, hd with
  | none, hd => cases hd
  | some (.xc x S1), hd => cases hd; exact ⟨φ, σ, S, .xc x S1, hs, he, ha, hq⟩
  | some (.ok x S1), hd =>
    refine ⟨φ, σ, S, .ok x S1, hs, he, ha, fun φ1 H1 v1 e1 s1 x1 => ?_⟩
    rw [bnd_ok] at hd
    match hb : dl σ S1, hd with
    | none, hd => cases hd
    | some (.xc y S2), hd => cases hd; exact ⟨φ1, σ, S1, .xc y S2, s1, he.mono e1, hb, XR.keep e1 hq⟩
    | some (.ok lo S2), hd =>
      refine ⟨φ1, σ, S1, .ok lo S2, s1, he.mono e1, hb, fun φ2 H2 e2 s2 => ?_⟩
      rw [bnd_ok] at hd
      have e12 := e1.trans e2
      match hc : dh σ S2, hd with
      | none, hd => cases hd
      | some (.xc y S3), hd => cases hd; exact ⟨φ2, σ, S2, .xc y S3, s2, he.mono e12, hc, XR.keep e12 hq⟩
      | some (.ok hi S3), hd =>
        refine ⟨φ2, σ, S2, .ok hi S3, s2, he.mono e12, hc, fun φ3 H3 e3 s3 => ?_⟩
        rw [bnd_ok] at hd
        have x3 := (x1.mono e2).mono e3
        match hg : (lstW S3 x).map fun xs => CL.cutG xs lo hi, hd with
        | none, hd => cases hd
        | some w, hd =>
          cases hd
          obtain ⟨xs, h1, h2⟩ := Option.map_eq_some_iff.mp hg
          subst h2
          obtain ⟨l, vs, e5, f1, r1⟩ := seqL_of s3 x3 (lstW_of h1)
          exact ⟨l, vs, e5, f1, fun p hp => hq φ3 H3 p _ (e12.trans e3) s3 hp r1.cutG⟩
theorem n_sl {lo hi : Option Expr} {dl dh : DO} {p2 : Pos} (ha : SE X E a da) (hl : SO X E lo dl) (hh : SO X E hi dh) : SN X E (.Subscript a (.Slice lo hi none p2) pos) (dSlL da dl dh) :=
  PEw (pe_slice sl_list ha hl hh) slL_rd
/-! ### calls of built-ins -/
theorem one_of {K : PySem.W.Frag} {mg : Str → Option Value} {H : Hp} {φ : Fi} {w : W} {vs : List V} (h : RWs K H φ mg [w] vs) : ∃ v, vs = [v] ∧ RW K H φ mg w v := by
  obtain ⟨v, r, e, h1, h2⟩ := h; cases h2; exact ⟨v, e, h1⟩
theorem two_of {K : PySem.W.Frag} {mg : Str → Option Value} {H : Hp} {φ : Fi} {w u : W} {vs : List V} (h : RWs K H φ mg [w, u] vs) : ∃ v z, vs = [v, z] ∧ RW K H φ mg w v ∧ RW K H φ mg u z := by
  obtain ⟨v, r, e, h1, v2, r2, e2, h2, h3⟩ := h; cases h3; subst e2; exact ⟨v, v2, e, h1, h2⟩
/-- a function of one argument as it is read -/
def c1 (f : PyData → Option PyData) : So → List W → Option W
  | S, [w] => on1 f S w
  | _, _ => none
@[simp] theorem c1_d (f : PyData → Option PyData) (S : So) (a : PyData) : c1 f S [.d a] = (f a).map W.d := rfl
theorem c1_of {f : PyData → Option PyData} {S : So} {ws : List W} {w : W} (h : c1 f S ws = some w) : ∃ u x c, ws = [u] ∧ rd S u = some x ∧ f x = some c ∧ w = .d c := by
  unfold c1 at h
  split at h
  · obtain ⟨a, c, h1, h2, h3⟩ := on1_of h; exact ⟨_, a, c, rfl, h1, h2, h3⟩
  · cases h
def lenP : PyData → Option PyData
  | .list xs => some (.int xs.length)
  | .tuple xs => some (.int xs.length)
  | .str z => if small z.length = true then some (.int z.length) else none
  | _ => none
theorem b_len : CallR X (.builtin "len") (rC X.K X.mg (c1 lenP)) :=
  callw (call_len_seq.or call_len_str) fun vs H Q ⟨φ, S, ws, w, hs, hx, hg, hq⟩ => by
    obtain ⟨u, x, c, rfl, h1, h2, rfl⟩ := c1_of hg
    obtain ⟨v, rfl, hv⟩ := one_of hx
    unfold lenP at h2
    split at h2
    · cases h2
      obtain ⟨l, vs, rfl, f1, r1⟩ := seqL_of hs hv h1
      exact .inl ⟨l, vs, rfl, .inl f1, hq φ H _ .refl hs (by rw [r1.length]; rfl)⟩
    · cases h2
      obtain ⟨l, vs, rfl, f1, r1⟩ := seqT_of hv h1
      exact .inl ⟨l, vs, rfl, .inr f1, hq φ H _ .refl hs (by rw [r1.length]; rfl)⟩
    · split at h2
      · rename_i hz
        cases h2
        rw [str_of hv h1]
        exact .inr ⟨_, rfl, small_le hz, hq φ H _ .refl hs rfl⟩
      · cases h2
    · cases h2
def tupP : PyData → Option PyData
  | .list xs => some (.tuple xs)
  | .tuple xs => some (.tuple xs)
  | _ => none
theorem b_tuple : CallR X (.type "tuple") (rC X.K X.mg (c1 tupP)) :=
  callw call_tuple_of fun vs H Q ⟨φ, S, ws, w, hs, hx, hg, hq⟩ => by
    obtain ⟨u, x, c, rfl, h1, h2, rfl⟩ := c1_of hg
    obtain ⟨v, rfl, hv⟩ := one_of hx
    unfold tupP at h2
    split at h2
    · cases h2
      obtain ⟨l, vs, rfl, f1, r1⟩ := seqL_of hs hv h1
      refine ⟨l, vs, rfl, .inl ⟨f1, fun p hp => ?_⟩⟩
      have e := Ext.new (o := .tup vs) hp hs
      exact hq φ _ _ e (hs.new hp) ⟨p, _, rfl, upd_same, RDs.mono e _ _ r1⟩
    · cases h2
      obtain ⟨l, vs, rfl, f1, r1⟩ := tup_of hv h1
      exact ⟨l, vs, rfl, .inr ⟨f1.sq, hq φ H _ .refl hs ⟨l, vs, rfl, f1, r1⟩⟩⟩
    · cases h2
/-- a call that makes a list -/
def rCN (K : PySem.W.Frag) (mg : Str → Option Value) (g : So → List W → Option (List PyData)) : List V → Hp → VK → Prop := fun vs H Q => ∃ φ S ws xs, SR K H φ S ∧ RWs K H φ mg ws vs ∧ g S ws = some xs ∧
  ∀ φ' H' p us, Ext φ H φ' H' → SR K H' φ' S → H' p = none → RDs K H' φ' xs us → Q (.ref p) (upd H' p (.lst us))
def dCallN (g : So → List W → Option (List PyData)) (as : DA) : DN := fun σ S => bnd (as σ S) fun ws S1 => giv (g S1 ws) S1
theorem callN_rd {g : So → List W → Option (List PyData)} {das : DA} (σV : L2.St) (H : Hp) (Q : VK) (h : tN X.K X.mg E (dCallN g das) σV H Q) : tCB (rCN X.K X.mg g) (tA X.K X.mg E das) σV H Q := by
  obtain ⟨φ, σ, S, r', hs, he, hd, hq⟩ := h
  unfold dCallN at hd
  match ha : das σ S, hd with
  | none, hd => cases hd
  | some (.xc x S1), hd => cases hd; exact ⟨φ, σ, S, .xc x S1, hs, he, ha, hq⟩
  | some (.ok ws S1), hd =>
    refine ⟨φ, σ, S, .ok ws S1, hs, he, ha, fun φ1 H1 vs e1 s1 x1 => ?_⟩
    rw [bnd_ok] at hd
    match hg : g S1 ws, hd with
    | none, hd => cases hd
    | some w, hd =>
      cases hd
      exact ⟨φ1, S1, ws, w, s1, x1, hg, fun φ' H' p us e' => hq φ' H' p us (e1.trans e')⟩
variable {x : Str} {es : List Expr} {das : DA}
theorem n_callTy {T : String} {g : So → List W → Option (List PyData)} (hc : CallR X (.type T) (rCN X.K X.mg g)) (hm : X.mg x = none) (ha : SA X E (a :: es) das) (hg : Gl X x := by rfl) (hv : bootBuiltins x = some (.type T) := by decide +kernel) (hn : x ≠ "__name__" := by decide) (hdb : (x == ("__debug__" : Str)) = false := by decide)
    (he : starEach (a :: es) X.env = (false, eval a X.env) :: starEach es X.env := by rfl) (hpl : (backTo pos (starEach es X.env)).any (·.1) = false := by rfl) : SN X E (.Call (.Name x p) (a :: es) [] pos) (dCallN g das) :=
  PEw (pe_callTy hc hg hm hv ha hn hdb he hpl) callN_rd
theorem n_callB {id : String} {g : So → List W → Option (List PyData)} (hc : CallR X (.builtin id) (rCN X.K X.mg g)) (hm : X.mg x = none) (ha : SA X E (a :: es) das) (hg : Gl X x := by rfl) (hv : bootBuiltins x = some (.builtin id) := by decide +kernel) (hn : x ≠ "__name__" := by decide) (hdb : (x == ("__debug__" : Str)) = false := by decide)
    (he : starEach (a :: es) X.env = (false, eval a X.env) :: starEach es X.env := by rfl) (hpl : (backTo pos (starEach es X.env)).any (·.1) = false := by rfl) : SN X E (.Call (.Name x p) (a :: es) [] pos) (dCallN g das) :=
  PEw (pe_callB hc hg hm hv ha hn hdb he hpl) callN_rd
/-- list(x) -/
def listG : So → List W → Option (List PyData)
  | S, [w] => (rd S w).bind fun
    | .list xs => some xs
    | .tuple xs => some xs
    | _ => none
  | _, _ => none
theorem b_list : CallR X (.type "list") (rCN X.K X.mg listG) :=
  callw call_list_of fun vs H Q ⟨φ, S, ws, xs, hs, hx, hg, hq⟩ => by
    unfold listG at hg
    split at hg
    · obtain ⟨v, rfl, hv⟩ := one_of hx
      obtain ⟨y, h1, h2⟩ := Option.bind_eq_some_iff.mp hg
      cases y <;> simp at h2
      · subst h2
        obtain ⟨l, us, rfl, f1, r1⟩ := seqL_of hs hv h1
        exact ⟨l, us, rfl, .inl f1, fun p hp => hq φ H p us .refl hs hp r1⟩
      · subst h2
        obtain ⟨l, us, rfl, f1, r1⟩ := seqT_of hv h1
        exact ⟨l, us, rfl, .inr f1, fun p hp => hq φ H p us .refl hs hp r1⟩
    · cases hg
/-- all(xs) of a list of bools -/
def bools : List PyData → Option (List Bool)
  | [] => some []
  | .bool b :: r => (bools r).map (b :: ·)
  | _ :: _ => none
def allP : PyData → Option PyData
  | .list xs => (bools xs).map fun bs => .bool (bs.all id)
  | _ => none
theorem bools_of {K : PySem.W.Frag} {H : Hp} {φ : Fi} : ∀ {ds : List PyData} {vs : List V} {bs : List Bool}, RDs K H φ ds vs → bools ds = some bs → vs = bs.map V.bl
  | [], _, _, h, e => by cases e; exact h
  | .bool b :: ds, _, _, ⟨v, r, e1, h1, h2⟩, e => by
    obtain ⟨cs, e2, e3⟩ := Option.map_eq_some_iff.mp e
    subst e3; subst e1
    rw [bools_of h2 e2, show v = .bl b from h1]; rfl
  | .none :: _, _, _, _, e => by cases e
  | .int _ :: _, _, _, _, e => by cases e
  | .str _ :: _, _, _, _, e => by cases e
  | .list _ :: _, _, _, _, e => by cases e
  | .tuple _ :: _, _, _, _, e => by cases e
  | .dict _ :: _, _, _, _, e => by cases e
theorem b_all (hc : X.calm = true := by rfl) : CallR X (.builtin "all") (rC X.K X.mg (c1 allP)) :=
  callw (cr_all hc) fun vs H Q ⟨φ, S, ws, w, hs, hx, hg, hq⟩ => by
    obtain ⟨u, x, c, rfl, h1, h2, rfl⟩ := c1_of hg
    obtain ⟨v, rfl, hv⟩ := one_of hx
    unfold allP at h2
    split at h2
    · obtain ⟨bs, h3, h4⟩ := Option.map_eq_some_iff.mp h2
      subst h4
      obtain ⟨l, vs, rfl, f1, r1⟩ := seqL_of hs hv h1
      rw [bools_of r1 h3] at f1
      exact ⟨l, bs, rfl, f1, hq φ H _ .refl hs rfl⟩
    · cases h2
/-- isinstance(x, T), T a built-in type -/
def tyN : PyData → Option String
  | .none => none
  | .bool _ => some "bool"
  | .int _ => some "int"
  | .str _ => some "str"
  | .list _ => some "list"
  | .tuple _ => some "tuple"
  | .dict _ => none
def isiP (T : String) (x : PyData) : Option PyData := match x with
  | .none => some (.bool false)
  | .bool _ => some (.bool (T == "bool" || T == "int"))
  | .int _ => some (.bool (T == "int"))
  | .str _ => some (.bool (T == "str"))
  | .list _ => some (.bool (T == "list"))
  | .tuple _ => some (.bool (T == "tuple"))
  | .dict _ => none
/-- the types that are asked for here -/
def tyOk (T : String) : Bool := T == "bool" || T == "int" || T == "str" || T == "list" || T == "tuple"
theorem kit_none (T : String) (h : tyOk T = true) : kitB "NoneType" T = some false := by
  unfold tyOk at h; simp only [Bool.or_eq_true, beq_iff_eq] at h
  rcases h with ((((h | h) | h) | h) | h) <;> subst h <;> decide +kernel
theorem kit_bool (T : String) (h : tyOk T = true) : kitB "bool" T = some (T == "bool" || T == "int") := by
  unfold tyOk at h; simp only [Bool.or_eq_true, beq_iff_eq] at h
  rcases h with ((((h | h) | h) | h) | h) <;> subst h <;> decide +kernel
theorem kit_int (T : String) (h : tyOk T = true) : kitB "int" T = some (T == "int") := by
  unfold tyOk at h; simp only [Bool.or_eq_true, beq_iff_eq] at h
  rcases h with ((((h | h) | h) | h) | h) <;> subst h <;> decide +kernel
theorem kit_str (T : String) (h : tyOk T = true) : kitB "str" T = some (T == "str") := by
  unfold tyOk at h; simp only [Bool.or_eq_true, beq_iff_eq] at h
  rcases h with ((((h | h) | h) | h) | h) <;> subst h <;> decide +kernel
theorem kit_list (T : String) (h : tyOk T = true) : kitB "list" T = some (T == "list") := by
  unfold tyOk at h; simp only [Bool.or_eq_true, beq_iff_eq] at h
  rcases h with ((((h | h) | h) | h) | h) <;> subst h <;> decide +kernel
theorem kit_tuple (T : String) (h : tyOk T = true) : kitB "tuple" T = some (T == "tuple") := by
  unfold tyOk at h; simp only [Bool.or_eq_true, beq_iff_eq] at h
  rcases h with ((((h | h) | h) | h) | h) <;> subst h <;> decide +kernel
end
end CL
end

section
/-! part CLZip -/
set_option Elab.async false
set_option linter.all false
set_option maxRecDepth 100000
set_option maxHeartbeats 2000000
/-! CLZip: zip of two tuples, whatever the target: the tuple handed out last may be in use or not. -/
namespace CL
open PySem PySem.Spec PyProof.Rows L2
open RZ (nextOf_tuple_item nextOf_tuple_end ItzT)
section
variable {P : Program} {w : World} {A : Around} {E : Value → Shared → Prop} {s : Shared}
/-- the zip: v tells the tuple that it handed out last -/
def ZS (h : Heap) (z TI TO : Addr) (v : Value) (f : Bool) : Prop := h.get? z = some { cls := .type "zip", dict := none, data := .fields #[v, .bool f, .bool false, .ref TI, .ref TO], slots := #[] }
def Last (v : Value) : Prop := v = .none ∨ ∃ T : Addr, v = rawInt T
theorem zs_free {z TI TO : Addr} {v : Value} {f : Bool} {Q : Bool → Shared → Prop} (hz : ZS s.heap z TI TO v f) (hv : Last v) (hQ : ∀ (b : Bool) (h2 : Heap) (g : Bool), ZS h2 z TI TO v g → Heap.SameBut z s.heap h2 → Q b { s with heap := h2 }) :
    wpAny (model P w) A (Builtin.SmallTypes.ownedTupleIsFree (.ref z)) Q E s := by
  have stay := fun b => hQ b s.heap f hz (Heap.SameBut.refl _ _)
  unfold Builtin.SmallTypes.ownedTupleIsFree
  rcases hv with e | ⟨T, e⟩
  · subst e
    exact wpAny_bind (wpAny_field hz rfl (x := Value.none) rfl (wpAny_pure (stay true)))
  · subst e
    refine wpAny_bind (wpAny_field hz rfl (x := rawInt T) rfl ?_)
    have ask : ∀ {R : Option Obj → Shared → Prop}, R (s.heap.get? ((T : Int).toNat)) s → wpAny (model P w) A (loadIfAlive ((T : Int).toNat)) R E s := fun q _ _ _ => q
    refine wpAny_bind (m := loadIfAlive ((T : Int).toNat)) (ask ?_)
    cases s.heap.get? ((T : Int).toNat) with
    | none => exact wpAny_pure (stay true)
    | some o =>
      refine wpAny_bind (wpAny_field hz rfl (x := Value.bool f) rfl ?_)
      cases f with
      | true => exact wpAny_pure (stay false)
      | false => exact wpAny_bind (wpAny_setField_rec hz (by simp) fun h2 z2 k2 => wpAny_pure (hQ false h2 true z2 k2))
/-- where the zip's parts stand -/
structure ZA (h : Heap) (z TI TO i1 i2 l1 l2 : Addr) (k : Nat) (v : Value) (f : Bool) : Prop where
  z : ZS h z TI TO v f
  last : Last v
  ti : IsPair h TI (.ref i1) (.ref i2)
  to : ∃ a b, IsPair h TO a b
  a1 : h.IsTupleIter i1 l1 k
  a2 : h.IsTupleIter i2 l2 k
variable {z TI TO i1 i2 l1 l2 : Addr} {k : Nat} {v : Value} {f : Bool} {xs ys : Array Value} {x y : Value}
theorem zq_item {Q : Value → Shared → Prop} (D : ZipApart z TI TO i1 i2 l1 l2) (Z : ZA s.heap z TI TO i1 i2 l1 l2 k v f) (q1 : s.heap.IsTuple l1 xs) (q2 : s.heap.IsTuple l2 ys) (hx : xs[k]? = some x) (hy : ys[k]? = some y)
    (hQ : ∀ (h2 : Heap) (v2 : Value) (f2 : Bool), ZA h2 z TI TO i1 i2 l1 l2 (k + 1) v2 f2 → IsPair h2 s.heap.objs.size x y → (∀ c o, c ≠ z → c ≠ TO → c ≠ i1 → c ≠ i2 → s.heap.get? c = some o → h2.get? c = some o) → Q (.ref s.heap.objs.size) { s with heap := h2 }) :
    wpAny (model P w) A (Builtin.«zip.__next__» ⟨[.ref z], []⟩) (fun fin s' => ∃ u, fin = .done (.ret u) ∧ Q u s') E s := by
  refine wpAny_bind (m := field (.ref z) 2) (wpAny_field Z.z rfl (x := Value.bool false) rfl ?_)
  refine wpAny_bind (m := field (.ref z) 3) (wpAny_field Z.z rfl (x := Value.ref TI) rfl ?_)
  refine wpAny_bind (wpAny_seqItems Z.ti rfl (wpAny_bind (m := Builtin.SmallTypes.ownedTupleIsFree (.ref z)) (zs_free Z.z Z.last fun b ha g za sa => ?_)))
  have t0 := D.i1z; have t1 := D.i2z; have t2 := D.TOz
  have u1 := Z.a1.extBut sa.extBut D.i1z
  have u2 := Z.a2.extBut sa.extBut D.i2z
  have p1 := q1.extBut sa.extBut D.l1z
  have p2 := q2.extBut sa.extBut D.l2z
  have c1 : IsPair ha TI (.ref i1) (.ref i2) := sa.extBut _ _ D.TIz Z.ti
  obtain ⟨a0, b0, to0⟩ := Z.to
  have c2 : IsPair ha TO a0 b0 := sa.extBut _ _ D.TOz to0
  have size0 : ha.objs.size = s.heap.objs.size := sa.1
  cases b with
  | true =>
    simp only [if_true]
    refine wpAny_bind (wpAny_rule (wpAny_bind (wpAny_field za rfl (x := Value.ref TO) rfl (wpAny_bind (wpAny_setField_rec za (by simp) fun hb zb sb => ?_)))))
    replace zb : ZS hb z TI TO .ellipsis g := zb
    refine wpAny_bind ?_
    simp only [List.zipIdx_cons, List.zipIdx_nil, List.forIn_cons, List.forIn_nil]
    refine wpAny_bind (wpAny_bind (wpAny_onRaise (wpAny_bind (m := Builtin.SmallTypes.nextOf (.ref i1)) (nextOf_tuple_item (u1.extBut sb.extBut D.i1z) (p1.extBut sb.extBut D.l1z) hx fun hc j1 sc => wpAny_pure ?_))))
    have d2 : IsPair hc TO a0 b0 := sc.extBut _ _ D.TOi1 (sb.extBut _ _ D.TOz c2)
    refine wpAny_bind (wpAny_seqItems d2 rfl (wpAny_bind (wpAny_updateSeq_pair d2 fun hd d3 sd => ?_)))
    replace d3 : IsPair hd TO x b0 := d3
    refine wpAny_bind (wpAny_letGo (wpAny_pure (wpAny_bind (wpAny_bind (wpAny_onRaise (wpAny_bind (m := Builtin.SmallTypes.nextOf (.ref i2)) ?_))))))
    refine nextOf_tuple_item (((u2.extBut sb.extBut D.i2z).extBut sc.extBut D.i12.symm).extBut sd.extBut D.TOi2.symm) (((p2.extBut sb.extBut D.l2z).extBut sc.extBut D.l2i1).extBut sd.extBut D.l2TO) hy fun he j2 se => wpAny_pure ?_
    have d4 : IsPair he TO x b0 := se.extBut _ _ D.TOi2 d3
    refine wpAny_bind (wpAny_seqItems d4 rfl (wpAny_bind (wpAny_updateSeq_pair d4 fun hf d5 sf => ?_)))
    replace d5 : IsPair hf TO x y := d5
    refine wpAny_bind (wpAny_letGo (wpAny_pure (wpAny_pure (wpAny_bind (wpAny_seqItems d5 rfl (wpAny_bind (wpAny_newTuple ?_)))))))
    have size1 : hf.objs.size = s.heap.objs.size := by rw [sf.1, se.1, sd.1, sc.1, sb.1, sa.1]
    have zf : ZS hf z TI TO .ellipsis g := sf.extBut _ _ D.TOz.symm (se.extBut _ _ D.i2z.symm (sd.extBut _ _ D.TOz.symm (sc.extBut _ _ D.i1z.symm zb)))
    have old : ∀ c o, c ≠ z → c ≠ TO → c ≠ i1 → c ≠ i2 → s.heap.get? c = some o → hf.get? c = some o := fun c o n1 n2 n3 n4 e => sf.extBut _ _ n2 (se.extBut _ _ n4 (sd.extBut _ _ n2 (sc.extBut _ _ n3 (sb.extBut _ _ n1 (sa.extBut _ _ n1 e)))))
    have k1 : hf.IsTupleIter i1 l1 (k + 1) := ((j1.extBut sd.extBut D.TOi1.symm).extBut se.extBut D.i12).extBut sf.extBut D.TOi1.symm
    have k2 : hf.IsTupleIter i2 l2 (k + 1) := j2.extBut sf.extBut D.TOi2.symm
    have zlt : z < hf.objs.size := Heap.lt_size zf
    refine wpAny_bind (m := Builtin.SmallTypes.ownedTupleHandOut (.ref z) (.ref hf.objs.size)) ?_
    unfold Builtin.SmallTypes.ownedTupleHandOut
    have zg : ZS (hf.push { cls := .type "tuple", data := .seq #[x, y] }) z TI TO .ellipsis g := Heap.get?_push_of_some _ zf
    refine wpAny_bind (wpAny_setField_rec zg (by simp) fun hh zh sh => ?_)
    replace zh : ZS hh z TI TO (rawInt hf.objs.size) g := zh
    refine wpAny_setField_rec zh (by simp) fun hi zi si => wpAny_pure ⟨_, rfl, ?_⟩
    replace zi : ZS hi z TI TO (rawInt hf.objs.size) false := zi
    have up : ∀ c o, c ≠ z → hf.get? c = some o → hi.get? c = some o := fun c o n1 e => si.extBut _ _ n1 (sh.extBut _ _ n1 (Heap.get?_push_of_some _ e))
    have nw : IsPair hi hf.objs.size x y := si.extBut _ _ (Nat.ne_of_gt zlt) (sh.extBut _ _ (Nat.ne_of_gt zlt) (Heap.get?_push_size _ rfl))
    have keepTI : IsPair hi TI (.ref i1) (.ref i2) := up _ _ D.TIz (old _ _ D.TIz D.TITO D.TIi1 D.TIi2 Z.ti)
    have fin := hQ hi _ _ ⟨zi, .inr ⟨_, rfl⟩, keepTI, ⟨x, y, up _ _ D.TOz d5⟩, k1.at fun o e => up _ o D.i1z e, k2.at fun o e => up _ o D.i2z e⟩
    rw [size1] at nw
    show Q (.ref hf.objs.size) _
    rw [size1]
    exact fin nw fun c o n1 n2 n3 n4 e => up c o n1 (old c o n1 n2 n3 n4 e)
  | false =>
    rw [if_neg Bool.false_ne_true]
    refine wpAny_bind ?_
    rw [← Array.forIn_toList]
    simp only [List.forIn_cons, List.forIn_nil]
    refine wpAny_bind (wpAny_bind (wpAny_holding (wpAny_bind (m := Builtin.SmallTypes.nextOf (.ref i1)) (nextOf_tuple_item (s := { s with heap := ha }) u1 p1 hx fun hb j1 sb => wpAny_pure (wpAny_pure ?_)))))
    refine wpAny_bind (wpAny_bind (wpAny_holding (wpAny_bind (m := Builtin.SmallTypes.nextOf (.ref i2)) ?_)))
    refine nextOf_tuple_item (s := { s with heap := hb }) (u2.extBut sb.extBut D.i12.symm) (p2.extBut sb.extBut D.l2i1) hy fun hc j2 sc => wpAny_pure (wpAny_pure (wpAny_pure ?_))
    refine wpAny_bind (m := newTuple [x, y]) (wpAny_newTuple (wpAny_pure ⟨_, rfl, ?_⟩))
    have size1 : hc.objs.size = s.heap.objs.size := by rw [sc.1, sb.1, sa.1]
    have zc : ZS hc z TI TO v g := sc.extBut _ _ D.i2z.symm (sb.extBut _ _ D.i1z.symm za)
    have old : ∀ c o, c ≠ z → c ≠ i1 → c ≠ i2 → s.heap.get? c = some o → hc.get? c = some o := fun c o n1 n3 n4 e => sc.extBut _ _ n4 (sb.extBut _ _ n3 (sa.extBut _ _ n1 e))
    have k1 : hc.IsTupleIter i1 l1 (k + 1) := j1.extBut sc.extBut D.i12
    have push : ∀ c o, hc.get? c = some o → (hc.push { cls := .type "tuple", data := .seq #[x, y] }).get? c = some o := fun c o e => Heap.get?_push_of_some _ e
    have nw : IsPair (hc.push { cls := .type "tuple", data := .seq #[x, y] }) hc.objs.size x y := Heap.get?_push_size _ rfl
    rw [size1] at nw
    show Q (.ref hc.objs.size) _
    rw [size1]
    exact hQ _ _ _ ⟨push _ _ zc, Z.last, push _ _ (old _ _ D.TIz D.TIi1 D.TIi2 Z.ti), ⟨a0, b0, push _ _ (old _ _ D.TOz D.TOi1 D.TOi2 to0)⟩, k1.at fun o e => push _ o e, j2.at fun o e => push _ o e⟩ nw fun c o n1 _ n3 n4 e => push c o (old c o n1 n3 n4 e)
theorem zq_end {Q : Fin → Shared → Prop} (h0 : A.handled = none) (D : ZipApart z TI TO i1 i2 l1 l2) (Z : ZA s.heap z TI TO i1 i2 l1 l2 k v f) (q1 : s.heap.IsTuple l1 xs) (q2 : s.heap.IsTuple l2 ys) (hend : xs[k]? = none ∨ ys[k]? = none)
    (hE : ∀ (h2 : Heap) (e : Addr), (∀ c o, c ≠ z → c ≠ TO → c ≠ i1 → c ≠ i2 → s.heap.get? c = some o → h2.get? c = some o) → (∃ o, h2.get? e = some o ∧ o.cls = .type "StopIteration") → E (.ref e) { s with heap := h2 }) :
    wpAny (model P w) A (Builtin.«zip.__next__» ⟨[.ref z], []⟩) Q E s := by
  refine wpAny_bind (m := field (.ref z) 2) (wpAny_field Z.z rfl (x := Value.bool false) rfl ?_)
  refine wpAny_bind (m := field (.ref z) 3) (wpAny_field Z.z rfl (x := Value.ref TI) rfl ?_)
  refine wpAny_bind (wpAny_seqItems Z.ti rfl (wpAny_bind (m := Builtin.SmallTypes.ownedTupleIsFree (.ref z)) (zs_free Z.z Z.last fun b ha g za sa => ?_)))
  have u1 := Z.a1.extBut sa.extBut D.i1z
  have u2 := Z.a2.extBut sa.extBut D.i2z
  have p1 := q1.extBut sa.extBut D.l1z
  have p2 := q2.extBut sa.extBut D.l2z
  obtain ⟨a0, b0, to0⟩ := Z.to
  have c2 : IsPair ha TO a0 b0 := sa.extBut _ _ D.TOz to0
  cases b with
  | true =>
    simp only [if_true]
    refine wpAny_bind (wpAny_rule (wpAny_bind (wpAny_field za rfl (x := Value.ref TO) rfl (wpAny_bind (wpAny_setField_rec za (by simp) fun hb zb sb => ?_)))))
    replace zb : ZS hb z TI TO .ellipsis g := zb
    have w1 := u1.extBut sb.extBut D.i1z
    have w2 := u2.extBut sb.extBut D.i2z
    have r1 := p1.extBut sb.extBut D.l1z
    have r2 := p2.extBut sb.extBut D.l2z
    refine wpAny_bind ?_
    simp only [List.zipIdx_cons, List.zipIdx_nil, List.forIn_cons, List.forIn_nil]
    refine wpAny_bind (wpAny_bind (wpAny_onRaise (wpAny_bind (m := Builtin.SmallTypes.nextOf (.ref i1)) ?_)))
    match hx : xs[k]? with
    | none =>
      refine nextOf_tuple_end h0 w1 r1 hx fun hc e sc he => ?_
      obtain ⟨oe, e1, e2⟩ := he
      have zc : ZS hc z TI TO .ellipsis g := sc _ _ D.i1z.symm zb
      have ne : e ≠ z := fun q => by subst q; rw [zc] at e1; cases e1; simp at e2
      exact wpAny_setField_rec zc (by simp) fun hd _ sd => hE hd e (fun c o n1 _ n3 _ q => sd.extBut _ _ n1 (sc _ _ n3 (sb.extBut _ _ n1 (sa.extBut _ _ n1 q)))) ⟨oe, sd.extBut _ _ ne e1, e2⟩
    | some x =>
      have hy : ys[k]? = none := hend.resolve_left (by rw [hx]; simp)
      refine nextOf_tuple_item w1 r1 hx fun hc j1 sc => wpAny_pure ?_
      have d2 : IsPair hc TO a0 b0 := sc.extBut _ _ D.TOi1 (sb.extBut _ _ D.TOz c2)
      refine wpAny_bind (wpAny_seqItems d2 rfl (wpAny_bind (wpAny_updateSeq_pair d2 fun hd d3 sd => ?_)))
      refine wpAny_bind (wpAny_letGo (wpAny_pure (wpAny_bind (wpAny_bind (wpAny_onRaise (wpAny_bind (m := Builtin.SmallTypes.nextOf (.ref i2)) ?_))))))
      refine nextOf_tuple_end h0 ((w2.extBut sc.extBut D.i12.symm).extBut sd.extBut D.TOi2.symm) ((r2.extBut sc.extBut D.l2i1).extBut sd.extBut D.l2TO) hy fun he e se he2 => ?_
      obtain ⟨oe, e1, e2⟩ := he2
      have ze : ZS he z TI TO .ellipsis g := se _ _ D.i2z.symm (sd.extBut _ _ D.TOz.symm (sc.extBut _ _ D.i1z.symm zb))
      have ne : e ≠ z := fun q => by subst q; rw [ze] at e1; cases e1; simp at e2
      exact wpAny_setField_rec ze (by simp) fun hf _ sf => hE hf e (fun c o n1 n2 n3 n4 q => sf.extBut _ _ n1 (se _ _ n4 (sd.extBut _ _ n2 (sc.extBut _ _ n3 (sb.extBut _ _ n1 (sa.extBut _ _ n1 q)))))) ⟨oe, sf.extBut _ _ ne e1, e2⟩
  | false =>
    rw [if_neg Bool.false_ne_true]
    refine wpAny_bind ?_
    rw [← Array.forIn_toList]
    simp only [List.forIn_cons, List.forIn_nil]
    refine wpAny_bind (wpAny_bind (wpAny_holding (wpAny_bind (m := Builtin.SmallTypes.nextOf (.ref i1)) ?_)))
    match hx : xs[k]? with
    | none => exact nextOf_tuple_end (s := { s with heap := ha }) h0 u1 p1 hx fun hb e sb he => hE hb e (fun c o n1 _ n3 _ q => sb _ _ n3 (sa.extBut _ _ n1 q)) he
    | some x =>
      have hy : ys[k]? = none := hend.resolve_left (by rw [hx]; simp)
      refine nextOf_tuple_item (s := { s with heap := ha }) u1 p1 hx fun hb j1 sb => wpAny_pure (wpAny_pure (wpAny_bind (wpAny_bind (wpAny_holding (wpAny_bind (m := Builtin.SmallTypes.nextOf (.ref i2)) ?_)))))
      exact nextOf_tuple_end (s := { s with heap := hb }) h0 (u2.extBut sb.extBut D.i12.symm) (p2.extBut sb.extBut D.l2i1) hy fun hc e sc he => hE hc e (fun c o n1 _ n3 n4 q => sc _ _ n4 (sb.extBut _ _ n3 (sa.extBut _ _ n1 q))) he
theorem zn_item {Q : Option Value → Shared → Prop} (D : ZipApart z TI TO i1 i2 l1 l2) (Z : ZA s.heap z TI TO i1 i2 l1 l2 k v f) (q1 : s.heap.IsTuple l1 xs) (q2 : s.heap.IsTuple l2 ys) (hx : xs[k]? = some x) (hy : ys[k]? = some y)
    (hQ : ∀ (h2 : Heap) (v2 : Value) (f2 : Bool), ZA h2 z TI TO i1 i2 l1 l2 (k + 1) v2 f2 → IsPair h2 s.heap.objs.size x y → (∀ c o, c ≠ z → c ≠ TO → c ≠ i1 → c ≠ i2 → s.heap.get? c = some o → h2.get? c = some o) → Q (some (.ref s.heap.objs.size)) { s with heap := h2 }) :
    wpAny (model P w) A (pyNext (.ref z)) Q E s := by
  have ty : s.TypeIs (.ref z) "zip" := ⟨_, Z.z, rfl⟩
  unfold pyNext
  exact wpAny_bind (wpAny_attempt (wpAny_callSpecial?_slot (name := Str.ofString "__next__") ty F.slot_zip_next (wpAny_call_entry F.slot_zip_next ty F.entry_zip_next (zq_item D Z q1 q2 hx hy fun h2 v2 f2 b1 b2 b3 => wpAny_pure (hQ h2 v2 f2 b1 b2 b3)) (F.args_zip_next_1 _))))
theorem zn_end {Q : Option Value → Shared → Prop} (h0 : A.handled = none) (D : ZipApart z TI TO i1 i2 l1 l2) (Z : ZA s.heap z TI TO i1 i2 l1 l2 k v f) (q1 : s.heap.IsTuple l1 xs) (q2 : s.heap.IsTuple l2 ys) (hend : xs[k]? = none ∨ ys[k]? = none)
    (hQ : ∀ h2 : Heap, (∀ c o, c ≠ z → c ≠ TO → c ≠ i1 → c ≠ i2 → s.heap.get? c = some o → h2.get? c = some o) → Q none { s with heap := h2 }) : wpAny (model P w) A (pyNext (.ref z)) Q E s := by
  have ty : s.TypeIs (.ref z) "zip" := ⟨_, Z.z, rfl⟩
  unfold pyNext
  refine wpAny_bind (wpAny_attempt (wpAny_callSpecial?_slot (name := Str.ofString "__next__") ty F.slot_zip_next (wpAny_call_entry F.slot_zip_next ty F.entry_zip_next (zq_end h0 D Z q1 q2 hend fun h2 e hk ⟨o, ho, hc⟩ => ?_) (F.args_zip_next_1 _))))
  exact wpAny_bind (wpAny_isInstance (T := "StopIteration") (b := true) ⟨o, ho, hc⟩ isSubtype_stop (wpAny_pure (hQ _ hk)))
end
theorem turn_zn {P : Program} {w : World} {K : PySem.W.Frag} {nm : Str} {np : Pos} {a b z TI TO i1 i2 : Addr} (D : ZipApart z TI TO i1 i2 a b) :
    Turn P w K (.Name nm np) (ItzT K a b) [z, TI, TO, i1, i2] z (fun i h => ∃ v f, ZA h z TI TO i1 i2 a b i v f) where
  mem := List.mem_cons_self
  obj := fun i h ⟨v, f, Z⟩ c hc => by
    obtain ⟨o1, e1, _, d1⟩ := Z.a1
    obtain ⟨o2, e2, _, d2⟩ := Z.a2
    obtain ⟨x, y, e3⟩ := Z.to
    have : c = z ∨ c = TI ∨ c = TO ∨ c = i1 ∨ c = i2 := by simpa using hc
    rcases this with q | q | q | q | q <;> subst q
    · exact ⟨_, Z.z, fun v q => nomatch q⟩
    · exact ⟨_, Z.ti, fun v q => nomatch q⟩
    · exact ⟨_, e3, fun v q => nomatch q⟩
    · exact ⟨o1, e1, fun v q => by rw [d1] at q; cases q⟩
    · exact ⟨o2, e2, fun v q => by rw [d2] at q; cases q⟩
  keep := fun i h h2 ⟨v, f, Z⟩ k => by
    obtain ⟨x, y, e3⟩ := Z.to
    exact ⟨v, f, k z (by simp) _ Z.z, Z.last, k TI (by simp) _ Z.ti, ⟨x, y, k TO (by simp) _ e3⟩, Z.a1.at fun o q => k i1 (by simp) o q, Z.a2.at fun o q => k i2 (by simp) o q⟩
  item := by
    intro X e1 e2 e3 hc i pins s σ H E I hf st hg
    subst e1 e2 e3
    obtain ⟨v, f, Z⟩ := st
    obtain ⟨xs, ys, x, y, hqx, hqy, hx, hy⟩ := hg
    obtain ⟨its, rv, p, _⟩ := I.tuple hqx
    obtain ⟨its2, rv2, p2, _⟩ := I.tuple hqy
    obtain ⟨u, hu, ru⟩ := rv.get hx
    obtain ⟨u2, hu2, ru2⟩ := rv2.get hy
    refine zn_item D Z p p2 (x := u) (y := u2) (by simpa using hu) (by simpa using hu2) fun h2 v2 f2 Z2 hT hk => ⟨_, rfl, wpAny_pure ?_⟩
    have new : ObjOk X.prog X.w (upd H s.heap.objs.size (.tup [x, y])) h2 s.heap.objs.size (.tup [x, y]) := ⟨by show 2 ≤ sizeLine; decide, [u, u2], .cons ru (.cons ru2 .nil), ⟨_, hT, rfl, _, rfl⟩⟩
    have I1 : Inv X pins σ (upd H s.heap.objs.size (.tup [x, y])) { s with heap := h2 } :=
      I.turnedNew (t' := s.toks) (ch := [z, TI, TO, i1, i2]) (fun c o hb q => hk c o (fun z => hb (by simp [z])) (fun z => hb (by simp [z])) (fun z => hb (by simp [z])) (fun z => hb (by simp [z])) q) hf (Nat.le_refl _) new
    refine ⟨.ref s.heap.objs.size, _, I1, rfl, ⟨_, x, y, rfl, I.hok.fresh (Nat.le_refl _), rfl, fun l hl => by rw [I.tuple_inj hl hqx]; exact hx, fun l hl => by rw [I.tuple_inj hl hqy]; exact hy⟩, ⟨v2, f2, Z2⟩, fun c hcm => ?_⟩
    have lt : c < s.heap.objs.size := by
      obtain ⟨a0, b0, e3⟩ := Z.to
      have h1 := Z.a1
      have h2 := Z.a2
      have : c = z ∨ c = TI ∨ c = TO ∨ c = i1 ∨ c = i2 := by simpa using hcm
      rcases this with q | q | q | q | q
      · rw [q]; exact Heap.lt_size Z.z
      · rw [q]; exact Heap.lt_size Z.ti
      · rw [q]; exact Heap.lt_size e3
      · rw [q]; obtain ⟨_, e, _⟩ := h1; exact Heap.lt_size e
      · rw [q]; obtain ⟨_, e, _⟩ := h2; exact Heap.lt_size e
    rw [upd_ne (Nat.ne_of_lt lt)]
    exact (hf c hcm).1
  done := by
    intro X e1 e2 e3 hc i pins s σ H E I hf st hg
    subst e1 e2 e3
    obtain ⟨v, f, Z⟩ := st
    obtain ⟨xs, ys, hqx, hqy, hend⟩ := hg
    obtain ⟨its, rv, p, _⟩ := I.tuple hqx
    obtain ⟨its2, rv2, p2, _⟩ := I.tuple hqy
    have l1 := rv.length
    have l2 := rv2.length
    refine zn_end (I.ok.hd hc) D Z p p2 (hend.imp (fun q => by simp; omega) (fun q => by simp; omega)) fun h2 hk => ⟨rfl, I.turnedL (t' := s.toks) (ch := [z, TI, TO, i1, i2]) (fun c o hb q => ?_) hf⟩
    exact hk c o (fun z => hb (by simp [z])) (fun z => hb (by simp [z])) (fun z => hb (by simp [z])) (fun z => hb (by simp [z])) q
  self := fun A i s Q E ⟨v, f, Z⟩ h => by
    have ty : s.TypeIs (.ref z) "zip" := ⟨_, Z.z, rfl⟩
    exact wpAny_pyIter_slot ty F.slot_zip_iter (wpAny_call_entry F.slot_zip_iter ty F.entry_zip_iter (show wpAny _ _ (ret (.ref z)) _ _ s from wpAny_pure ⟨_, rfl, "zip", _, ty, F.slot_zip_next.lookup, h⟩) (F.args_zip_iter_1 _))
section
variable {X : Cx} {E : XK} {pos p : Pos}
def iZipN (K : PySem.W.Frag) (ta : TA) : TI := fun σ H R => ta σ H fun vs H1 => ∃ a b xs ys, vs = [.ref a, .ref b] ∧ SqT K H1 a xs ∧ SqT K H1 b ys ∧ (xs.length ≤ sizeLine → R (ItzT K a b) H1)
theorem pi_zn {a b : Expr} {ta : TA} {nm : Str} {np : Pos} (hg : Gl X "zip") (hm : X.mg "zip" = none) (ha : PA X [a, b] ta) (hs : starEach [a, b] X.env = (false, eval a X.env) :: starEach [b] X.env := by rfl) (hpl : (backTo pos (starEach [b] X.env)).any (·.1) = false := by rfl) :
    PI X (.Name nm np) (.Call (.Name "zip" p) [a, b] [] pos) (iZipN X.K ta) := by
  refine ⟨fun pins s σ H R I h => Call_ (ld_blt I hg hm PyProof.Rows.boot_zip (PyProof.Rows.callWith_type1 (thn (ha.run pos pins s σ H _ I h) fun us s1 ⟨vs, H1, I1, r1, q1⟩ => ?_) hs hpl))⟩
  obtain ⟨c, d, xs, ys, ex, hqx, hqy, q⟩ := q1
  subst ex
  obtain ⟨u1, u2, rfl, r1, r2⟩ := r1.two
  cases r1
  cases r2
  obtain ⟨its, rv, p1, sz⟩ := I1.tuple hqx
  obtain ⟨its2, rv2, p2, _⟩ := I1.tuple hqy
  obtain ⟨o1, ho1, _⟩ := id p1
  obtain ⟨o2, ho2, _⟩ := id p2
  refine RZ.call_zipT p1 p2 fun h2 hz hTI hTO h1' h2' hsz hk => wpAny_pyIter_zip hz ?_
  refine ⟨s1.heap.objs.size + 4, [s1.heap.objs.size + 4, s1.heap.objs.size + 2, s1.heap.objs.size + 3, s1.heap.objs.size, s1.heap.objs.size + 1], _, _, H1, rfl, I1.kept (t' := s1.toks) hk,
    turn_zn (PySem.W.ktu_apart _ _ _ (Heap.lt_size ho1) (Heap.lt_size ho2)), ⟨.none, false, hz, .inl rfl, hTI, ⟨_, _, hTO⟩, h1', h2'⟩, fun k hkm => ?_, q sz⟩
  have : k = s1.heap.objs.size + 4 ∨ k = s1.heap.objs.size + 2 ∨ k = s1.heap.objs.size + 3 ∨ k = s1.heap.objs.size ∨ k = s1.heap.objs.size + 1 := by simpa using hkm
  have hle : s1.heap.objs.size ≤ k := by
    rcases this with z | z | z | z | z
    · rw [z]; exact Nat.le_add_right _ 4
    · rw [z]; exact Nat.le_add_right _ 2
    · rw [z]; exact Nat.le_add_right _ 3
    · rw [z]; exact Nat.le_refl _
    · rw [z]; exact Nat.le_add_right _ 1
  exact I1.fpOk hle (I1.hok.fresh hle)
def zipD (xs ys : List PyData) : List PyData := (List.zip xs ys).map fun p => .tuple [p.1, p.2]
def zipW : List W → Option (List PyData)
  | [.d (.tuple xs), .d (.tuple ys)] => some (zipD xs ys)
  | _ => none
def zipWL : List W → Option (List PyData)
  | [.d (.list xs), .d (.list ys)] => some (zipD xs ys)
  | [.d (.tuple xs), .d (.tuple ys)] => some (zipD xs ys)
  | _ => none
def dZip (as : DA) : DI := fun σ S => bnd (as σ S) fun ws S1 => giv ((zipW ws).map fun xs => (xs, none)) S1
def dZipL (as : DA) : DI := fun σ S => bnd (as σ S) fun ws S1 => giv ((zipWL ws).map fun xs => (xs, none)) S1
theorem zipD_get {xs ys : List PyData} {i : Nat} {d : PyData} (h : (zipD xs ys)[i]? = some d) : ∃ x y, xs[i]? = some x ∧ ys[i]? = some y ∧ d = .tuple [x, y] := by
  unfold zipD at h
  rw [List.getElem?_map] at h
  obtain ⟨⟨x, y⟩, h1, h2⟩ := Option.map_eq_some_iff.mp h
  obtain ⟨h3, h4⟩ := List.getElem?_zip_eq_some.mp h1
  exact ⟨x, y, h3, h4, h2.symm⟩
theorem zipD_len (xs ys : List PyData) : (zipD xs ys).length = min xs.length ys.length := by simp [zipD]
theorem pair_new {K : PySem.W.Frag} {H : Hp} {φ : Fi} {S : So} {T : Addr} {x y : PyData} {u v : V} (hs : SR K H φ S) (hT : H T = none) (hx : RD K H φ x u) (hy : RD K H φ y v) :
    Ext φ H φ (upd H T (.tup [u, v])) ∧ SR K (upd H T (.tup [u, v])) φ S ∧ RD K (upd H T (.tup [u, v])) φ (.tuple [x, y]) (.ref T) := by
  have e := Ext.new (o := .tup [u, v]) hT hs
  exact ⟨e, hs.new hT, T, [u, v], rfl, upd_same, u, [v], rfl, RD.mono e x u hx, v, [], rfl, RD.mono e y v hy, rfl⟩
theorem itzT_it {K : PySem.W.Frag} {a b : Addr} {us vs : List V} {xs ys : List PyData} {φ : Fi} {H : Hp} (h1 : TP K H a us) (h2 : TP K H b vs) (d1 : RDs K H φ xs us) (d2 : RDs K H φ ys vs) : ItD K (ItzT K a b) (zipD xs ys) none φ H where
  go := fun φ2 H2 S i d e s _ hi => by
    obtain ⟨x, y, g1, g2, rfl⟩ := zipD_get hi
    have f1 := (TP.mono e h1).sq
    have f2 := (TP.mono e h2).sq
    obtain ⟨u, q1, r1⟩ := (RDs.mono e _ _ d1).get g1
    obtain ⟨v, q2, r2⟩ := (RDs.mono e _ _ d2).get g2
    refine ⟨⟨us, vs, u, v, f1, f2, q1, q2⟩, fun w H' hy => ?_⟩
    obtain ⟨T, u', v', rfl, hT, rfl, k1, k2⟩ := hy
    have e1 : u' = u := Option.some.inj ((k1 _ f1).symm.trans q1)
    have e2 : v' = v := Option.some.inj ((k2 _ f2).symm.trans q2)
    subst e1; subst e2
    exact pair_new s hT r1 r2
  stop := fun φ2 H2 S e s _ => ⟨us, vs, (TP.mono e h1).sq, (TP.mono e h2).sq, by rw [d1.length, d2.length, zipD_len]; omega⟩
theorem itzL_it {K : PySem.W.Frag} {a b : Addr} {us vs : List V} {xs ys : List PyData} {φ : Fi} {H : Hp} (h1 : FL H φ a us) (h2 : FL H φ b vs) (d1 : RDs K H φ xs us) (d2 : RDs K H φ ys vs) : ItD K (Itz K a b) (zipD xs ys) none φ H where
  go := fun φ2 H2 S i d e s _ hi => by
    obtain ⟨x, y, g1, g2, rfl⟩ := zipD_get hi
    have f1 := FL.sq (K := K) (h1.mono e)
    have f2 := FL.sq (K := K) (h2.mono e)
    obtain ⟨u, q1, r1⟩ := (RDs.mono e _ _ d1).get g1
    obtain ⟨v, q2, r2⟩ := (RDs.mono e _ _ d2).get g2
    refine ⟨⟨us, vs, u, v, f1, f2, q1, q2⟩, fun w H' hy => ?_⟩
    obtain ⟨T, u', v', rfl, hT, rfl, k1, k2⟩ := hy
    have e1 : u' = u := Option.some.inj ((k1 _ f1).symm.trans q1)
    have e2 : v' = v := Option.some.inj ((k2 _ f2).symm.trans q2)
    subst e1; subst e2
    exact pair_new s hT r1 r2
  stop := fun φ2 H2 S e s _ => ⟨us, vs, (h1.mono e).sq, (h2.mono e).sq, by rw [d1.length, d2.length, zipD_len]; omega⟩
theorem i_zipN {a b : Expr} {das : DA} {nm : Str} {np : Pos} (hm : X.mg "zip" = none) (ha : SA X E [a, b] das) (hg : Gl X "zip" := by rfl) (hs : starEach [a, b] X.env = (false, eval a X.env) :: starEach [b] X.env := by rfl) (hpl : (backTo pos (starEach [b] X.env)).any (·.1) = false := by rfl) :
    SI X E (.Name nm np) (.Call (.Name "zip" p) [a, b] [] pos) (dZip das) := by
  refine PIw (pi_zn hg hm ha hs hpl) fun σV H R q => ?_
  obtain ⟨φ, σ, S, r', hs, hen, hd, hq⟩ := q
  unfold dZip at hd
  match ha : das σ S, hd with
  | none, hd => cases hd
  | some (.xc x S1), hd => cases hd; exact ⟨φ, σ, S, .xc x S1, hs, hen, ha, hq⟩
  | some (.ok ws S1), hd =>
    refine ⟨φ, σ, S, .ok ws S1, hs, hen, ha, fun φ1 H1 vs e1 s1 x1 => ?_⟩
    rw [bnd_ok] at hd
    match hg : zipW ws, hd with
    | none, hd => cases hd
    | some zs, hd =>
      cases hd
      unfold zipW at hg
      split at hg
      · cases hg
        obtain ⟨v, w, rfl, ⟨l1, u1, rfl, t1, r1⟩, ⟨l2, u2, rfl, t2, r2⟩⟩ := two_of x1
        refine ⟨l1, l2, u1, u2, rfl, t1.sq, t2.sq, fun hz => hq φ1 H1 _ e1 s1 (itzT_it t1 t2 r1 r2) ?_⟩
        rw [zipD_len, ← r1.length]
        exact Nat.le_trans (Nat.min_le_left _ _) hz
      · cases hg
def iZipB (K : PySem.W.Frag) (ta : TA) : TI := fun σ H R => ta σ H fun vs H1 => ∃ a b xs ys, vs = [.ref a, .ref b] ∧ ((SqL K H1 a xs ∧ SqL K H1 b ys ∧ (xs.length ≤ sizeLine → R (Itz K a b) H1)) ∨ (SqT K H1 a xs ∧ SqT K H1 b ys ∧ (xs.length ≤ sizeLine → R (ItzT K a b) H1)))
theorem pi_zt {a b : Expr} {ta : TA} {elts : List Expr} {kk : Nat} {tp : Pos} (hg : Gl X "zip") (hm : X.mg "zip" = none) (ha : PA X [a, b] ta) (hs : starEach [a, b] X.env = (false, eval a X.env) :: starEach [b] X.env := by rfl) (hpl : (backTo pos (starEach [b] X.env)).any (·.1) = false := by rfl) :
    PI X (.Tuple elts kk tp) (.Call (.Name "zip" p) [a, b] [] pos) (iZipB X.K ta) := by
  refine ⟨fun pins s σ H R I h => Call_ (ld_blt I hg hm PyProof.Rows.boot_zip (PyProof.Rows.callWith_type1 (thn (ha.run pos pins s σ H _ I h) fun us s1 ⟨vs, H1, I1, r1, q1⟩ => ?_) hs hpl))⟩
  obtain ⟨c, d, xs, ys, ex, q⟩ := q1
  subst ex
  obtain ⟨u1, u2, rfl, r1, r2⟩ := r1.two
  cases r1
  cases r2
  have fresh : ∀ k, k ∈ [s1.heap.objs.size + 4, s1.heap.objs.size + 2, s1.heap.objs.size + 3, s1.heap.objs.size, s1.heap.objs.size + 1] → FpOk X pins H1 k := fun k hkm => by
    have : k = s1.heap.objs.size + 4 ∨ k = s1.heap.objs.size + 2 ∨ k = s1.heap.objs.size + 3 ∨ k = s1.heap.objs.size ∨ k = s1.heap.objs.size + 1 := by simpa using hkm
    have hle : s1.heap.objs.size ≤ k := by
      rcases this with z | z | z | z | z
      · rw [z]; exact Nat.le_add_right _ 4
      · rw [z]; exact Nat.le_add_right _ 2
      · rw [z]; exact Nat.le_add_right _ 3
      · rw [z]; exact Nat.le_refl _
      · rw [z]; exact Nat.le_add_right _ 1
    exact I1.fpOk hle (I1.hok.fresh hle)
  rcases q with ⟨hqx, hqy, q⟩ | ⟨hqx, hqy, q⟩
  · obtain ⟨its, rv, p1, sz⟩ := I1.list hqx
    obtain ⟨its2, rv2, p2, _⟩ := I1.list hqy
    refine call_zip_2 p1.isList p2.isList fun h2 hz hTI hTO h1' h2' hsz hk => wpAny_pyIter_zip hz ?_
    exact ⟨s1.heap.objs.size + 4, [s1.heap.objs.size + 4, s1.heap.objs.size + 2, s1.heap.objs.size + 3, s1.heap.objs.size, s1.heap.objs.size + 1], _, _, H1, rfl, I1.kept (t' := s1.toks) hk,
      turn_zip (PySem.W.ktu_apart _ _ _ p1.lt p2.lt), ⟨hz, hTI, ⟨_, _, hTO⟩, h1', h2'⟩, fresh, q sz⟩
  · obtain ⟨its, rv, p1, sz⟩ := I1.tuple hqx
    obtain ⟨its2, rv2, p2, _⟩ := I1.tuple hqy
    obtain ⟨o1, ho1, _⟩ := id p1
    obtain ⟨o2, ho2, _⟩ := id p2
    refine RZ.call_zipT p1 p2 fun h2 hz hTI hTO h1' h2' hsz hk => wpAny_pyIter_zip hz ?_
    exact ⟨s1.heap.objs.size + 4, [s1.heap.objs.size + 4, s1.heap.objs.size + 2, s1.heap.objs.size + 3, s1.heap.objs.size, s1.heap.objs.size + 1], _, _, H1, rfl, I1.kept (t' := s1.toks) hk,
      RZ.turn_zipT (PySem.W.ktu_apart _ _ _ (Heap.lt_size ho1) (Heap.lt_size ho2)), ⟨hz, hTI, ⟨_, _, hTO⟩, h1', h2'⟩, fresh, q sz⟩
theorem i_zipT {a b : Expr} {das : DA} {elts : List Expr} {kk : Nat} {tp : Pos} (hm : X.mg "zip" = none) (ha : SA X E [a, b] das) (hg : Gl X "zip" := by rfl) (hs : starEach [a, b] X.env = (false, eval a X.env) :: starEach [b] X.env := by rfl) (hpl : (backTo pos (starEach [b] X.env)).any (·.1) = false := by rfl) :
    SI X E (.Tuple elts kk tp) (.Call (.Name "zip" p) [a, b] [] pos) (dZipL das) := by
  refine PIw (pi_zt hg hm ha hs hpl) fun σV H R q => ?_
  obtain ⟨φ, σ, S, r', hs, hen, hd, hq⟩ := q
  unfold dZipL at hd
  match ha : das σ S, hd with
  | none, hd => cases hd
  | some (.xc x S1), hd => cases hd; exact ⟨φ, σ, S, .xc x S1, hs, hen, ha, hq⟩
  | some (.ok ws S1), hd =>
    refine ⟨φ, σ, S, .ok ws S1, hs, hen, ha, fun φ1 H1 vs e1 s1 x1 => ?_⟩
    rw [bnd_ok] at hd
    match hg : zipWL ws, hd with
    | none, hd => cases hd
    | some zs, hd =>
      cases hd
      unfold zipWL at hg
      split at hg
      · cases hg
        obtain ⟨v, w, rfl, ⟨l1, u1, rfl, t1, r1⟩, ⟨l2, u2, rfl, t2, r2⟩⟩ := two_of x1
        refine ⟨l1, l2, u1, u2, rfl, .inl ⟨t1.sq, t2.sq, fun hz => hq φ1 H1 _ e1 s1 (itzL_it t1 t2 r1 r2) ?_⟩⟩
        rw [zipD_len, ← r1.length]
        exact Nat.le_trans (Nat.min_le_left _ _) hz
      · cases hg
        obtain ⟨v, w, rfl, ⟨l1, u1, rfl, t1, r1⟩, ⟨l2, u2, rfl, t2, r2⟩⟩ := two_of x1
        refine ⟨l1, l2, u1, u2, rfl, .inr ⟨t1.sq, t2.sq, fun hz => hq φ1 H1 _ e1 s1 (itzT_it t1 t2 r1 r2) ?_⟩⟩
        rw [zipD_len, ← r1.length]
        exact Nat.le_trans (Nat.min_le_left _ _) hz
      · cases hg
end
end CL
end

section
/-! part CLSet -/
set_option Elab.async false
set_option linter.all false
set_option maxRecDepth 100000
set_option maxHeartbeats 4000000
/-! CLSet: set(xs) of texts, as far as len goes. -/
namespace CL
open PySem PySem.Spec PyProof.Rows L2
/-- the texts of a list, each once, in order -/
def onceS (acc : List Str) (x : Str) : List Str := if acc.any (· == x) = true then acc else acc ++ [x]
def once (xs : List Str) : List Str := xs.foldl onceS []
theorem onceS_any (acc : List Str) (x k : Str) : (onceS acc x).any (· == k) = (acc.any (· == k) || decide (k = x)) := by
  unfold onceS
  by_cases h : acc.any (· == x) = true
  · rw [if_pos h]
    by_cases e : k = x
    · subst e; rw [h]; rfl
    · rw [decide_eq_false e, Bool.or_false]
  · rw [if_neg h, List.any_append]
    by_cases e : k = x
    · subst e; simp
    · rw [decide_eq_false e]
      have : (x == k) = false := beq_eq_false_iff_ne.mpr (Ne.symm e)
      simp [this]
theorem onceS_len (acc : List Str) (x : Str) : (onceS acc x).length = if acc.any (· == x) = true then acc.length else acc.length + 1 := by
  unfold onceS; split <;> simp
theorem once_le (xs : List Str) : ∀ acc : List Str, (xs.foldl onceS acc).length ≤ acc.length + xs.length := by
  induction xs with
  | nil => intro acc; simp
  | cons x xs ih =>
    intro acc
    have h1 := ih (onceS acc x)
    have h2 := onceS_len acc x
    rw [List.foldl_cons, List.length_cons]
    split at h2 <;> omega
theorem once_take (xs : List Str) {i : Nat} {x : Str} (h : xs[i]? = some x) : once (xs.take (i + 1)) = onceS (once (xs.take i)) x := by
  unfold once
  rw [List.take_add_one, h, List.foldl_append]
  rfl
theorem textsAt : ∀ {vs : List Value} {xs : List Str}, StrsAre vs xs → ∀ {i : Nat} {v : Value}, vs[i]? = some v → ∃ x t, xs[i]? = some x ∧ v = .str x t
  | _, _, .nil, _, _, h => by simp at h
  | _, _, .cons n t _, 0, _, h => ⟨n, t, rfl, (Option.some.inj h).symm⟩
  | _, _, .cons _ _ r, _ + 1, _, h => textsAt r (by simpa using h)
section
variable {P : Program} {w : World} {A : Around} {E : Value → Shared → Prop} {s : Shared}
abbrev TxtSet (P : Program) (w : World) (h : Heap) (a : Addr) (xs : List Str) : Prop := h.SetOf (PySem.strKind P w) a (fun k => (once xs).any (· == k)) (once xs).length
theorem TxtSet.at_ {h h' : Heap} {a : Addr} {xs : List Str} (q : TxtSet P w h a xs) (k : ∀ o, h.get? a = some o → h'.get? a = some o) : TxtSet P w h' a xs := by
  obtain ⟨o, es, ep, t, ho, r⟩ := q
  exact ⟨o, es, ep, t, k o ho, r⟩
theorem txt_loop {R : Result → Shared → Prop} {I : Addr} {fp wr : List Addr} {G : Array GenState → Array GenState → Prop} {n : Nat} {Pv : Nat → Value → Prop} {St : Nat → Shared → Prop} (W : WalksS P w A.in1 I fp wr G n Pv St) (Z : Addr) (hZ : Z ∉ fp)
    (xs : List Str) (hn : n = xs.length) (hv : ∀ i v, Pv i v → ∃ x t, xs[i]? = some x ∧ v = .str x t) (hb : n + 1 < scanBound) (m : Nat) :
    ∀ (i : Nat) (s : Shared), i + m = n → St i s → TxtSet P w s.heap Z (xs.take i) → (∀ s', Moved (Z :: wr) G s s' → TxtSet P w s'.heap Z xs → R (.ok (.ret .none)) s') →
      codeAny (model P w) A (.builtin "set.update.loop" ⟨[.ref Z, .ref I], []⟩) R s := by
  have hZw : Z ∉ wr := fun h => hZ (W.sub _ h)
  have up : ∀ b ∈ wr, b ∈ Z :: wr := fun b h => List.mem_cons_of_mem _ h
  induction m with
  | zero =>
    intro i s hi st hS hR
    have ei : i = n := by omega
    subst ei
    refine codeAny_builtin PyProof.Rows.F.entry_set_update_loop ?_
    rw [Around.under_plainId PyProof.Rows.F.plain_set_update_loop _]
    refine wpAny_bind (m := pyNext (.ref I)) (W.done s _ _ st fun s' mv => wpAny_pure (hR s' (mv.mono up) ?_))
    have q := hS.at_ fun o ho => mv.heap Z o hZw ho
    rw [hn, List.take_length] at q
    exact q
  | succ m ih =>
    intro i s hi st hS hR
    refine codeAny_builtin PyProof.Rows.F.entry_set_update_loop ?_
    rw [Around.under_plainId PyProof.Rows.F.plain_set_update_loop _]
    refine wpAny_bind (m := pyNext (.ref I)) (W.item i s _ _ (by omega) st fun v s' pv st' mv => ?_)
    obtain ⟨x, t, hx, rfl⟩ := hv i v pv
    have hS1 := hS.at_ fun o ho => mv.heap Z o hZw ho
    have room : (once (xs.take i)).length + 1 < scanBound := by
      have := once_le (xs.take i) []
      have l2 : (xs.take i).length ≤ i := by rw [List.length_take]; exact Nat.min_le_left _ _
      have l3 : (once (xs.take i)).length ≤ i := by unfold once; simp only [List.length_nil] at this; omega
      omega
    refine wpAny_bind (m := holding [Value.str x t] (setAdd Z (.str x t))) (wpAny_holding ?_)
    unfold setAdd
    refine wpAny_holding (wpAny_bind ((PySem.strKind P w).pyHash (k := x) (strKind_is _ _ _ _) ?_))
    refine wpAny_setAddHashed_of (knd := PySem.strKind P w) (s := { s' with toks := s'.toks + 1 }) (strKind_is _ _ _ _) rfl hS1 room fun h' sb hS2 => ?_
    have hS3 : TxtSet P w h' Z (xs.take (i + 1)) := by
      rw [TxtSet, once_take xs hx]
      exact SetOf_congr hS2 (fun k => (onceS_any _ x k).symm) (onceS_len _ x).symm
    refine wpAny_pure ⟨plainId_quiet PyProof.Rows.F.plain_set_update_loop _, ih (i + 1) _ (by omega) (W.frame _ s' _ _ st' (Nat.le_succ _) fun b hb' o eo => ?_) hS3 fun s2 mv2 q => hR s2 (Moved.trans W.gtrans ((mv.mono up).then_heap (Nat.le_succ _) fun b o hb' eo => ?_) mv2) q⟩
    · rw [sb.2 b fun e : b = Z => hZ (e ▸ hb')]; exact eo
    · rw [sb.2 b fun e : b = Z => hb' (e ▸ List.mem_cons_self)]; exact eo
/-- set(l) of a list of texts -/
theorem set_texts {l : Addr} {its : Array Value} {xs : List Str} {Q : Value → Shared → Prop} (h0 : A.handled = none) (hl : s.heap.IsList l its) (hi : StrsAre its.toList xs) (hb : xs.length + 1 < scanBound)
    (hQ : ∀ (h2 : Heap) (tk : Nat), TxtSet P w h2 s.heap.objs.size xs → (∀ b o, b < s.heap.objs.size → s.heap.get? b = some o → h2.get? b = some o) → Q (.ref s.heap.objs.size) { s with heap := h2, toks := tk }) :
    wpAny (model P w) A (call (.type "set") [.ref l]) Q E s := by
  obtain ⟨m0, m1, m2⟩ := F.called_set.mro
  have y1 := F.called_set.made; have y2 := F.called_set.sub; have y3 := F.called_set.notType; have y4 := F.called_set.canCreate; have y5 := F.typeCall_set_1 (.ref l)
  refine wpAny_call (codeAny_of_tree (show wpAny _ _ (callAny (.type "set") _) _ _ _ from wpAny_pure ⟨Code.quiet_builtin _ (by decide +kernel), codeAny_builtin F.entry_type_call ?_⟩))
  rw [Around.under_plain (weight_type_call_type "set" [Value.ref l] ([] : List (Str × Value))) rfl]
  repeat (any_goals (first | wp_step | assumption))
  let H0 : Bool → Heap := fun led => s.heap.push { cls := .type "set", dict := none, data := .set #[] 0 (.fresh 0 0 led) }
  refine codeAny_mono (code_set_new_1 (Value.ref l) (E := E) (Q₁ := fun u s1 => ∃ led : Bool, u = .ref s.heap.objs.size ∧ s1 = { s with heap := H0 led }) fun led => ⟨led, rfl, rfl⟩) fun r s1 hr => ?_
  match r, hr with
  | .error e, hr => exact hr
  | .ok .next, hr => exact hr.elim
  | .ok .brk, hr => exact hr.elim
  | .ok .cont, hr => exact hr.elim
  | .ok (.ret u), hr =>
    obtain ⟨led, e1, e2⟩ := hr
    subst e1; subst e2
    have g0 : (H0 led).get? s.heap.objs.size = some { cls := .type "set", dict := none, data := .set #[] 0 (.fresh 0 0 led) } := Heap.get?_push_size _ rfl
    have t0 : Shared.TypeIs { s with heap := H0 led } (.ref s.heap.objs.size) "set" := ⟨_, g0, rfl⟩
    have i1 := F.called_set.init.lookup; have i2 := F.called_set.init.bind (Value.ref s.heap.objs.size)
    repeat (any_goals (first | wp_step | assumption))
    refine codeAny_mono (codeAny_call_builtin (R := wants (fun r s2 => r = .none ∧ ∃ h2 tk, s2 = { s with heap := h2, toks := tk } ∧ TxtSet P w h2 s.heap.objs.size xs ∧ ∀ b o, b < s.heap.objs.size → s.heap.get? b = some o → h2.get? b = some o) E)
      F.called_set.init.plain F.entry_set_init (check_set_init_1 t0 ?_)) fun r2 s2 hr2 => ?_
    · obtain ⟨⟨oc, od, oda, osl⟩, ho, hc, nl, hd⟩ := id hl
      dsimp only at hc hd
      subst hc hd
      have g1 : (H0 led).get? l = some { cls := .type "list", dict := od, data := .seq its nl, slots := osl } := Heap.get?_push_of_some _ ho
      have z1 := F.sub_list_set; have z2 := F.sub_list_frozenset
      have z3 : (Value.type "list" == Value.type "dict") = false := by decide
      have l1 : (H0 led).IsList l its := ⟨_, g1, rfl, nl, rfl⟩
      have lS : l < s.heap.objs.size := Heap.lt_size ho
      have sz : (H0 led).objs.size = s.heap.objs.size + 1 := Heap.size_push _ _
      unfold Builtin.«set.__init__» noKeywords Builtin.Frozenset.updateFrom
      generalize hPy : pyIter = Py
      wp_walk
      subst hPy
      refine wpAny_pyIter_list l1 (wpAny_bind (wpAny_runValue ?_))
      have len : xs.length = its.size := by rw [← StrsAre.len_eq hi, Array.length_toList]
      have nI : l ≠ (H0 led).objs.size := by rw [sz]; exact Nat.ne_of_lt (Nat.lt_succ_of_lt lS)
      have nS : s.heap.objs.size ∉ [(H0 led).objs.size, l] := by
        rw [sz]
        intro hm
        rcases List.mem_cons.mp hm with e | hm
        · exact Nat.ne_of_lt (Nat.lt_succ_self _) e
        · exact Nat.ne_of_gt lS (List.mem_singleton.mp hm)
      refine txt_loop ((Walks.list (by simp [h0]) _ l nI its).toS) s.heap.objs.size nS xs len.symm (fun i v hv => textsAt hi (by rw [Array.getElem?_toList]; exact hv)) (by rw [← len]; exact hb) its.size 0 _ (by omega)
        ⟨⟨_, Heap.get?_push_size _ rfl, rfl, rfl⟩, l1.push _⟩ ?_ fun s' mv q => ?_
      · exact SetOf_congr ((setObjOf_fresh (knd := PySem.strKind P w) led).setOf (Heap.get?_push_of_some _ g0) (by unfold scanBound; omega)) (fun _ => rfl) rfl
      · obtain ⟨h2, gg, dd, tk, os⟩ := s'
        have e1 : gg = s.gens := mv.gens
        have e2 : dd = s.drawn := mv.drawn
        have e3 : os = s.os := mv.os
        subst e1; subst e2; subst e3
        refine wpAny_pure (wpAny_pure ⟨rfl, h2, tk, rfl, q, fun b o hb' e => mv.heap b o (fun hm => ?_) (Heap.get?_push_of_some _ (Heap.get?_push_of_some _ e))⟩)
        rcases List.mem_cons.mp hm with e4 | hm
        · exact Nat.ne_of_lt hb' e4
        · have e5 := List.mem_singleton.mp hm
          rw [sz] at e5
          exact Nat.ne_of_lt (Nat.lt_succ_of_lt hb') e5
    · match r2, hr2 with
      | .error e, hr2 => exact hr2
      | .ok .next, hr2 => exact hr2.elim
      | .ok .brk, hr2 => exact hr2.elim
      | .ok .cont, hr2 => exact hr2.elim
      | .ok (.ret v), hr2 =>
        obtain ⟨rfl, h2, tk, rfl, q, k⟩ := hr2
        repeat (any_goals (first | wp_step | assumption))
        exact hQ _ _ q k
end
end CL
end

section
/-! part CLDict -/
set_option Elab.async false
set_option linter.all false
set_option maxRecDepth 100000
set_option maxHeartbeats 1000000
/-! CLDict: dicts with keys of ints and texts, and with tuples of such. -/
namespace CL
open PySem PySem.Spec PyProof.Rows L2

section
variable {κ : Type} [DecidableEq κ]
def valD (kvs : List (κ × PyData)) (k : κ) : Option PyData := (kvs.find? fun kv => decide (kv.1 = k)).map (·.2)
def putD (kvs : List (κ × PyData)) (k : κ) (v : PyData) : List (κ × PyData) :=
  if (kvs.any fun kv => decide (kv.1 = k)) = true then kvs.map (fun kv => if kv.1 = k then (kv.1, v) else kv) else kvs ++ [(k, v)]
/-- the entries stand for the data -/
def KR (K : PySem.W.Frag) (H : Hp) (φ : Fi) : List (κ × PyData) → List (κ × V) → Prop
  | [], es => es = []
  | p :: r, es => ∃ v t, es = (p.1, v) :: t ∧ RD K H φ p.2 v ∧ KR K H φ r t
variable {K : PySem.W.Frag} {H : Hp} {φ : Fi}
theorem KR.of : ∀ {kvs : List (κ × PyData)} {es : List (κ × V)}, es.map (·.1) = kvs.map (·.1) → RDs K H φ (kvs.map (·.2)) (es.map (·.2)) → KR K H φ kvs es
  | [], [], _, _ => rfl
  | [], _ :: _, h, _ => by simp at h
  | _ :: _, [], h, _ => by simp at h
  | (k, x) :: kvs, (j, v) :: es, h, ⟨u, t, e, h1, h2⟩ => by
    simp at h e
    obtain ⟨e1, e2⟩ := h
    obtain ⟨e3, e4⟩ := e
    subst e1; subst e3; subst e4
    exact ⟨v, es, rfl, h1, KR.of (by simpa using e2) h2⟩
theorem KR.to : ∀ {kvs : List (κ × PyData)} {es : List (κ × V)}, KR K H φ kvs es → es.map (·.1) = kvs.map (·.1) ∧ RDs K H φ (kvs.map (·.2)) (es.map (·.2))
  | [], _, h => by cases h; exact ⟨rfl, rfl⟩
  | p :: kvs, _, ⟨v, t, e, h1, h2⟩ => by
    subst e
    obtain ⟨q1, q2⟩ := KR.to h2
    exact ⟨by simp [q1], v, t.map (·.2), by simp, h1, q2⟩
theorem KR.length : ∀ {kvs : List (κ × PyData)} {es : List (κ × V)}, KR K H φ kvs es → es.length = kvs.length
  | [], _, h => by cases h; rfl
  | p :: kvs, _, ⟨v, t, e, h1, h2⟩ => by subst e; simp [KR.length h2]
theorem KR.val {k : κ} : ∀ {kvs : List (κ × PyData)} {es : List (κ × V)} {x : PyData}, KR K H φ kvs es → valD kvs k = some x → ∃ v, valV es k = some v ∧ RD K H φ x v
  | [], _, _, _, e => by simp [valD] at e
  | p :: kvs, _, x, ⟨v, t, e, h1, h2⟩, e2 => by
    subst e
    unfold valD at e2
    by_cases q : p.1 = k
    · simp [List.find?_cons, q] at e2
      subst e2
      exact ⟨v, valV_pos (p := (p.1, v)) q, h1⟩
    · simp only [List.find?_cons, decide_eq_false q] at e2
      obtain ⟨u, q1, q2⟩ := KR.val h2 e2
      exact ⟨u, by rw [valV_neg (p := (p.1, v)) q]; exact q1, q2⟩
theorem KR.none {k : κ} : ∀ {kvs : List (κ × PyData)} {es : List (κ × V)}, KR K H φ kvs es → valD kvs k = Option.none → valV es k = Option.none
  | [], _, h, _ => by cases h; rfl
  | p :: kvs, _, ⟨v, t, e, h1, h2⟩, e2 => by
    subst e
    unfold valD at e2
    by_cases q : p.1 = k
    · simp [List.find?_cons, q] at e2
    · simp only [List.find?_cons, decide_eq_false q] at e2
      rw [valV_neg (p := (p.1, v)) q]
      exact KR.none h2 e2
theorem KR.any {k : κ} : ∀ {kvs : List (κ × PyData)} {es : List (κ × V)}, KR K H φ kvs es → (es.any fun kv => decide (kv.1 = k)) = kvs.any fun kv => decide (kv.1 = k)
  | [], _, h => by cases h; rfl
  | p :: kvs, _, ⟨v, t, e, h1, h2⟩ => by subst e; simp only [List.any_cons]; rw [KR.any h2]
theorem KR.repl {k : κ} {x : PyData} {u : V} (hx : RD K H φ x u) : ∀ {kvs : List (κ × PyData)} {es : List (κ × V)}, KR K H φ kvs es → KR K H φ (kvs.map fun kv => if kv.1 = k then (kv.1, x) else kv) (es.map fun kv => if kv.1 = k then (kv.1, u) else kv)
  | [], _, h => by cases h; rfl
  | p :: kvs, _, ⟨v, t, e, h1, h2⟩ => by
    subst e
    simp only [List.map_cons]
    by_cases q : p.1 = k
    · rw [if_pos q, if_pos q]; exact ⟨u, _, rfl, hx, KR.repl hx h2⟩
    · rw [if_neg q, if_neg q]; exact ⟨v, _, rfl, h1, KR.repl hx h2⟩
theorem KR.snoc {k : κ} {x : PyData} {u : V} (hx : RD K H φ x u) : ∀ {kvs : List (κ × PyData)} {es : List (κ × V)}, KR K H φ kvs es → KR K H φ (kvs ++ [(k, x)]) (es ++ [(k, u)])
  | [], _, h => by cases h; exact ⟨u, [], rfl, hx, rfl⟩
  | p :: kvs, _, ⟨v, t, e, h1, h2⟩ => by subst e; exact ⟨v, _, rfl, h1, KR.snoc hx h2⟩
theorem KR.put {k : κ} {x : PyData} {u : V} {kvs : List (κ × PyData)} {es : List (κ × V)} (h : KR K H φ kvs es) (hx : RD K H φ x u) : KR K H φ (putD kvs k x) (putK es k u) := by
  unfold putD putK
  rw [h.any]
  split
  · exact h.repl hx
  · exact h.snoc hx
theorem KR.mono {H' : Hp} {φ' : Fi} (e : Ext φ H φ' H') : ∀ {kvs : List (κ × PyData)} {es : List (κ × V)}, KR K H φ kvs es → KR K H' φ' kvs es
  | [], _, h => h
  | p :: kvs, _, ⟨v, t, e1, h1, h2⟩ => ⟨v, t, e1, RD.mono e _ _ h1, KR.mono e h2⟩
end
section
variable {K : PySem.W.Frag} {H : Hp} {φ : Fi} {S : So} {n : Nat} {a : Addr}
theorem SR.dk {kvs : List (Key × PyData)} (hs : SR K H φ S) (ha : φ.l[n]? = some a) (h : S[n]? = some (.dk kvs)) : ∃ es, H a = some (.dK es) ∧ KR K H φ kvs es := by
  obtain ⟨es, h1, h2, h3⟩ := hs.ob n a _ ha h
  exact ⟨es, h1, .of h2 h3⟩
theorem SR.dt {kvs : List (List Key × PyData)} (hs : SR K H φ S) (ha : φ.l[n]? = some a) (h : S[n]? = some (.dt kvs)) : ∃ es, H a = some (.dT es) ∧ KR K H φ kvs es := by
  obtain ⟨es, h1, h2, h3⟩ := hs.ob n a _ ha h
  exact ⟨es, h1, .of h2 h3⟩
theorem OR.dk' {kvs : List (Key × PyData)} {es : List (Key × V)} (h : H a = some (.dK es)) (k : KR K H φ kvs es) : OR K H φ a (.dk kvs) := ⟨es, h, k.to.1, k.to.2⟩
theorem OR.dt' {kvs : List (List Key × PyData)} {es : List (List Key × V)} (h : H a = some (.dT es)) (k : KR K H φ kvs es) : OR K H φ a (.dt kvs) := ⟨es, h, k.to.1, k.to.2⟩
end
/-! ### keys -/
def keyD : Key → PyData
  | .inl i => .int i
  | .inr x => .str x
def keyP : PyData → Option Key
  | .int i => some (.inl i)
  | .str x => some (.inr x)
  | _ => none
def keysP : List PyData → Option (List Key)
  | [] => some []
  | x :: r => match keyP x, keysP r with
    | some k, some ks => some (k :: ks)
    | _, _ => none
section
variable {K : PySem.W.Frag} {H : Hp} {φ : Fi}
theorem keyP_of {x : PyData} {k : Key} {v : V} (h : RD K H φ x v) (e : keyP x = some k) : v = kV k := by
  cases x <;> simp [keyP] at e
  · subst e; exact h
  · subst e; exact h
theorem keysP_of : ∀ {xs : List PyData} {ks : List Key} {vs : List V}, RDs K H φ xs vs → keysP xs = some ks → vs = ks.map kV
  | [], _, _, h, e => by cases e; exact h
  | x :: xs, ks, _, ⟨v, t, e1, h1, h2⟩, e => by
    unfold keysP at e
    match hk : keyP x, hr : keysP xs, e with
    | some k, some r, e => cases e; subst e1; rw [keyP_of h1 hk, keysP_of h2 hr]; rfl
    | none, _, e => cases e
    | some _, none, e => cases e
theorem keyD_rd (k : Key) : RD K H φ (keyD k) (kV k) := by cases k <;> rfl
theorem keysD_rd : ∀ ks : List Key, RDs K H φ (ks.map keyD) (ks.map kV)
  | [] => rfl
  | k :: ks => ⟨kV k, _, rfl, keyD_rd k, keysD_rd ks⟩
end
/-- which entry a key asks for -/
def dgetW (S : So) : W → W → Option W
  | .r n, .d y => match S[n]? with
    | some (.dk kvs) => (keyP y).bind fun k => (valD kvs k).map W.d
    | some (.dt kvs) => match y with
      | .tuple ys => (keysP ys).bind fun k => (valD kvs k).map W.d
      | _ => none
    | _ => none
  | _, _ => none
def dputW (S : So) : W → W → W → Option So
  | .r n, .d y, .d x => match S[n]? with
    | some (.dk kvs) => if small (kvs.length + 1) = true then (keyP y).map fun k => S.set n (.dk (putD kvs k x)) else none
    | some (.dt kvs) => match y with
      | .tuple ys => if small (kvs.length + 1) = true then (keysP ys).map fun k => S.set n (.dt (putD kvs k x)) else none
      | _ => none
    | _ => none
  | _, _, _ => none
section
variable {X : Cx} {E : XK} {pos p pos' : Pos} {o i value : Expr} {dd di dv : DE}
theorem tE2 {da db : DE} {W0 : W → W → So → Option (RE W)} {R : V → V → Hp → VK → Prop} (σV : L2.St) (H : Hp) (Q : VK) (h : tE X.K X.mg E (fun σ S => bnd (da σ S) fun x S1 => bnd (db σ S1) fun y S2 => W0 x y S2) σV H Q)
    (k : ∀ φ H S x y v u r Q, SR X.K H φ S → RW X.K H φ X.mg x v → RW X.K H φ X.mg y u → W0 x y S = some r → oE X.K X.mg E φ H Q r → R v u H Q) :
    tE X.K X.mg E da σV H fun v H1 => tE X.K X.mg E db σV H1 fun u H2 => R v u H2 Q := by
  obtain ⟨φ, σ, S, r', hs, he, hd, hq⟩ := h
  have hd : bnd (da σ S) (fun x S1 => bnd (db σ S1) fun y S2 => W0 x y S2) = some r' := hd
  match ha : da σ S, hd with
  | none, hd => cases hd
  | some (.xc x S1), hd => cases hd; exact ⟨φ, σ, S, .xc x S1, hs, he, ha, hq⟩
  | some (.ok x S1), hd =>
    refine ⟨φ, σ, S, .ok x S1, hs, he, ha, fun φ1 H1 v1 e1 s1 x1 => ?_⟩
    have hd : bnd (db σ S1) (fun y S2 => W0 x y S2) = some r' := hd
    match hb : db σ S1, hd with
    | none, hd => cases hd
    | some (.xc y S2), hd => cases hd; exact ⟨φ1, σ, S1, .xc y S2, s1, he.mono e1, hb, XR.keep e1 hq⟩
    | some (.ok y S2), hd =>
      refine ⟨φ1, σ, S1, .ok y S2, s1, he.mono e1, hb, fun φ2 H2 v2 e2 s2 y2 => ?_⟩
      have hd : W0 x y S2 = some r' := hd
      refine k φ2 H2 S2 x y v1 v2 r' Q s2 (x1.mono e2) y2 hd ?_
      have e12 := e1.trans e2
      cases r' with
      | ok w S3 => exact fun φ' H' v e' => hq φ' H' v (e12.trans e')
      | xc z S3 => exact XR.keep e12 hq
def dGet (d i : DE) : DE := fun σ S => bnd (d σ S) fun x S1 => bnd (i σ S1) fun y S2 => giv (dgetW S2 x y) S2
theorem e_dget (hu : X.A.units + 1 < cLine) (ho : SE X E o dd) (hi : SE X E i di) (hp : NoSl i := by intro _ _; rfl) : SE X E (.Subscript o i pos) (dGet dd di) := by
  refine PEw (pe_dget hu ho hi hp) fun σV H Q h => tE2 (W0 := fun x y S => giv (dgetW S x y) S) (R := fun v u H2 Q => ∃ a w, v = .ref a ∧ DGet H2 a u (some w) ∧ Q w H2) σV H Q h fun φ H S x y v u r Q hs hx hy hg hq => ?_
  match hw : dgetW S x y, hg with
  | none, hg => cases hg
  | some w, hg =>
    cases hg
    unfold dgetW at hw
    split at hw
    · rename_i n y
      obtain ⟨a, ha, rfl⟩ := hx
      split at hw
      · rename_i kvs hS
        obtain ⟨es, h1, h2⟩ := hs.dk ha hS
        obtain ⟨k, h3, h4⟩ := Option.bind_eq_some_iff.mp hw
        obtain ⟨z, h5, h6⟩ := Option.map_eq_some_iff.mp h4
        subst h6
        obtain ⟨w, h7, h8⟩ := h2.val h5
        refine ⟨a, w, rfl, ?_, hq φ H w .refl hs h8⟩
        rw [keyP_of hy h3, ← h7]
        exact DGet.k h1
      · rename_i kvs hS
        split at hw
        · rename_i ys
          obtain ⟨es, h1, h2⟩ := hs.dt ha hS
          obtain ⟨k, h3, h4⟩ := Option.bind_eq_some_iff.mp hw
          obtain ⟨z, h5, h6⟩ := Option.map_eq_some_iff.mp h4
          subst h6
          obtain ⟨w, h7, h8⟩ := h2.val h5
          obtain ⟨b, us, rfl, h9, h10⟩ := hy
          refine ⟨a, w, rfl, ?_, hq φ H w .refl hs h8⟩
          rw [← h7]
          exact DGet.t h1 (by rw [← keysP_of h10 h3]; exact h9)
        · cases hw
      · cases hw
    · cases hw
/-- d[i] = value -/
def sPut (d i v : DE) : DS := fun σ S => bndS (v σ S) fun x S1 => bndS (d σ S1) fun z S2 => bndS (i σ S2) fun y S3 => (dputW S3 z y x).map fun S4 => .nx σ S4
theorem dput_ok {φ : Fi} {H : Hp} {S S4 : So} {z y x : W} {vz vy vx : V} (hs : SR X.K H φ S) (hz : RW X.K H φ X.mg z vz) (hy : RW X.K H φ X.mg y vy) (hx : RW X.K H φ X.mg x vx) (h : dputW S z y x = some S4) :
    ∃ a H', vz = .ref a ∧ DPut H a vy vx H' ∧ Ext φ H φ H' ∧ SR X.K H' φ S4 := by
  unfold dputW at h
  split at h
  · rename_i n y x
    obtain ⟨a, ha, rfl⟩ := hz
    split at h
    · rename_i kvs hS
      split at h
      · rename_i hz
        obtain ⟨k, h3, h4⟩ := Option.map_eq_some_iff.mp h
        subst h4
        obtain ⟨es, h1, h2⟩ := hs.dk ha hS
        have hl : es.length < sizeLine := by rw [h2.length]; exact small_le hz
        have e := Ext.wr (o := .dK (putK es k vx)) hs ha (by rw [hS]; trivial)
        refine ⟨a, _, rfl, ?_, e, hs.wr ha (by rw [hS]; trivial) (.dk' upd_same ((h2.mono e).put (RD.mono e _ _ hx)))⟩
        rw [keyP_of hy h3]
        exact DPut.k h1 hl
      · cases h
    · rename_i kvs hS
      split at h
      · rename_i ys
        split at h
        · rename_i hz
          obtain ⟨k, h3, h4⟩ := Option.map_eq_some_iff.mp h
          subst h4
          obtain ⟨es, h1, h2⟩ := hs.dt ha hS
          have hl : es.length < sizeLine := by rw [h2.length]; exact small_le hz
          have e := Ext.wr (o := .dT (putK es k vx)) hs ha (by rw [hS]; trivial)
          obtain ⟨b, us, rfl, h9, h10⟩ := hy
          exact ⟨a, _, rfl, DPut.t h1 (by rw [← keysP_of h10 h3]; exact h9) hl, e, hs.wr ha (by rw [hS]; trivial) (.dt' upd_same ((h2.mono e).put (RD.mono e _ _ hx)))⟩
        · cases h
      · cases h
    · cases h
  · cases h
theorem s_put (hu : X.A.units + 1 < cLine) (ho : SE X E o dd) (hi : SE X E i di) (hv : SE X E value dv) (hs : swapsWith value (some (.Subscript o i pos')) pos.line X.env = pure false := by rfl) : SS X E (.Assign [.Subscript o i pos'] value pos) (sPut dd di dv) := by
  refine PSw (ps_dput hu ho hi hv hs) fun D σV H q => ?_
  obtain ⟨φ, σ, S, r, hs, he, hd, hq⟩ := q
  unfold sPut at hd
  match ha : dv σ S, hd with
  | none, hd => cases hd
  | some (.xc x S1), hd => cases hd; exact ⟨φ, σ, S, .xc x S1, hs, he, ha, hq⟩
  | some (.ok x S1), hd =>
    refine ⟨φ, σ, S, .ok x S1, hs, he, ha, fun φ1 H1 v1 e1 s1 x1 => ?_⟩
    rw [bndS_ok] at hd
    match hb : dd σ S1, hd with
    | none, hd => cases hd
    | some (.xc y S2), hd => cases hd; exact ⟨φ1, σ, S1, .xc y S2, s1, he.mono e1, hb, XR.keep e1 hq⟩
    | some (.ok z S2), hd =>
      refine ⟨φ1, σ, S1, .ok z S2, s1, he.mono e1, hb, fun φ2 H2 v2 e2 s2 z2 => ?_⟩
      rw [bndS_ok] at hd
      have e12 := e1.trans e2
      match hc : di σ S2, hd with
      | none, hd => cases hd
      | some (.xc y S3), hd => cases hd; exact ⟨φ2, σ, S2, .xc y S3, s2, he.mono e12, hc, XR.keep e12 hq⟩
      | some (.ok y S3), hd =>
        refine ⟨φ2, σ, S2, .ok y S3, s2, he.mono e12, hc, fun φ3 H3 v3 e3 s3 y3 => ?_⟩
        rw [bndS_ok] at hd
        match hg : dputW S3 z y x, hd with
        | none, hd => cases hd
        | some S4, hd =>
          cases hd
          have e23 := e2.trans e3
          obtain ⟨a, H', h1, h2, h3, h4⟩ := dput_ok s3 (z2.mono e3) y3 (x1.mono e23) hg
          exact ⟨a, H', h1, h2, hq φ3 H' σV ((e1.trans e23).trans h3) h4 (he.mono ((e1.trans e23).trans h3))⟩
/-! ### new dicts -/
def dD0 (ob : O) : DE := fun _ S => some (.ok (.r S.length) (S ++ [ob]))
theorem e_dk0 : SE X E (.Dict [] [] pos) (dD0 (.dk [])) := PEw pe_dnewK fun σV H Q ⟨φ, σ, S, r, hs, he, hd, hq⟩ p hp => by
  cases hd
  refine hq (φ.push p) _ _ (Ext.push hp hs) (hs.push hp (.dk' upd_same rfl)) ⟨p, ?_, rfl⟩
  show (φ.l ++ [p])[S.length]? = some p
  rw [← hs.len]; simp
theorem e_dt0 : SE X E (.Dict [] [] pos) (dD0 (.dt [])) := PEw pe_dnewT fun σV H Q ⟨φ, σ, S, r, hs, he, hd, hq⟩ p hp => by
  cases hd
  refine hq (φ.push p) _ _ (Ext.push hp hs) (hs.push hp (.dt' upd_same rfl)) ⟨p, ?_, rfl⟩
  show (φ.l ++ [p])[S.length]? = some p
  rw [← hs.len]; simp
/-- {'k': v, ..} -/
def dPs : List (Str × DE) → En → So → M (List PyData)
  | [], _, S => some (.ok [] S)
  | (_, d) :: r, σ, S => bnd (d σ S) fun w S1 => match w with
    | .d x => bnd (dPs r σ S1) fun xs S2 => some (.ok (x :: xs) S2)
    | _ => none
def mergeD (ks : List Str) (xs : List PyData) : List (Key × PyData) := ((ks.zip xs).foldl (fun acc kv => putD acc (.inr kv.1) kv.2) [])
def isEmD : Option O → Bool
  | some (.dk []) => true
  | _ => false
def withDk (S : So) : So := S ++ [.dk []]
def dDisp (ps : List (Str × DE)) : DE := fun σ S => bnd (dPs ps σ (withDk S)) fun xs S2 => if isEmD S2[S.length]? = true then some (.ok (.r S.length) (S2.set S.length (.dk (mergeD (ps.map (·.1)) xs)))) else none
structure SPs (X : Cx) (E : XK) (pos : Pos) (keys : List (Option Expr)) (values : List Expr) (ps : List (Str × DE)) : Prop where
  run : ∃ trs, PPs X pos keys values trs ∧ keys.length = ps.length ∧ ∀ σV H φ σ S r Q, SR X.K H φ S → ER X.K H φ X.mg σV σ → dPs ps σ S = some r →
    (match r with
      | .ok xs S' => ∀ φ' H' vs, Ext φ H φ' H' → SR X.K H' φ' S' → RDs X.K H' φ' xs vs → vs.length = ps.length → Q (((ps.map (·.1)).zip vs).map fun kv => (V.str kv.1, kv.2)) H'
      | .xc x S' => ∀ φ' H', Ext φ H φ' H' → SR X.K H' φ' S' → XR X.K X.mg E x H' φ') → tPairs trs σV H Q
theorem sp_nil : SPs X E pos [] [] [] := ⟨_, pps_nil, rfl, fun σV H φ σ S r Q hs he hd hq => by cases hd; exact hq φ H [] .refl hs rfl rfl⟩
theorem sp_cons {z : Str} {j} {kp : Pos} {v : Expr} {ks : List (Option Expr)} {vs : List Expr} {dv : DE} {ps : List (Str × DE)} (hv : SE X E v dv) (hr : SPs X E pos ks vs ps) : SPs X E pos (some (.Constant (.str z) j kp) :: ks) (v :: vs) ((z, dv) :: ps) := by
  obtain ⟨trs, h1, h2, h3⟩ := hr.run
  refine ⟨_, pps_cons pe_str hv h1, by simp [h2], fun σV H φ σ S r Q hs he hd hq => ?_⟩
  unfold dPs at hd
  match ha : dv σ S, hd with
  | none, hd => cases hd
  | some (.xc x S1), hd => cases hd; exact ⟨φ, σ, S, .xc x S1, hs, he, ha, hq⟩
  | some (.ok (.r _) S1), hd => cases hd
  | some (.ok (.g _) S1), hd => cases hd
  | some (.ok (.s _) S1), hd => cases hd
  | some (.ok (.d x) S1), hd =>
    refine ⟨φ, σ, S, .ok (.d x) S1, hs, he, ha, fun φ1 H1 v1 e1 s1 x1 => ?_⟩
    rw [bnd_ok] at hd
    dsimp only at hd
    match hb : dPs ps σ S1, hd with
    | none, hd => cases hd
    | some (.xc y S2), hd => cases hd; exact h3 σV H1 φ1 σ S1 _ _ s1 (he.mono e1) hb (XR.keep e1 hq)
    | some (.ok xs S2), hd =>
      cases hd
      refine h3 σV H1 φ1 σ S1 _ _ s1 (he.mono e1) hb fun φ2 H2 vs e2 s2 r2 l2 => ?_
      exact hq φ2 H2 (v1 :: vs) (e1.trans e2) s2 ⟨v1, vs, rfl, RD.mono e2 _ _ x1, r2⟩ (by simp [l2])
theorem merge_rd {K : PySem.W.Frag} {H : Hp} {φ : Fi} : ∀ (ks : List Str) {xs : List PyData} {vs : List V} {acc : List (Key × PyData)} {es : List (Key × V)}, RDs K H φ xs vs → KR K H φ acc es →
    KR K H φ ((ks.zip xs).foldl (fun acc kv => putD acc (.inr kv.1) kv.2) acc) (mergeK es ((ks.zip vs).map fun kv => ((Sum.inr kv.1 : Key), kv.2)))
  | [], _, _, _, _, _, h => h
  | k :: ks, [], _, _, _, h, h2 => by cases h; exact h2
  | k :: ks, x :: xs, _, acc, es, ⟨v, t, e, h1, h2⟩, h3 => by
    subst e
    exact merge_rd ks h2 (h3.put (k := .inr k) h1)
theorem e_disp {keys : List (Option Expr)} {values : List Expr} {ps : List (Str × DE)} (h : SPs X E pos keys values ps) (hall : keys.all (·.isSome) = true := by rfl) (hl : keys.length = values.length := by rfl) (h0 : keys ≠ [] := by simp)
    (h15 : keys.length ≤ 15 := by decide) : SE X E (.Dict keys values pos) (dDisp ps) := by
  obtain ⟨trs, h1, h2, h3⟩ := h.run
  refine PEw (pe_disp h1 hall hl h0 h15) fun σV H Q q p hp => ?_
  obtain ⟨φ, σ, S, r, hs, he, hd, hq⟩ := q
  have e0 := Ext.push (o := .dK []) hp hs
  have s0 := hs.push (o := .dK []) (ob := .dk []) hp (.dk' upd_same rfl)
  have hpn : (φ.push p).l[S.length]? = some p := by
    show (φ.l ++ [p])[S.length]? = some p
    rw [← hs.len]; simp
  unfold dDisp at hd
  match ha : dPs ps σ (withDk S), hd with
  | none, hd => cases hd
  | some (.xc x S1), hd => cases hd; exact h3 σV _ _ σ _ _ _ s0 (he.mono e0) ha (XR.keep e0 hq)
  | some (.ok xs S2), hd =>
    refine h3 σV _ _ σ _ _ _ s0 (he.mono e0) ha fun φ2 H2 vs e2 s2 r2 l2 => ?_
    rw [bnd_ok] at hd
    split at hd
    · rename_i hem
      cases hd
      have hS : S2[S.length]? = some (.dk []) := by
        unfold isEmD at hem
        split at hem
        · assumption
        · cases hem
      have hp2 : φ2.l[S.length]? = some p := by
        obtain ⟨t, ht⟩ := e2.pre
        rw [← ht, List.getElem?_append_left (List.getElem?_eq_some_iff.mp hpn).1]; exact hpn
      obtain ⟨es, g1, g2⟩ := s2.dk hp2 hS
      have g3 : es = [] := g2
      subst g3
      refine ⟨g1, ((ps.map (·.1)).zip vs).map fun kv => (Sum.inr kv.1, kv.2), by simp [kV], ?_, ?_⟩
      · simp [l2]; omega
      · have e3 := Ext.wr (o := .dK (mergeK [] (((ps.map (·.1)).zip vs).map fun kv => ((Sum.inr kv.1 : Key), kv.2)))) s2 hp2 (by rw [hS]; trivial)
        refine hq φ2 _ _ ((e0.trans e2).trans e3) (s2.wr hp2 (by rw [hS]; trivial) (.dk' upd_same (merge_rd _ (RDs.mono e3 _ _ r2) rfl))) ⟨p, hp2, rfl⟩
    · cases hd
end
end CL
end

section
/-! part CLSort -/
set_option Elab.async false
set_option linter.all false
set_option maxRecDepth 100000
set_option maxHeartbeats 1000000
/-! CLSort: sorted, min, len of a set, update. -/
namespace CL
open PySem PySem.Spec PyProof.Rows L2

/-! ### what may be sorted -/
def likeAll (xs : List PyData) : Bool := xs.all fun x => xs.all fun y => PySem.W.alike x y
def fullTup : PyData → Bool
  | .tuple (_ :: _) => true
  | _ => false
def flatD : PyData → Bool
  | .none => false
  | .tuple _ => false
  | _ => true
def sortOk (xs : List PyData) : Bool := likeAll xs && (xs.all fullTup || xs.all flatD) && xs.all (fun x => decide (x.depth ≤ 60)) && small xs.length
theorem likeAll_of {xs : List PyData} (h : likeAll xs = true) : PySem.W.AllAlike xs := fun d hd e he => List.all_eq_true.mp (List.all_eq_true.mp h d hd) e he
theorem sortOk_of {xs : List PyData} (h : sortOk xs = true) : PySem.W.AllAlike xs ∧ PySem.W.Sortable xs ∧ (∀ d ∈ xs, d.depth ≤ 60) ∧ xs.length ≤ sizeLine := by
  unfold sortOk at h
  simp only [Bool.and_eq_true] at h
  obtain ⟨⟨⟨h1, h2⟩, h3⟩, h4⟩ := h
  refine ⟨likeAll_of h1, ?_, fun d hd => of_decide_eq_true (List.all_eq_true.mp h3 d hd), small_le h4⟩
  rcases (Bool.or_eq_true _ _ ▸ h2 : _ ∨ _) with h | h
  · exact .inl fun d hd => by
      have := List.all_eq_true.mp h d hd
      unfold fullTup at this
      split at this
      · exact ⟨_, _, rfl⟩
      · cases this
  · exact .inr fun d hd => by
      have := List.all_eq_true.mp h d hd
      unfold flatD at this
      split at this
      · cases this
      · cases this
      · rename_i a b; exact ⟨a, b⟩
def srtD (xs : List PyData) : List PyData := xs.mergeSort (PySem.W.dataLe false id)
section
variable {K : PySem.W.Frag} {H : Hp} {φ : Fi}
theorem RDs.zipMem : ∀ {ds : List PyData} {vs : List V}, RDs K H φ ds vs → ∀ p ∈ ds.zip vs, RD K H φ p.1 p.2
  | [], _, _, p, hp => by simp at hp
  | d :: ds, _, ⟨v, r, e, h, t⟩, p, hp => by
    subst e
    rcases List.mem_cons.mp hp with e | hp
    · subst e; exact h
    · exact RDs.zipMem t p hp
theorem RDs.ofMem : ∀ {l : List (PyData × V)}, (∀ p ∈ l, RD K H φ p.1 p.2) → RDs K H φ (l.map (·.1)) (l.map (·.2))
  | [], _ => rfl
  | p :: l, h => ⟨p.2, _, rfl, h p List.mem_cons_self, RDs.ofMem fun q hq => h q (List.mem_cons_of_mem _ hq)⟩
theorem RDs.zipFst {ds : List PyData} {vs : List V} (h : RDs K H φ ds vs) : (ds.zip vs).map (·.1) = ds := by
  rw [List.map_fst_zip]
  rw [h.length]; exact Nat.le_refl _
theorem srt_rd {ds : List PyData} {vs : List V} (h : RDs K H φ ds vs) : RDs K H φ (srtD ds) (((ds.zip vs).mergeSort (PySem.W.dataLe false Prod.fst)).map (·.2)) := by
  have e1 := RDs.ofMem (K := K) (H := H) (φ := φ) (l := (ds.zip vs).mergeSort (PySem.W.dataLe false Prod.fst)) fun p hp => h.zipMem p (List.mem_mergeSort.mp hp)
  have e2 : ((ds.zip vs).mergeSort (PySem.W.dataLe false Prod.fst)).map (·.1) = srtD ds := by
    unfold srtD
    rw [List.map_mergeSort (r := PySem.W.dataLe false Prod.fst) (s := PySem.W.dataLe false id) (f := fun p : PyData × V => p.1) (fun a _ b _ => rfl), h.zipFst]
  rw [e2] at e1
  exact e1
end
theorem each_of_vals : ∀ {ds : List PyData} {vs : List V} {us : List Value}, ds.length = vs.length → Vals vs us → PySem.W.EachIs (fun (u : Value) (b : PyData × V) => RelV b.2 u) us (ds.zip vs)
  | [], [], _, _, .nil => .nil
  | d :: ds, v :: vs, _, h, .cons r t => .cons r (each_of_vals (by simpa using h) t)
  | [], _ :: _, _, h, _ => by simp at h
  | _ :: _, [], _, h, _ => by simp at h
theorem vals_of_each : ∀ {bs : List (PyData × V)} {us : List Value}, PySem.W.EachIs (fun (u : Value) (b : PyData × V) => RelV b.2 u) us bs → Vals (bs.map (·.2)) us
  | [], _, .nil => .nil
  | _ :: _, _, .cons r t => .cons r (vals_of_each t)
theorem each_reads {h : Heap} : ∀ {ds : List PyData} {vs : List V} {us : List Value} {as : List Addr}, ds.length = vs.length → ReadsAll h us ds as → PySem.W.EachIs (fun u (b : PyData × V) => ∃ as, Reads h u b.1 as) us (ds.zip vs)
  | [], [], _, _, _, .nil => .nil
  | d :: ds, v :: vs, _, _, h, .cons r t => .cons ⟨_, r⟩ (each_reads (by simpa using h) t)
  | [], _ :: _, _, _, h, _ => by simp at h
  | _ :: _, [], _, _, h, _ => by simp at h
section
variable {X : Cx} {E : XK} {pos p : Pos}
theorem call_sorted (hu : X.A.units + 64 < cLine) : CallR X (.builtin "sorted") (fun xs H Q => ∃ a ds vs, xs = [.ref a] ∧ SqL X.K H a vs ∧ DpAll X.K H vs ds ∧ sortOk ds = true ∧ ds.length = vs.length ∧
    ∀ q, H q = none → Q (.ref q) (upd H q (.lst (((ds.zip vs).mergeSort (PySem.W.dataLe false Prod.fst)).map (·.2))))) := by
  intro pins s σ H xs us Q I r h
  obtain ⟨a, ds, vs, rfl, hl, hd, ok, hlen, q⟩ := h
  obtain ⟨u, rfl, rx⟩ := vals1 r
  cases rx
  obtain ⟨o1, o2, o3, o4⟩ := sortOk_of ok
  obtain ⟨its, rv, pl, hz⟩ := I.list hl
  obtain ⟨as, rs⟩ := Dp.readsAll I ds vs its hd rv
  have hm : (ds.zip vs).map Prod.fst = ds := List.map_fst_zip (by rw [hlen]; exact Nat.le_refl _)
  refine PySem.W.sorted_data (bs := ds.zip vs) (enc := Prod.fst) (R := fun u b => RelV b.2 u) pl.isList (each_of_vals hlen rv) (each_reads hlen rs) (by rw [hm]; exact o1) (by rw [hm]; exact o2) (by rw [List.length_zip, hlen, Nat.min_self, ← hlen]; exact o4)
    (fun b hb => ?_) fun out ho eo => ?_
  · have := o3 b.1 (by rw [← hm]; exact List.mem_map_of_mem hb)
    omega
  · obtain ⟨c, hc⟩ := PyProof.Rows.sortedAll_at s.heap its (List.toArray out)
    have rv2 := vals_of_each eo
    have hz2 : (((ds.zip vs).mergeSort (PySem.W.dataLe false Prod.fst)).map (·.2)).length ≤ sizeLine := by
      rw [List.length_map, List.length_mergeSort, List.length_zip, hlen, Nat.min_self]; exact hz
    have I2 := I.laid (a := s.heap.objs.size + 1) (o := .lst (((ds.zip vs).mergeSort (PySem.W.dataLe false Prod.fst)).map (·.2))) (t' := s.toks) (fun b ob e => PyProof.Rows.sortedAll_old (vs := its) (out := List.toArray out) e) (Nat.le_succ _) ⟨hz2, out, c, rv2, hc⟩
    exact ⟨.ref (s.heap.objs.size + 1), _, I2, rfl, q _ (I.hok.fresh (Nat.le_succ _))⟩
def sortG : So → List W → Option (List PyData)
  | S, [w] => (lstW S w).bind fun xs => if sortOk xs = true then some (srtD xs) else none
  | _, _ => none
theorem b_sorted (hu : X.A.units + 64 < cLine) : CallR X (.builtin "sorted") (rCN X.K X.mg sortG) :=
  callw (call_sorted hu) fun vs H Q ⟨φ, S, ws, xs, hs, hx, hg, hq⟩ => by
    unfold sortG at hg
    split at hg
    · obtain ⟨v, rfl, hv⟩ := one_of hx
      obtain ⟨ds, h1, h2⟩ := Option.bind_eq_some_iff.mp hg
      split at h2
      · rename_i ok
        cases h2
        obtain ⟨l, us, rfl, f1, r1⟩ := seqL_of hs hv (lstW_of h1)
        exact ⟨l, ds, us, rfl, f1, RDs.dp _ _ r1, ok, r1.length.symm, fun p hp => hq φ H p _ .refl hs hp (srt_rd r1)⟩
      · cases h2
    · cases hg
end
end CL
end

section
/-! part CLKeys -/
set_option Elab.async false
set_option linter.all false
set_option maxRecDepth 100000
set_option maxHeartbeats 1000000
/-! CLKeys: a dict with tuples for keys, as its keys: sorted, min, len, update. -/
namespace CL
open PySem PySem.Spec PyProof.Rows L2

def tupOf (k : List Key) : PyData := .tuple (k.map keyD)
def keysOf (kvs : List (List Key × PyData)) : List PyData := kvs.map fun p => tupOf p.1
section
variable {X : Cx} {E : XK} {pos p : Pos} {pins : List (Addr × Obj)} {σ : L2.St} {H : Hp} {s : Shared} {d : Addr}
theorem dt_at {kvs : List (List Key × V)} (I : Inv X pins σ H s) (h : H d = some (.dT kvs)) : (d == sysModules) = false ∧ kvs.length ≤ sizeLine ∧ ∃ (o : Obj) (es : Array DictEntry) (ep : Nat) (bs : List Addr), s.heap.get? d = some o ∧ o.ExactDict ∧ o.data = .dict es ep ∧
    es.size = bs.length ∧ bs.length = kvs.length ∧ (∀ (j : Nat) (en : DictEntry), es[j]? = some en → ∃ b, bs[j]? = some b ∧ en.key = .ref b) ∧ IsKeys H kvs bs := by
  obtain ⟨z, hs, xs, pr, o, es, ep, ho, hx, hdt, he, _⟩ := (show ObjOk X.prog X.w H s.heap d (.dT kvs) from I.hok d _ h)
  have l1 : es.size = xs.length := size_of_entries he
  have l2 : kvs.length = xs.length := Paired.length pr
  refine ⟨hs, z, o, es, ep, xs.map fun x => x.2.1, ho, hx, hdt, by rw [List.length_map, l1], by rw [List.length_map, l2], fun j en hj => ?_, isKeys_of pr⟩
  have q := entry_at he j
  rw [hj] at q
  cases hb : xs[j]? with
  | none => rw [hb] at q; cases q
  | some b =>
    rw [hb] at q
    have e2 : en = entryOfKey (tupleKind (mixKind X.prog X.w)) b := Option.some.inj q
    exact ⟨b.2.1, by rw [List.getElem?_map, hb]; rfl, by rw [e2]; rfl⟩
theorem keys_rd {K : PySem.W.Frag} {φ : Fi} : ∀ {kvs : List (List Key × V)} {bs : List Addr}, IsKeys H kvs bs → RDs K H φ (kvs.map fun p => tupOf p.1) (bs.map V.ref) := by
  intro kvs bs h
  unfold IsKeys at h
  induction h with
  | nil => rfl
  | @cons p b ps bs h t ih => exact ⟨.ref b, _, rfl, ⟨b, p.1.map kV, rfl, h, keysD_rd p.1⟩, ih⟩
theorem key_reads : ∀ {ks : List Key} {us : List Value} {h : Heap}, Vals (ks.map kV) us → ReadsAll h us (ks.map keyD) []
  | [], _, _, .nil => .nil
  | .inl i :: ks, _, h, .cons r t => by
    obtain ⟨tk, e⟩ := r
    subst e
    exact .cons (as := []) (bs := []) (.int i tk) (key_reads t)
  | .inr x :: ks, _, h, .cons r t => by
    obtain ⟨tk, e⟩ := r
    subst e
    exact .cons (as := []) (bs := []) (.str x tk) (key_reads t)
theorem keys_reads (I : Inv X pins σ H s) : ∀ {kvs : List (List Key × V)} {bs : List Addr}, IsKeys H kvs bs → ReadsAll s.heap (bs.map Value.ref) (kvs.map fun p => tupOf p.1) [] := by
  intro kvs bs h
  unfold IsKeys at h
  induction h with
  | nil => exact .nil
  | @cons p b ps bs h t ih =>
    obtain ⟨_, its, rv, o, h1, h2, n, h3⟩ := (show ObjOk X.prog X.w H s.heap b (.tup (p.1.map kV)) from I.hok b _ h)
    exact .cons (as := []) (bs := []) (.tuple h1 h2 h3 (by simpa using key_reads rv)) ih
theorem keep_reads {h h' : Heap} {ds : List PyData} {us : List Value} {as : List Addr} (k : ∀ b o, h.get? b = some o → h'.get? b = some o) (r : ReadsAll h us ds as) : ReadsAll h' us ds as := PyProof.Rows.ReadsAll.keeps k r
theorem each_reads0 {h : Heap} {L : Addr} : ∀ {ds : List PyData} {vs : List V} {us : List Value}, ds.length = vs.length → ReadsAll h us ds [] → PySem.W.EachIs (fun u (b : PyData × V) => ∃ as, Reads h u b.1 as ∧ L ∉ as) us (ds.zip vs) := by
  intro ds
  induction ds with
  | nil =>
    intro vs us hl r
    cases r
    cases vs with
    | nil => exact .nil
    | cons v vs => simp at hl
  | cons d ds ih =>
    intro vs us hl r
    cases vs with
    | nil => simp at hl
    | cons v vs =>
      generalize ha : ([] : List Addr) = as at r
      cases r with
      | @cons _ _ _ _ a1 a2 r1 r2 =>
        obtain ⟨e1, e2⟩ := List.append_eq_nil_iff.mp ha.symm
        subst e1; subst e2
        exact .cons ⟨[], r1, by simp⟩ (ih (by simpa using hl) r2)
/-- sorted(d) -/
theorem call_sortedDT (hc : X.calm = true) (hu : X.A.units + 64 < cLine) : CallR X (.builtin "sorted") (fun xs H Q => ∃ d kvs, xs = [.ref d] ∧ H d = some (.dT kvs) ∧ sortOk (kvs.map fun p => tupOf p.1) = true ∧
    ∀ q bs, H q = none → IsKeys H kvs bs → Q (.ref q) (upd H q (.lst ((((kvs.map fun p => tupOf p.1).zip (bs.map V.ref)).mergeSort (PySem.W.dataLe false Prod.fst)).map (·.2))))) := by
  intro pins s σ H xs us Q I r h
  obtain ⟨d, kvs, rfl, hd, ok, q⟩ := h
  obtain ⟨u, rfl, rx⟩ := vals1 r
  cases rx
  obtain ⟨hs, hz, o, es, ep, bs, ho, hx, hdt, l1, l2, ent, ik⟩ := dt_at I hd
  obtain ⟨o1, o2, o3, o4⟩ := sortOk_of ok
  refine Calls.call_function_entry PyProof.Rows.kind_sorted PyProof.Rows.plain_sorted PyProof.Rows.entry_sorted (PyProof.Rows.args_sorted1 _) ?_
  unfold Builtin.«sorted»
  refine wpAny_bind (m := checkCount "sorted" 1 1 _) (wpAny_pure (wpAny_bind (PySem.W.kdu_collect (A := X.A.in1) (kdl_raw hs hx hdt) (I.ok.hd hc) ho (by rw [l1, l2]; exact hz) fun h2 tk acc hk hacc => ?_)))
  have ea : acc.toList = bs.map Value.ref := by
    have hl : acc.toList.length = bs.length := by rw [Array.length_toList, hacc.1, l1]
    refine List.ext_getElem? fun j => ?_
    rw [List.getElem?_map]
    cases hj : acc.toList[j]? with
    | none => rw [List.getElem?_eq_none (by rw [← hl]; exact List.getElem?_eq_none_iff.mp hj)]; rfl
    | some v =>
      obtain ⟨en, h1, h2⟩ := hacc.2 j v (by rw [← Array.getElem?_toList]; exact hj)
      obtain ⟨b, h3, h4⟩ := ent j en h1
      rw [h3, h2, h4]; rfl
  have I1 : Inv X pins σ H { s with heap := h2, toks := tk } := I.kept hk
  have zl : (bs.map Value.ref).length ≤ sizeLine := by rw [List.length_map, l2]; exact hz
  rw [ea]
  refine wpAny_bind (wpAny_newList ?_ zl)
  have hoL : (h2.push (seqObj "list" (bs.map Value.ref).toArray 0)).get? h2.objs.size = some (seqObj "list" (bs.map Value.ref).toArray 0) := Heap.get?_push_size _ rfl
  show wpAny _ _ _ _ _ { s with heap := h2.push (seqObj "list" (bs.map Value.ref).toArray 0), toks := tk }
  have len : (kvs.map fun p => tupOf p.1).length = (bs.map V.ref).length := by rw [List.length_map, List.length_map, l2]
  have fs : ((kvs.map fun p => tupOf p.1).zip (bs.map V.ref)).map Prod.fst = kvs.map fun p => tupOf p.1 := List.map_fst_zip (by rw [len]; exact Nat.le_refl _)
  have rds := keep_reads (fun b o e => Heap.get?_push_of_some (seqObj "list" (bs.map Value.ref).toArray 0) e) (keys_reads I1 ik)
  refine wpAny_bind (wpAny_holding (PySem.W.list_sort_data (A := X.A.in1) (s := { s with heap := h2.push (seqObj "list" (bs.map Value.ref).toArray 0), toks := tk }) (bs := (kvs.map fun p => tupOf p.1).zip (bs.map V.ref)) (enc := Prod.fst) (R := fun u b => RelV b.2 u)
    hoL (each_of_vals len (vals_refs bs)) (each_reads0 len rds) (by rw [fs]; exact o1) (by rw [fs]; exact o2) (by rw [List.length_zip, len, Nat.min_self, List.length_map, l2]; exact hz) (fun b hb => ?_) fun out hlo eo => ?_))
  · have h1 := o3 b.1 (by rw [← fs]; exact List.mem_map_of_mem hb)
    show X.A.units + 1 + 1 + _ < _
    omega
  · obtain ⟨e', he'⟩ := PyProof.Rows.sortedHeap_at (vs := bs.map Value.ref) (out := List.toArray out) hoL
    have rv := vals_of_each eo
    have hz2 : ((((kvs.map fun p => tupOf p.1).zip (bs.map V.ref)).mergeSort (PySem.W.dataLe false Prod.fst)).map (·.2)).length ≤ sizeLine := by
      rw [List.length_map, List.length_mergeSort, List.length_zip, len, Nat.min_self, List.length_map, l2]; exact hz
    refine wpAny_pure ⟨_, rfl, .ref h2.objs.size, _, I1.laid (t' := tk) (o := .lst ((((kvs.map fun p => tupOf p.1).zip (bs.map V.ref)).mergeSort (PySem.W.dataLe false Prod.fst)).map (·.2))) (fun b u e => ?_) (Nat.le_refl _) ⟨hz2, out, e', rv, he'⟩, rfl, q _ bs (I1.hok.fresh (Nat.le_refl _)) ik⟩
    have hb : b < h2.objs.size := Heap.lt_size e
    rw [PyProof.Rows.sortedHeap_old (Nat.ne_of_lt hb) (by rw [size_push']; exact Nat.lt_succ_of_lt hb)]
    exact Heap.get?_push_of_some _ e
/-- min(d) -/
theorem call_minDT (hc : X.calm = true) (hu : X.A.units + 64 < cLine) : CallR X (.builtin "min") (fun xs H Q => ∃ d kvs x r, xs = [.ref d] ∧ H d = some (.dT kvs) ∧ (kvs.map fun p => tupOf p.1) = x :: r ∧ likeAll (x :: r) = true ∧ PyData.depthAll (x :: r) ≤ 60 ∧
    ∀ (b : Addr) (k : List Key), H b = some (.tup (k.map kV)) → tupOf k = PySem.W.minD x r → Q (.ref b) H) := by
  intro pins s σ H xs us Q I r0 h
  obtain ⟨d, kvs, x, r, rfl, hd, hxr, lk, dp, q⟩ := h
  obtain ⟨u, rfl, rx⟩ := vals1 r0
  cases rx
  obtain ⟨hs, hz, o, es, ep, bs, ho, hx, hdt, l1, l2, ent, ik⟩ := dt_at I hd
  have rds := keys_reads I ik
  rw [hxr] at rds
  have al : PySem.W.AlikeAll (x :: r) := ⟨likeAll_of lk, fun y hy e => by
    rw [← hxr] at hy
    obtain ⟨p, _, hp⟩ := List.mem_map.mp hy
    rw [e] at hp; unfold tupOf at hp; cases hp⟩
  have nlen : es.size = r.length + 1 := by rw [l1, l2]; have := congrArg List.length hxr; simpa using this
  have itemAt : ∀ (i : Nat) (v : Value), (∃ en : DictEntry, es[i]? = some en ∧ v = en.key) → ((bs.map Value.ref).toArray)[i]? = some v := fun i v ⟨en, h1, h2⟩ => by
    obtain ⟨b, h3, h4⟩ := ent i en h1
    simp [h3, h2, h4]
  refine PySem.call_min_walkH (iter_keys hs ho hx hdt ?_)
  have hlt : d < s.heap.objs.size := Heap.lt_size ho
  refine ⟨s.heap.objs.size, [s.heap.objs.size, d], [s.heap.objs.size], _, es.size, _, _, s.heap, fun i j => PySem.W.dataLt ((x :: r).getD i .none) ((x :: r).getD j .none), rfl, (walks_raw (A := X.A.in1) (I.ok.hd hc) s.heap.objs.size d (Nat.ne_of_lt hlt) hdt).toS,
    ⟨⟨_, Heap.get?_push_size _ rfl, rfl, rfl⟩, Heap.get?_push_of_some _ ho⟩, fun b hb => ?_, by omega, fun b ob e hb => ?_, fun b ob e => Heap.get?_push_of_some _ e, fun i j vi vj s' Q' E' hk hi hj hq => ?_, fun v s' hP m => ?_⟩
  · show b < (s.heap.push _).objs.size
    rw [size_push']
    rcases List.mem_cons.mp hb with e | hb
    · rw [e]; exact Nat.lt_succ_self _
    · rw [List.mem_singleton.mp hb]; exact Nat.lt_succ_of_lt hlt
  · exact absurd (Heap.lt_size e) ((List.mem_singleton.mp hb) ▸ Nat.lt_irrefl _)
  · exact PySem.W.cmpIn_lt (vs := (bs.map Value.ref).toArray) (s := s) (A := X.A.in1) (by simpa using rds) al (by show X.A.units + 1 + _ < _; omega) i j vi vj s' Q' E' hk (itemAt _ _ hi) (itemAt _ _ hj) hq
  · obtain ⟨h', tk, rfl, hk'⟩ := PySem.W.moved_old rfl rfl m
    obtain ⟨en, h1, h2⟩ := hP
    obtain ⟨b, h3, h4⟩ := ent _ en h1
    have e1 : es.size - 1 = r.length := by omega
    have e2 := (PySem.W.argBest_fold PySem.W.dataLt PyData.none x r r.length (Nat.le_refl _)).2
    rw [List.take_length] at e2
    rw [e1] at h3
    have ib := ik
    unfold IsKeys at ib
    obtain ⟨pk, h5, h6⟩ : ∃ pk, kvs[argBest (fun i j => PySem.W.dataLt ((x :: r).getD i PyData.none) ((x :: r).getD j PyData.none)) r.length]? = some pk ∧ H b = some (.tup (pk.1.map kV)) := by
      have hlt2 := (List.getElem?_eq_some_iff.mp h3).1
      rw [l2] at hlt2
      obtain ⟨b2, g1, g2⟩ := paired_get ib (List.getElem?_eq_getElem hlt2)
      rw [h3] at g1; cases g1
      exact ⟨_, List.getElem?_eq_getElem hlt2, g2⟩
    refine ⟨.ref b, H, I.kept hk', by rw [h2, h4]; rfl, q b pk.1 h6 ?_⟩
    unfold PySem.W.minD
    rw [← e2]
    have h7 : (kvs.map fun p => tupOf p.1)[argBest (fun i j => PySem.W.dataLt ((x :: r).getD i PyData.none) ((x :: r).getD j PyData.none)) r.length]? = some (tupOf pk.1) := by rw [List.getElem?_map, h5]; rfl
    rw [hxr] at h7
    rw [List.getD_eq_getElem?_getD, h7]; rfl
end
end CL
end

section
/-! part CLUpd -/
set_option Elab.async false
set_option linter.all false
set_option maxRecDepth 100000
set_option maxHeartbeats 1000000
/-! CLUpd: d.update(pairs), keys tuples. -/
namespace CL
open PySem PySem.Spec PyProof.Rows L2

/-- a pair of the list: its tuple, its key's tuple, the key, the value -/
structure Pr where
  t : Addr
  b : Addr
  k : List Key
  v : V
def PrOk (H : Hp) (q : Pr) : Prop := H q.t = some (.tup [.ref q.b, q.v]) ∧ H q.b = some (.tup (q.k.map kV))
def mergeT (kvs : List (List Key × V)) (ps : List Pr) : List (List Key × V) := ps.foldl (fun acc q => putK acc q.k q.v) kvs
section
variable {X : Cx} {E : XK} {pos p : Pos} {pins : List (Addr × Obj)} {σ : L2.St} {H : Hp} {s : Shared} {d : Addr}
def PrV (h : Heap) (q : Pr) (e : List Key × Addr × Value) : Prop := e.1 = q.k ∧ e.2.1 = q.b ∧ RelV q.v e.2.2 ∧ h.IsTuple q.t #[.ref q.b, e.2.2]
theorem prs_vals (I : Inv X pins σ H s) : ∀ ps : List Pr, (∀ q ∈ ps, PrOk H q) → ∃ es, Paired (PrV s.heap) ps es
  | [], _ => ⟨[], .nil⟩
  | q :: ps, h => by
    obtain ⟨es, h1⟩ := prs_vals I ps fun r hr => h r (List.mem_cons_of_mem _ hr)
    obtain ⟨_, its, rv, o, g1, g2, n, g3⟩ := (show ObjOk X.prog X.w H s.heap q.t (.tup [.ref q.b, q.v]) from I.hok q.t _ (h q List.mem_cons_self).1)
    obtain ⟨u1, u2, e1, r1, r2⟩ := rv.two
    cases r1
    subst e1
    exact ⟨(q.k, q.b, u2) :: es, .cons ⟨rfl, rfl, r2, o, g1, g2, n, g3⟩ h1⟩
theorem KT.upd {H : Hp} : ∀ {ps : List Pr} {es : List (List Key × Addr × Value)} {kvs : List (List Key × V)} {xs : List (List Key × Addr × Value)} {h : Heap}, (∀ q ∈ ps, PrOk H q) → Paired (PrV h) ps es → KT H kvs xs → KT H (mergeT kvs ps) (storedAllH xs es)
  | [], _, _, _, _, _, .nil, r => r
  | q :: ps, e :: es, kvs, xs, h, hp, .cons h1 t, r => by
    have h2 := (hp q List.mem_cons_self).2
    have r2 : KT H (putK kvs q.k q.v) (storedH xs e.1 e.2.1 e.2.2) := by
      rw [h1.1, h1.2.1]
      exact r.put q.k h2 h1.2.2.1
    show KT H (mergeT (putK kvs q.k q.v) ps) (storedAllH (storedH xs e.1 e.2.1 e.2.2) es)
    exact KT.upd (fun z hz => hp z (List.mem_cons_of_mem _ hz)) t r2
theorem mergeT_len : ∀ (ps : List Pr) (kvs : List (List Key × V)), (mergeT kvs ps).length ≤ kvs.length + ps.length
  | [], kvs => Nat.le_refl _
  | q :: ps, kvs => by
    have h1 := mergeT_len ps (putK kvs q.k q.v)
    have h2 := length_putK kvs q.k q.v
    show (mergeT (putK kvs q.k q.v) ps).length ≤ _
    rw [List.length_cons]; omega
theorem ks_of {P : Program} {w : World} {H : Hp} {h : Heap} (ok : HOk P w H h) : ∀ {kvs : List (List Key × V)} {xs : List (List Key × Addr × Value)}, KT H kvs xs → ∀ x ∈ xs, (tupleKind (mixKind P w)).is h x.1 x.2.1 := by
  intro kvs xs r
  induction r with
  | nil => intro x hx; cases hx
  | @cons p q ps qs hq t ih =>
    intro x hx
    rcases List.mem_cons.mp hx with e | hx
    · subst e; exact key_of ok (by rw [← hq.1]; exact hq.2.1)
    · exact ih x hx
def rUpd : V → List V → Hp → VK → Prop := fun x vs H Q => ∃ d kvs a ps, x = .ref d ∧ vs = [.ref a] ∧ H d = some (.dT kvs) ∧ Rd H a (.lst (ps.map fun q : Pr => V.ref q.t)) ∧ (∀ q ∈ ps, PrOk H q) ∧ kvs.length + ps.length ≤ sizeLine ∧ Q .non (upd H d (.dT (mergeT kvs ps)))
theorem mt_update (hc : X.calm = true) (hu : X.A.units + 64 < cLine) : MtR X "dict.update" rUpd := by
  intro pins s σ H x xs v us Q I rx rs h
  obtain ⟨d, kvs, a, ps, rfl, rfl, hd, ha, hp, hz, q⟩ := h
  cases rx
  obtain ⟨u, rfl, ra⟩ := rs.one
  cases ra
  obtain ⟨es, pv⟩ := prs_vals I ps hp
  obtain ⟨_, its, n, rv, ea⟩ := ha.ok I.hok
  obtain ⟨z, hs, xs, kt, dd⟩ := dt_of I.hok hd
  have el : ps.length = es.length := Paired.length pv
  have iv : its = ps.map fun q => Value.ref q.t := by
    have := refs_at (ps := ps.map fun q : Pr => q.t) (us := its) (by rw [List.map_map]; exact rv)
    rw [this, List.map_map]; rfl
  let psV : List (Value × Value) := es.map fun e => (Value.ref e.2.1, e.2.2)
  let Ts : Nat → Addr := fun j => (ps.map fun q => q.t).getD j 0
  have atj : ∀ (j : Nat) (e : List Key × Addr × Value), es[j]? = some e → ∃ q, ps[j]? = some q ∧ PrV s.heap q e := fun j e he => by
    have hlt := (List.getElem?_eq_some_iff.mp he).1
    obtain ⟨e2, g1, g2⟩ := paired_get pv (List.getElem?_eq_getElem (l := ps) (i := j) (by omega))
    rw [he] at g1; cases g1
    exact ⟨_, List.getElem?_eq_getElem _, g2⟩
  have ok : PlainSeq "list" s.heap a its.toArray ∧ PairItems s.heap its.toArray Ts psV := by
    refine ⟨⟨_, n, ea, rfl, rfl, rfl⟩, by simp [psV, iv, el], fun j k v hj => ?_⟩
    simp only [psV, List.getElem?_map] at hj
    obtain ⟨e, he, e2⟩ := Option.map_eq_some_iff.mp hj
    cases e2
    obtain ⟨q, hq, g⟩ := atj j e he
    have ht : Ts j = q.t := by simp [Ts, hq]
    refine ⟨?_, .inl ?_⟩
    · simp [iv, hq, ht]
    · rw [ht, g.2.1]; exact g.2.2.2
  have dobj : ∃ o es ep, s.heap.get? d = some o ∧ o.data = .dict es ep := let ⟨o, e0, ep, h1, _, h3, _⟩ := dd; ⟨o, e0, ep, h1, h3⟩
  have ksx := ks_of I.hok kt
  have kse : ∀ x ∈ es, (tupleKind (mixKind X.prog X.w)).is s.heap x.1 x.2.1 := fun x hx => by
    obtain ⟨j, hj, e⟩ := List.getElem_of_mem hx
    obtain ⟨q, hq, g⟩ := atj j x (by rw [List.getElem?_eq_getElem hj, e])
    rw [g.1, g.2.1]
    exact key_of I.hok (hp q (List.mem_of_getElem? hq)).2
  refine call_update_pairsH (knd := tupleKind (mixKind X.prog X.w)) (acc := xs) (ps := es) (PairArg.list a its.toArray Ts psV) (I.ok.hd hc) (show X.A.units + 1 < cLine by omega) ok ?_ ?_ ?_ dd (by
      have l1 : kvs.length = xs.length := Paired.length kt
      have l2 : psV.length = es.length := by simp [psV]
      omega) fun h2 tk hd2 hk => ?_
  · intro hm
    have bad : ∀ {b : Addr} {ob : HO}, H b = some ob → (∀ kv, ob ≠ .dT kv) → d ≠ b := fun {b ob} hb hn e => by
      subst e; rw [hd] at hb; exact hn _ (Option.some.inj hb).symm
    rcases List.mem_cons.mp hm with e | hm
    · rcases ha with ha | ⟨o, ha⟩
      · exact bad ha (fun _ => by simp) e
      · exact bad ha (fun _ => by simp) e
    · obtain ⟨j, hj, e⟩ := List.mem_map.mp hm
      have hj := List.mem_range.mp hj
      have hj2 : j < ps.length := by simp [psV] at hj; omega
      have ht : Ts j = ps[j].t := by simp [Ts, hj2]
      exact bad (hp ps[j] (List.getElem_mem hj2)).1 (fun _ => by simp) (by rw [← ht]; exact e.symm)
  · refine ⟨by simp [psV], fun i key v hr => ?_⟩
    have hr : psV[i]? = some (key, v) := hr
    simp only [psV, List.getElem?_map] at hr
    obtain ⟨e, he, e2⟩ := Option.map_eq_some_iff.mp hr
    cases e2
    exact ⟨e.1, e.2.1, he, rfl⟩
  · intro h2 hk x hx
    rcases List.mem_append.mp hx with hx | hx
    · exact HeapKind.Stays.but tupleKind_stays dobj h2 (fun b o n1 n2 e => hk b o n1 n2 e) _ _ (ksx x hx)
    · exact HeapKind.Stays.but tupleKind_stays dobj h2 (fun b o n1 n2 e => hk b o n1 n2 e) _ _ (kse x hx)
  · obtain ⟨o2, es2, ep2, w1, w2, w3, w4, _, w5⟩ := hd2
    have hlen : (mergeT kvs ps).length ≤ sizeLine := Nat.le_trans (mergeT_len ps kvs) hz
    have new : ObjOk X.prog X.w (upd H d (.dT (mergeT kvs ps))) h2 d (.dT (mergeT kvs ps)) := by
      refine ⟨hlen, hs, storedAllH xs es, (KT.upd hp pv kt).keeps fun b ys e => ?_, o2, es2, ep2, w1, w2, w3, w4, w5⟩
      rw [upd_ne]; exact e
      intro e2; subst e2; rw [hd] at e; cases e
    have I2 : Inv X pins σ (upd H d (.dT (mergeT kvs ps))) { s with heap := h2, toks := tk } := by
      refine I.write (x := d) (e := d) (by rw [hd]; exact trivial) (.inl rfl) (fun b u hb hu => hk b u hb (fun z => nomatch z) hu) ⟨_, w1⟩ new
    exact ⟨.non, _, I2, rfl, q⟩
end
end CL
end

section
/-! part CLMisc -/
set_option Elab.async false
set_option linter.all false
set_option maxRecDepth 100000
set_option maxHeartbeats 1000000
/-! CLMisc: isinstance, repr, str, methods, what is walked, dicts as their keys. -/
namespace CL
open PySem PySem.Spec PyProof.Rows L2

section
variable {X : Cx} {E : XK} {pos p p2 p3 : Pos} {a b : Expr} {da db : DE}
/-! ### isinstance(x, T) -/
def dIsi (T : String) (d : DE) : DE := fun σ S => bnd (d σ S) fun w S1 => giv ((rd S1 w).bind fun x => (isiP T x).map W.d) S1
theorem tyx_list {K : PySem.W.Frag} {H : Hp} {l : Addr} {vs : List V} (h : SqL K H l vs) : TyX K H (.ref l) (.type "list") := by
  rcases h with h | ⟨o, its, n, h, hc, _⟩
  · rcases h with h | ⟨o, h⟩
    · exact .base (.lst h)
    · exact .base (.frz h)
  · exact .kList h hc
theorem e_isi {T : String} {tn : Str} (hm : X.mg "isinstance" = none) (hmt : X.mg tn = none) (ha : SE X E a da) (hT : tyOk T = true := by decide) (hv : bootBuiltins tn = some (.type T) := by decide +kernel) (hg : Gl X "isinstance" := by rfl) (hgt : Gl X tn := by rfl)
    (hs1 : starEach [a, .Name tn p2] X.env = (false, eval a X.env) :: starEach [.Name tn p2] X.env := by rfl) (hs2 : starEach [.Name tn p2] X.env = (false, eval (.Name tn p2) X.env) :: starEach [] X.env := by rfl) (hpl : (backTo pos (starEach [.Name tn p2] X.env)).any (·.1) = false := by rfl)
    (hn : tn ≠ "__name__" := by decide) (hd : (tn == ("__debug__" : Str)) = false := by decide) :
    SE X E (.Call (.Name "isinstance" p) [a, .Name tn p2] [] pos) (dIsi T da) := by
  refine PEw (pe_callB (id := "isinstance") call_isi hg hm (by decide +kernel) (pa_cons ha (pa_cons (pe_bltn (v := .ty T) hgt hmt hv rfl hn hd) pa_nil hs2) hs1) (by decide) (by decide) hs1 hpl) fun σV H Q q => ?_
  obtain ⟨φ, σ, S, r', hs, he, hd, hq⟩ := q
  unfold dIsi at hd
  match ha : da σ S, hd with
  | none, hd => cases hd
  | some (.xc x S1), hd => cases hd; exact ⟨φ, σ, S, .xc x S1, hs, he, ha, hq⟩
  | some (.ok w S1), hd =>
    refine ⟨φ, σ, S, .ok w S1, hs, he, ha, fun φ1 H1 v1 e1 s1 x1 => ?_⟩
    rw [bnd_ok] at hd
    match hw : (rd S1 w).bind fun x => (isiP T x).map W.d, hd with
    | none, hd => cases hd
    | some u, hd =>
      cases hd
      obtain ⟨x, h1, h2⟩ := Option.bind_eq_some_iff.mp hw
      obtain ⟨c, h3, h4⟩ := Option.map_eq_some_iff.mp h2
      subst h4
      suffices ∃ t bb, TyX X.K H1 v1 t ∧ PySem.W.kitOne X.K t (.type T) = some bb ∧ c = .bool bb by
        obtain ⟨t, bb, k1, k2, rfl⟩ := this
        exact ⟨v1, .ty T, t, .type T, bb, rfl, .ty T, k1, k2, hq φ1 H1 _ e1 s1 rfl⟩
      cases x with
      | none =>
        cases h3
        have := rd_eq h1 (by simp)
        subst this
        cases x1
        exact ⟨_, _, .base .non, kit_ty (kit_none T hT), rfl⟩
      | bool k =>
        cases h3
        rw [bl_of x1 h1]
        exact ⟨_, _, .base (.bl k), kit_ty (kit_bool T hT), rfl⟩
      | int k =>
        cases h3
        rw [int_of x1 h1]
        exact ⟨_, _, .base (.int k), kit_ty (kit_int T hT), rfl⟩
      | str k =>
        cases h3
        rw [str_of x1 h1]
        exact ⟨_, _, .base (.str k), kit_ty (kit_str T hT), rfl⟩
      | list k =>
        cases h3
        obtain ⟨l, vs, rfl, f1, r1⟩ := seqL_of s1 x1 h1
        exact ⟨_, _, tyx_list f1, kit_ty (kit_list T hT), rfl⟩
      | tuple k =>
        cases h3
        obtain ⟨l, vs, rfl, f1, r1⟩ := tup_of x1 h1
        exact ⟨_, _, .base (.tup f1), kit_ty (kit_tuple T hT), rfl⟩
      | dict k => cases h3
/-! ### repr, str -/
def reprOk (x : PyData) : Bool := x.showable && !x.hasDict && decide (x.shown.length ≤ 16777216) && decide (x.depth ≤ 60)
def reprP (x : PyData) : Option PyData := if reprOk x = true then some (.str x.shown) else none
theorem call_repr (hgd : X.A.guards = some []) (hu : X.A.units + 64 < cLine) : CallR X (.builtin "repr") (fun vs H Q => ∃ v x, vs = [v] ∧ Dp X.K H v x ∧ reprOk x = true ∧ Q (.str x.shown) H) := by
  intro pins s σ H xs us Q I r h
  obtain ⟨v, x, rfl, hd, ok, q⟩ := h
  obtain ⟨u, rfl, rx⟩ := vals1 r
  unfold reprOk at ok
  simp only [Bool.and_eq_true, decide_eq_true_eq, Bool.not_eq_true'] at ok
  obtain ⟨⟨⟨k1, k2⟩, k3⟩, k4⟩ := ok
  have hz : x.shown.length ≤ sizeLine := by rw [sizeLine_eq]; exact k3
  have big : ∀ {c : Addr}, u = .ref c → wpAny (model X.prog X.w) X.A (call (.builtin "repr") [u]) (EP X pins σ Q) X.xe s := fun {c} e => by
    obtain ⟨as, rs⟩ := Dp.reads I x v u hd rx
    subst e
    exact PySem.repr_of_reads' rs k1 (PyData.noDict_hsm k2) hgd (by omega) (fun _ _ e => e) (fun h2 t tk hk => ⟨.str x.shown, H, I.kept (t' := tk) hk, ⟨t, rfl⟩, q⟩) hz
  cases x with
  | none =>
    cases hd
    cases rx
    exact PySem.P.repr_of_none ⟨.str _, H, I.tok _, ⟨s.toks, by simp only [PyData.shown]⟩, q⟩
  | bool k =>
    cases hd
    cases rx
    exact PySem.P.repr_of_bool ⟨.str _, H, I.tok _, ⟨s.toks, by simp only [PyData.shown]⟩, q⟩
  | int k =>
    cases hd
    obtain ⟨t, rfl⟩ := rx
    exact PySem.P.repr_of_int (by simpa [PyData.showable] using k1) ⟨.str _, H, I.tok _, ⟨s.toks, by simp only [PyData.shown]⟩, q⟩
  | str k =>
    cases hd
    obtain ⟨t, rfl⟩ := rx
    exact PySem.P.repr_of_str (by simp only [PyData.shown] at q ⊢; exact ⟨.str _, H, I.tok _, ⟨_, rfl⟩, q⟩) (by simpa [PyData.shown] using hz)
  | list k => cases hd with | lst _ _ => exact big rx
  | tuple k => cases hd with | tup _ _ => exact big rx
  | dict k => cases hd
theorem b_repr (hgd : X.A.guards = some []) (hu : X.A.units + 64 < cLine) : CallR X (.builtin "repr") (rC X.K X.mg (c1 reprP)) :=
  callw (call_repr hgd hu) fun vs H Q ⟨φ, S, ws, w, hs, hx, hg, hq⟩ => by
    obtain ⟨u, x, c, rfl, h1, h2, rfl⟩ := c1_of hg
    obtain ⟨v, rfl, hv⟩ := one_of hx
    unfold reprP at h2
    split at h2
    · rename_i ok
      cases h2
      exact ⟨v, x, rfl, dp_of hs hv h1, ok, hq φ H _ .refl hs rfl⟩
    · cases h2
def strP : PyData → Option PyData
  | .int i => if i.natAbs.log2 < 1920 then some (.str (toString i)) else none
  | .bool b => some (.str (if b = true then "True" else "False"))
  | .str x => some (.str x)
  | _ => none
theorem call_strB : CallR X (.type "str") (fun vs H Q => ∃ b, vs = [.bl b] ∧ Q (.str (if b = true then "True" else "False")) H) := by
  intro pins s σ H xs us Q I r h
  obtain ⟨b, rfl, q⟩ := h
  obtain ⟨u, rfl, rx⟩ := vals1 r
  cases rx
  exact PySem.P.str_of_bool ⟨.str _, H, I.tok _, ⟨_, rfl⟩, q⟩
theorem b_str : CallR X (.type "str") (rC X.K X.mg (c1 strP)) :=
  callw (call_str_int.or (call_strB.or SkE.call_str_str)) fun vs H Q ⟨φ, S, ws, w, hs, hx, hg, hq⟩ => by
    obtain ⟨u, x, c, rfl, h1, h2, rfl⟩ := c1_of hg
    obtain ⟨v, rfl, hv⟩ := one_of hx
    unfold strP at h2
    split at h2
    · split at h2
      · rename_i ok
        cases h2
        exact .inl ⟨_, by rw [int_of hv h1], ok, hq φ H _ .refl hs rfl⟩
      · cases h2
    · cases h2
      exact .inr (.inl ⟨_, by rw [bl_of hv h1], hq φ H _ .refl hs rfl⟩)
    · cases h2
      exact .inr (.inr ⟨_, by rw [str_of hv h1], hq φ H _ .refl hs rfl⟩)
    · cases h2
/-! ### methods -/
def tyM (T : String) (S : So) : W → Bool
  | .r n => match S[n]? with
    | some (.lst _) => T == "list"
    | some (.dk _) => T == "dict"
    | some (.dt _) => T == "dict"
    | _ => false
  | .d (.str _) => T == "str"
  | .d (.list _) => T == "list"
  | _ => false
theorem tyM_of {K : PySem.W.Frag} {mg : Str → Option Value} {H : Hp} {φ : Fi} {S : So} {T : String} {w : W} {v : V} (hs : SR K H φ S) (hx : RW K H φ mg w v) (h : tyM T S w = true) : tyV K T v H := by
  unfold tyM at h
  split at h
  · rename_i n
    obtain ⟨c, ha, rfl⟩ := hx
    split at h
    · rename_i xs hS
      have e := eq_of_beq h
      subst e
      obtain ⟨vs, q1, q2⟩ := hs.ob n c _ ha hS
      exact .inl ⟨rfl, vs, .of q1⟩
    · rename_i xs hS
      have e := eq_of_beq h
      subst e
      obtain ⟨vs, q1, q2⟩ := hs.ob n c _ ha hS
      exact .inr (.inr (.inl ⟨rfl, .inl ⟨vs, q1⟩⟩))
    · rename_i xs hS
      have e := eq_of_beq h
      subst e
      obtain ⟨vs, q1, q2⟩ := hs.ob n c _ ha hS
      exact .inr (.inr (.inl ⟨rfl, .inr ⟨vs, q1⟩⟩))
    · cases h
  · have e := eq_of_beq h
    subst e
    cases hx
    exact rfl
  · have e := eq_of_beq h
    subst e
    obtain ⟨c, vs, rfl, h1, h2⟩ := hx
    exact .inl ⟨rfl, vs, h1.sq⟩
  · cases h
abbrev GM := So → W → List W → Option (W × So)
def dMeth (T : String) (g : GM) (o : DE) (as : DA) : DE := fun σ S => bnd (o σ S) fun x S1 => if tyM T S1 x = true then bnd (as σ S1) fun ws S2 => match g S2 x ws with
  | some (w, S3) => some (.ok w S3)
  | none => none
  else none
variable {o e : Expr} {es : List Expr} {dO : DE} {das : DA} {name : Str} {apos cpos : Pos} {T id : String} {r : V → List V → Hp → VK → Prop} {g : GM}
theorem meth_rd (hr : ∀ v1 vs H Q, rM X.K X.mg g v1 vs H Q → r v1 vs H Q) (σV : L2.St) (H : Hp) (Q : VK) (h : tE X.K X.mg E (dMeth T g dO das) σV H Q) : tBM X.K T r (tE X.K X.mg E dO) (tA X.K X.mg E das) σV H Q := by
  obtain ⟨φ, σ, S, r', hs, he, hd, hq⟩ := h
  unfold dMeth at hd
  match ha : dO σ S, hd with
  | none, hd => cases hd
  | some (.xc x S1), hd => cases hd; exact ⟨φ, σ, S, .xc x S1, hs, he, ha, hq⟩
  | some (.ok x S1), hd =>
    refine ⟨φ, σ, S, .ok x S1, hs, he, ha, fun φ1 H1 v1 e1 s1 x1 => ?_⟩
    rw [bnd_ok] at hd
    split at hd
    · rename_i hT
      refine ⟨tyM_of s1 x1 hT, ?_⟩
      match hb : das σ S1, hd with
      | none, hd => cases hd
      | some (.xc y S2), hd => cases hd; exact ⟨φ1, σ, S1, .xc y S2, s1, he.mono e1, hb, XR.keep e1 hq⟩
      | some (.ok ws S2), hd =>
        refine ⟨φ1, σ, S1, .ok ws S2, s1, he.mono e1, hb, fun φ2 H2 vs e2 s2 y2 => hr _ _ _ _ ?_⟩
        rw [bnd_ok] at hd
        match hg : g S2 x ws, hd with
        | none, hd => cases hd
        | some (w, S3), hd =>
          cases hd
          exact ⟨φ2, S2, x, ws, w, S3, s2, x1.mono e2, y2, hg, fun φ' H' v e' => hq φ' H' v ((e1.trans e2).trans e')⟩
    · cases hd
theorem e_meth (hm : MtR X id r) (hr : ∀ v1 vs H Q, rM X.K X.mg g v1 vs H Q → r v1 vs H Q) (pa : PlainAttrs T) (slot : Slot T name id) (hty : typeOf (.builtin id) = pure (.type "method_descriptor")) (ho : SE X E o dO) (ha : SA X E (e :: es) das)
    (hbase : attributeBase o name X.env (eval o X.env) = eval o X.env := by rfl)
    (hfew : ((backTo cpos (starEach (e :: es) X.env)).all (fun x => !x.1) && (backToKw cpos (keywordEach [] X.env)).all (fun x => x.1.isSome) && decide ((e :: es).length + ([] : List Keyword).length + (if ([] : List Keyword).isEmpty then 0 else 1) < 30)) = true := by rfl)
    (hline : (apos.endLine == cpos.line) = true := by rfl) (hs : starEach (e :: es) X.env = (false, eval e X.env) :: starEach es X.env := by rfl) (hplain : (backTo cpos (starEach es X.env)).any (·.1) = false := by rfl) :
    SE X E (.Call (.Attribute o name apos) (e :: es) [] cpos) (dMeth T g dO das) := PEw (pe_bm pa slot hty hm ho ha hbase hfew hline hs hplain) (meth_rd hr)
theorem e_meth0 (hm : MtR X id r) (hr : ∀ v1 vs H Q, rM X.K X.mg g v1 vs H Q → r v1 vs H Q) (pa : PlainAttrs T) (slot : Slot T name id) (hty : typeOf (.builtin id) = pure (.type "method_descriptor")) (ho : SE X E o dO)
    (hbase : attributeBase o name X.env (eval o X.env) = eval o X.env := by rfl) (hline : (apos.endLine == cpos.line) = true := by rfl) : SE X E (.Call (.Attribute o name apos) [] [] cpos) (dMeth T g dO dNil) := by
  refine PEw (pe_bm0 pa slot hty hm ho hbase hline) fun σV H Q h => ?_
  obtain ⟨φ, σ, S, r', hs, he, hd, hq⟩ := meth_rd (E := E) hr σV H Q h
  refine ⟨φ, σ, S, r', hs, he, hd, ?_⟩
  cases r' with
  | xc y S' => exact hq
  | ok w S' =>
    intro φ' H' v e' s' x'
    obtain ⟨h1, φ2, σ2, S2, r2, a1, a2, a3, a4⟩ := hq φ' H' v e' s' x'
    cases a3
    exact ⟨h1, a4 φ2 H' [] .refl a1 rfl⟩
/-- a method of texts that changes nothing -/
def gS0 (f : Str → Option PyData) : GM
  | S, .d (.str x), [] => (f x).map fun y => (.d y, S)
  | _, _, _ => none
theorem gS0_of {f : Str → Option PyData} {v1 : V} {vs : List V} {H : Hp} {Q : VK} (h : rM X.K X.mg (gS0 f) v1 vs H Q) : ∃ x y, v1 = .str x ∧ vs = [] ∧ f x = some y ∧ (∀ v, (∀ H φ, RD X.K H φ y v) → Q v H) := by
  obtain ⟨φ, S, x, ws, w, S', hs, hx, hws, hg, hq⟩ := h
  unfold gS0 at hg
  split at hg
  · obtain ⟨y, h1, h2⟩ := Option.map_eq_some_iff.mp hg
    cases h2
    cases hx
    cases hws
    exact ⟨_, y, rfl, rfl, h1, fun v hv => hq φ H v .refl hs (hv H φ)⟩
  · cases hg
def upP (x : Str) : Option PyData := if x.length ≤ 5000000 then some (.str (Txt.upper x)) else none
theorem e_upper (ho : SE X E o dO) (hbase : attributeBase o "upper" X.env (eval o X.env) = eval o X.env := by rfl) (hline : (apos.endLine == cpos.line) = true := by rfl) : SE X E (.Call (.Attribute o "upper" apos) [] [] cpos) (dMeth "str" (gS0 upP) dO dNil) :=
  e_meth0 mt_upper (fun v1 vs H Q h => by
    obtain ⟨x, y, e1, e2, h1, h2⟩ := gS0_of h
    unfold upP at h1
    split at h1
    · cases h1; exact ⟨x, e1, e2, by omega, h2 _ fun _ _ => rfl⟩
    · cases h1) F.plainAttrs_str F.slot_str_upper F.type_str_upper ho hbase hline
/-- l.append(x), l.pop(i) -/
def gApp : GM
  | S, .r n, [.d x] => match S[n]? with
    | some (.lst xs) => if small (xs.length + 1) = true then some (.d .none, S.set n (.lst (xs ++ [x]))) else none
    | _ => none
  | _, _, _ => none
theorem e_append (ho : SE X E o dO) (ha : SA X E [e] das) (hbase : attributeBase o "append" X.env (eval o X.env) = eval o X.env := by rfl)
    (hfew : ((backTo cpos (starEach [e] X.env)).all (fun x => !x.1) && (backToKw cpos (keywordEach [] X.env)).all (fun x => x.1.isSome) && decide (([e] : List Expr).length + ([] : List Keyword).length + (if ([] : List Keyword).isEmpty then 0 else 1) < 30)) = true := by rfl)
    (hline : (apos.endLine == cpos.line) = true := by rfl) (hs : starEach [e] X.env = (false, eval e X.env) :: starEach [] X.env := by rfl) (hplain : (backTo cpos (starEach [] X.env)).any (·.1) = false := by rfl) :
    SE X E (.Call (.Attribute o "append" apos) [e] [] cpos) (dMeth "list" gApp dO das) :=
  e_meth mt_append (fun v1 vs H Q h => by
    obtain ⟨φ, S, x, ws, w, S', hs, hx, hws, hg, hq⟩ := h
    unfold gApp at hg
    split at hg
    · rename_i n y
      split at hg
      · rename_i xs hS
        split at hg
        · rename_i hz
          cases hg
          obtain ⟨c, ha, rfl⟩ := hx
          obtain ⟨v, rfl, hv⟩ := one_of hws
          obtain ⟨us, q1, q2⟩ := hs.ob n c _ ha hS
          have nl : notLk S[n]? := by rw [hS]; trivial
          have ex := Ext.wr (o := .lst (us ++ [v])) hs ha nl
          refine ⟨c, us, v, rfl, rfl, q1, by rw [q2.length]; exact small_le hz, hq φ _ _ ex (hs.wr ha nl ⟨_, upd_same, RDs.append (RDs.mono ex _ _ q2) (RDs.one (RD.mono ex _ _ hv))⟩) rfl⟩
        · cases hg
      · cases hg
    · cases hg) F.plainAttrs_list F.slot_list_append F.type_list_append ho ha hbase hfew hline hs hplain
def gPop : GM
  | S, .r n, [.d (.int i)] => match S[n]? with
    | some (.lst xs) => if 0 ≤ i ∧ i < 16777216 then (xs[i.toNat]?).map fun x => (.d x, S.set n (.lst (xs.eraseIdx i.toNat))) else none
    | _ => none
  | _, _, _ => none
theorem e_pop (ho : SE X E o dO) (ha : SA X E [e] das) (hbase : attributeBase o "pop" X.env (eval o X.env) = eval o X.env := by rfl)
    (hfew : ((backTo cpos (starEach [e] X.env)).all (fun x => !x.1) && (backToKw cpos (keywordEach [] X.env)).all (fun x => x.1.isSome) && decide (([e] : List Expr).length + ([] : List Keyword).length + (if ([] : List Keyword).isEmpty then 0 else 1) < 30)) = true := by rfl)
    (hline : (apos.endLine == cpos.line) = true := by rfl) (hs : starEach [e] X.env = (false, eval e X.env) :: starEach [] X.env := by rfl) (hplain : (backTo cpos (starEach [] X.env)).any (·.1) = false := by rfl) :
    SE X E (.Call (.Attribute o "pop" apos) [e] [] cpos) (dMeth "list" gPop dO das) :=
  e_meth mt_popAt (fun v1 vs H Q h => by
    obtain ⟨φ, S, x, ws, w, S', hs, hx, hws, hg, hq⟩ := h
    unfold gPop at hg
    split at hg
    · rename_i n i
      split at hg
      · rename_i xs hS
        split at hg
        · rename_i hz
          obtain ⟨y, h1, h2⟩ := Option.map_eq_some_iff.mp hg
          cases h2
          obtain ⟨c, ha, rfl⟩ := hx
          obtain ⟨v, rfl, hv⟩ := one_of hws
          cases hv
          obtain ⟨us, q1, q2⟩ := hs.ob n c _ ha hS
          obtain ⟨u, g1, g2⟩ := q2.get h1
          have nl : notLk S[n]? := by rw [hS]; trivial
          have ex := Ext.wr (o := .lst (us.eraseIdx i.toNat)) hs ha nl
          have hlt := (List.getElem?_eq_some_iff.mp g1).1
          refine ⟨c, us, i, i.toNat, u, rfl, rfl, q1, by omega, by omega, ?_, g1, hq φ _ _ ex (hs.wr ha nl ⟨_, upd_same, RDs.eraseIdx _ (RDs.mono ex _ _ q2)⟩) (RD.mono ex _ _ g2)⟩
          exact seqIndex_of hz.1 (by omega)
        · cases hg
      · cases hg
    · cases hg) F.plainAttrs_list F.slot_list_pop F.type_list_pop ho ha hbase hfew hline hs hplain
/-- d.update(pairs) -/
def prP : PyData → Option (List Key × PyData)
  | .tuple [.tuple ks, v] => (keysP ks).map fun k => (k, v)
  | _ => none
def prsP : List PyData → Option (List (List Key × PyData))
  | [] => some []
  | x :: r => match prP x, prsP r with
    | some q, some qs => some (q :: qs)
    | _, _ => none
def mergeTD (kvs : List (List Key × PyData)) (ps : List (List Key × PyData)) : List (List Key × PyData) := ps.foldl (fun acc q => putD acc q.1 q.2) kvs
def gUpd : GM
  | S, .r n, [.d (.list xs)] => match S[n]? with
    | some (.dt kvs) => match prsP xs with
      | some ps => if small (kvs.length + xs.length) = true then some (.d .none, S.set n (.dt (mergeTD kvs ps))) else none
      | none => none
    | _ => none
  | _, _, _ => none
theorem prs_of {K : PySem.W.Frag} {H : Hp} {φ : Fi} : ∀ {xs : List PyData} {vs : List V} {ps : List (List Key × PyData)}, RDs K H φ xs vs → prsP xs = some ps →
    ∃ qs : List Pr, vs = qs.map (fun q => V.ref q.t) ∧ (∀ q ∈ qs, PrOk H q) ∧ qs.length = xs.length ∧ qs.map (·.k) = ps.map (·.1) ∧ RDs K H φ (ps.map (·.2)) (qs.map (·.v))
  | [], _, _, h, e => by cases e; cases h; exact ⟨[], rfl, (fun _ h => nomatch h), rfl, rfl, rfl⟩
  | x :: xs, _, ps, ⟨v, r, e1, h1, h2⟩, e => by
    subst e1
    unfold prsP at e
    match hp : prP x, hr : prsP xs, e with
    | none, _, e => cases e
    | some _, none, e => cases e
    | some q, some qs, e =>
      cases e
      obtain ⟨zs, g1, g2, g3, g4, g5⟩ := prs_of h2 hr
      unfold prP at hp
      split at hp
      · obtain ⟨k, k1, k2⟩ := Option.map_eq_some_iff.mp hp
        subst k2
        obtain ⟨c, us, rfl, t1, w1, r1, e1, ⟨c2, us2, rfl, t2, d2⟩, w2, r2, e2, d3, e3⟩ := h1
        cases e3; subst e2; subst e1
        have kk := keysP_of d2 k1
        subst kk
        refine ⟨⟨c, c2, k, w2⟩ :: zs, by simp [g1], fun q hq => ?_, by simp [g3], by simp [g4], w2, _, rfl, d3, g5⟩
        rcases List.mem_cons.mp hq with e | hq
        · subst e; exact ⟨t1, t2⟩
        · exact g2 q hq
      · cases hp
theorem mergeT_rd {K : PySem.W.Frag} {H : Hp} {φ : Fi} : ∀ {qs : List Pr} {ps : List (List Key × PyData)} {kvs : List (List Key × PyData)} {es : List (List Key × V)}, qs.map (·.k) = ps.map (·.1) → RDs K H φ (ps.map (·.2)) (qs.map (·.v)) → KR K H φ kvs es → KR K H φ (mergeTD kvs ps) (mergeT es qs)
  | [], [], _, _, _, _, h => h
  | [], _ :: _, _, _, h, _, _ => by simp at h
  | _ :: _, [], _, _, h, _, _ => by simp at h
  | q :: qs, p :: ps, kvs, es, h, ⟨v, r, e, h1, h2⟩, h3 => by
    simp at h e
    obtain ⟨k1, k2⟩ := h
    obtain ⟨k3, k4⟩ := e
    subst k4
    show KR K H φ (mergeTD (putD kvs p.1 p.2) ps) (mergeT (putK es q.k q.v) qs)
    refine mergeT_rd (by simpa using k2) h2 ?_
    rw [k1, k3]
    exact h3.put h1
theorem e_update (hu : X.A.units + 64 < cLine) (ho : SE X E o dO) (ha : SA X E [e] das) (hc : X.calm = true := by rfl) (hbase : attributeBase o "update" X.env (eval o X.env) = eval o X.env := by rfl)
    (hfew : ((backTo cpos (starEach [e] X.env)).all (fun x => !x.1) && (backToKw cpos (keywordEach [] X.env)).all (fun x => x.1.isSome) && decide (([e] : List Expr).length + ([] : List Keyword).length + (if ([] : List Keyword).isEmpty then 0 else 1) < 30)) = true := by rfl)
    (hline : (apos.endLine == cpos.line) = true := by rfl) (hs : starEach [e] X.env = (false, eval e X.env) :: starEach [] X.env := by rfl) (hplain : (backTo cpos (starEach [] X.env)).any (·.1) = false := by rfl) :
    SE X E (.Call (.Attribute o "update" apos) [e] [] cpos) (dMeth "dict" gUpd dO das) :=
  e_meth (mt_update hc hu) (fun v1 vs H Q h => by
    obtain ⟨φ, S, x, ws, w, S', hs, hx, hws, hg, hq⟩ := h
    unfold gUpd at hg
    split at hg
    · rename_i n xs
      split at hg
      · rename_i kvs hS
        split at hg
        · rename_i ps hps
          split at hg
          · rename_i hz
            cases hg
            obtain ⟨c, ha, rfl⟩ := hx
            obtain ⟨v, rfl, l, us, rfl, f1, r1⟩ := one_of hws
            obtain ⟨es, q1, q2⟩ := hs.dt ha hS
            obtain ⟨qs, g1, g2, g3, g4, g5⟩ := prs_of r1 hps
            subst g1
            have nl : notLk S[n]? := by rw [hS]; trivial
            have ex := Ext.wr (o := .dT (mergeT es qs)) hs ha nl
            exact ⟨c, es, l, qs, rfl, rfl, q1, f1.1, g2, by rw [q2.length, g3]; exact small_le hz, hq φ _ _ ex (hs.wr ha nl (.dt' upd_same (mergeT_rd g4 (RDs.mono ex _ _ g5) (q2.mono ex)))) rfl⟩
          · cases hg
        · cases hg
      · cases hg
    · cases hg) F.plainAttrs_dict F.slot_dict_update F.type_dict_update ho ha hbase hfew hline hs hplain
end
end CL
end

section
/-! part CLLock -/
set_option Elab.async false
set_option linter.all false
set_option maxRecDepth 100000
set_option maxHeartbeats 1000000
/-! CLLock: what is walked; a dict stays as it is while it is walked; dicts as their keys. -/
namespace CL
open PySem PySem.Spec PyProof.Rows L2

section
variable {K : PySem.W.Frag} {H H' : Hp} {φ φ' : Fi} {mg : Str → Option Value}
mutual
theorem RD.map (k : ∀ b vs, FL H φ b vs → FL H' φ' b vs) (t : ∀ b vs, TP K H b vs → TP K H' b vs) : ∀ (d : PyData) (v : V), RD K H φ d v → RD K H' φ' d v
  | .none, _, h => h
  | .bool _, _, h => h
  | .int _, _, h => h
  | .str _, _, h => h
  | .list ds, _, ⟨a, vs, e1, h1, h2⟩ => ⟨a, vs, e1, k a vs h1, RDs.map k t ds vs h2⟩
  | .tuple ds, _, ⟨a, vs, e1, h1, h2⟩ => ⟨a, vs, e1, t a vs h1, RDs.map k t ds vs h2⟩
  | .dict _, _, h => h
theorem RDs.map (k : ∀ b vs, FL H φ b vs → FL H' φ' b vs) (t : ∀ b vs, TP K H b vs → TP K H' b vs) : ∀ (ds : List PyData) (vs : List V), RDs K H φ ds vs → RDs K H' φ' ds vs
  | [], _, h => h
  | d :: ds, _, ⟨v, r, e1, h1, h2⟩ => ⟨v, r, e1, RD.map k t d v h1, RDs.map k t ds r h2⟩
end
theorem OR.map (k : ∀ b vs, FL H φ b vs → FL H' φ' b vs) (t : ∀ b vs, TP K H b vs → TP K H' b vs) {a : Addr} (ha : H' a = H a) : ∀ {o : O}, OR K H φ a o → OR K H' φ' a o
  | .lst xs, ⟨vs, h1, h2⟩ => ⟨vs, ha.trans h1, RDs.map k t _ _ h2⟩
  | .dk kvs, ⟨es, h1, h2, h3⟩ => ⟨es, ha.trans h1, h2, RDs.map k t _ _ h3⟩
  | .dt kvs, ⟨es, h1, h2, h3⟩ => ⟨es, ha.trans h1, h2, RDs.map k t _ _ h3⟩
  | .lkK kvs, ⟨es, ⟨od, h1⟩, h2, h3⟩ => ⟨es, ⟨od, ha.trans h1⟩, h2, RDs.map k t _ _ h3⟩
  | .lkT kvs, ⟨es, ⟨od, h1⟩, h2, h3⟩ => ⟨es, ⟨od, ha.trans h1⟩, h2, RDs.map k t _ _ h3⟩
theorem RW.map (k : ∀ b vs, FL H φ b vs → FL H' φ b vs) (t : ∀ b vs, TP K H b vs → TP K H' b vs) : ∀ {w : W} {v : V}, RW K H φ mg w v → RW K H' φ mg w v
  | .d x, v, h => RD.map k t x v h
  | .r n, v, h => h
  | .g x, v, h => h
  | .s xs, v, ⟨a, vs, e1, h1, h2⟩ => ⟨a, vs, e1, h1.imp (fun q => k a vs q) id, RDs.map k t _ _ h2⟩
/-- the thing at a is a dict -/
def DU : HO → Prop
  | .dK _ => True
  | .dT _ => True
  | _ => False
section
variable {a : Addr} {u : HO} {od : Obj} (hu : DU u) (hl : H' a = some (.frz od u))
include hu hl
theorem fl_un {b : Addr} {vs : List V} (h : FL H' φ b vs) : FL (upd H' a u) φ b vs := by
  have ne : b ≠ a := by
    rintro rfl
    rcases h.1 with h | ⟨o, h⟩
    · rw [hl] at h; cases h
    · rw [hl] at h; cases h; exact hu
  exact ⟨by rcases h.1 with q | ⟨o, q⟩
            · exact .inl ((upd_ne ne).trans q)
            · exact .inr ⟨o, (upd_ne ne).trans q⟩, h.2⟩
theorem tp_un {b : Addr} {vs : List V} (h : TP K H' b vs) : TP K (upd H' a u) b vs := by
  have ne : b ≠ a := by rintro rfl; rw [TP, hl] at h; cases h
  exact (upd_ne ne).trans h
theorem SR.un {S : So} {n : Nat} {ob : O} (hs : SR K H' φ S) (ha : φ.l[n]? = some a) (ho : OR K (upd H' a u) φ a ob) : SR K (upd H' a u) φ (S.set n ob) := by
  refine ⟨by simp [hs.len], hs.nd, fun i b w h1 h2 => ?_, fun b hb => ?_⟩
  · by_cases e : n = i
    · subst e
      rw [ha] at h1; cases h1
      have hlt : n < S.length := by rw [← hs.len]; exact (List.getElem?_eq_some_iff.mp ha).1
      rw [List.getElem?_set_self hlt] at h2; cases h2
      exact ho
    · rw [List.getElem?_set_ne e] at h2
      have ne : b ≠ a := by
        rintro rfl
        exact e ((List.getElem?_inj (List.getElem?_eq_some_iff.mp ha).1 hs.nd).mp (ha.trans h1.symm))
      exact OR.map (fun _ _ q => fl_un hu hl q) (fun _ _ q => tp_un hu hl q) (upd_ne ne) (hs.ob i b w h1 h2)
  · obtain ⟨h1, vs, h2⟩ := hs.hid b hb
    have ne : b ≠ a := by rintro rfl; rw [hl] at h2; cases h2
    exact ⟨h1, vs, (upd_ne ne).trans h2⟩
end
theorem Ext.un {a : Addr} {u : HO} {od : Obj} (hu : DU u) (h0 : H a = some u) (ha : a ∈ φ.l) (e : Ext φ (upd H a (.frz od u)) φ' H') : Ext φ H φ' (upd H' a u) := by
  have key : ∀ b o, b ≠ a → H b = some o → upd H a (.frz od u) b = some o := fun b o ne h => (upd_ne ne).trans h
  refine ⟨e.pre, ?_, fun b h => ?_, fun b o h n => ?_, fun b vs h => ?_, fun b o v h => ?_⟩
  · obtain ⟨l, e1, e2⟩ := e.hid
    refine ⟨l, e1, fun b hb => ?_⟩
    have h1 := e2 b hb
    have ne : b ≠ a := by rintro rfl; rw [upd_same] at h1; cases h1
    rw [upd_ne ne] at h1; exact h1
  · have ne : b ≠ a := by rintro rfl; rw [upd_same] at h; cases h
    rw [upd_ne ne] at h
    have h1 := e.trk b h
    rw [upd_ne ne] at h1; exact h1
  · have ne : b ≠ a := by rintro rfl; exact n ha
    obtain ⟨h1, h2⟩ := e.kept b o (key b o ne h) n
    exact ⟨(upd_ne ne).trans h1, h2⟩
  · have ne : b ≠ a := by rintro rfl; rw [h0] at h; cases h; exact hu
    exact (upd_ne ne).trans (e.tups b vs (key b _ ne h))
  · have ne : b ≠ a := by rintro rfl; rw [h0] at h; cases h; exact hu
    exact (upd_ne ne).trans (e.frz b o v (key b _ ne h))
end
/-- the dict that slot i holds, locked; and back -/
def lockO : O → Option O
  | .dk kvs => some (.lkK kvs)
  | .dt kvs => some (.lkT kvs)
  | _ => none
def slotR (σ : En) (i : Nat) : Option Nat := match σ[i]? with
  | some (some (.r n)) => some n
  | _ => none
def lockS (σ : En) (i : Nat) (S : So) : Option (Nat × O × So) := match slotR σ i with
  | some n => match S[n]? with
    | some ob => (lockO ob).map fun l => (n, ob, S.set n l)
    | none => none
  | none => none
section
variable {X : Cx} {E : XK} {pos p : Pos} {e : Expr} {st : Stmt}
theorem lock_of {φ : Fi} {H : Hp} {σ : En} {σV : L2.St} {S S1 : So} {i n : Nat} {ob : O} (hs : SR X.K H φ S) (he : ER X.K H φ X.mg σV σ) (h : lockS σ i S = some (n, ob, S1)) :
    ∃ a u, DU u ∧ H a = some u ∧ Mut (some u) ∧ φ.l[n]? = some a ∧ OR X.K H φ a ob ∧ (∀ H2 φ2, H2 a = some u → Ext φ H φ2 H2 → OR X.K H2 φ2 a ob) ∧ ∀ od, Ext φ H φ (upd H a (.frz od u)) ∧ SR X.K (upd H a (.frz od u)) φ S1 := by
  unfold lockS at h
  split at h
  · rename_i m hm
    split at h
    · rename_i o ho
      obtain ⟨l, h1, h2⟩ := Option.map_eq_some_iff.mp h
      cases h2
      unfold slotR at hm
      split at hm
      · rename_i m' hσ
        cases hm
        obtain ⟨v, _, a, ha, _⟩ := he.at_ i _ hσ
        have or := hs.ob _ a _ ha ho
        unfold lockO at h1
        split at h1
        · rename_i kvs
          cases h1
          obtain ⟨es, q1, q2⟩ := hs.dk ha ho
          have nl : notLk S[n]? := by rw [ho]; trivial
          refine ⟨a, .dK es, trivial, q1, trivial, ha, or, fun H2 φ2 k e => .dk' k (q2.mono e), fun od => ?_⟩
          have ex := Ext.wr (o := .frz od (.dK es)) hs ha nl
          exact ⟨ex, hs.wr ha nl ⟨es, ⟨od, upd_same⟩, (q2.mono ex).to.1, (q2.mono ex).to.2⟩⟩
        · rename_i kvs
          cases h1
          obtain ⟨es, q1, q2⟩ := hs.dt ha ho
          have nl : notLk S[n]? := by rw [ho]; trivial
          refine ⟨a, .dT es, trivial, q1, trivial, ha, or, fun H2 φ2 k e => .dt' k (q2.mono e), fun od => ?_⟩
          have ex := Ext.wr (o := .frz od (.dT es)) hs ha nl
          exact ⟨ex, hs.wr ha nl ⟨es, ⟨od, upd_same⟩, (q2.mono ex).to.1, (q2.mono ex).to.2⟩⟩
        · cases h1
      · cases hm
    · cases h
  · cases h
def dLockN (i : Nat) (d : DN) : DN := fun σ S => match lockS σ i S with
  | some (n, ob, S1) => match d σ S1 with
    | some (.ok xs S2) => some (.ok xs (S2.set n ob))
    | _ => none
  | none => none
theorem n_lock (i : Nat) {d : DN} (h : SN X E e d) : SN X E e (dLockN i d) := by
  refine PEw (pe_lock h) fun σV H Q q => ?_
  obtain ⟨φ, σ, S, r, hs, he, hd, hq⟩ := q
  unfold dLockN at hd
  split at hd
  · rename_i n ob S1 hl
    obtain ⟨a, u, hu, h0, mu, ha, or, back, lk⟩ := lock_of hs he hl
    refine ⟨a, u, h0, mu, fun od => ?_⟩
    obtain ⟨ex, s1⟩ := lk od
    split at hd
    · rename_i xs S2 hx
      cases hd
      refine ⟨φ, σ, S1, .ok xs S2, s1, he.mono ex, hx, fun φ2 H2 p vs e2 s2 hp x2 => ?_⟩
      have hfr : H2 a = some (.frz od u) := e2.frz a od u upd_same
      have ne : a ≠ p := by rintro rfl; rw [hp] at hfr; cases hfr
      have eu := Ext.un hu h0 (List.mem_of_getElem? ha) e2
      have ha2 : φ2.l[n]? = some a := by
        obtain ⟨t, ht⟩ := e2.pre
        rw [← ht, List.getElem?_append_left (List.getElem?_eq_some_iff.mp ha).1]; exact ha
      refine ⟨by rw [upd_ne ne]; exact hfr, ?_⟩
      have cm : upd (upd H2 p (.lst vs)) a u = upd (upd H2 a u) p (.lst vs) := by
        funext b
        unfold upd
        by_cases e1 : b = a
        · subst e1; simp [ne]
        · simp [e1]
      rw [cm]
      refine hq φ2 _ p vs eu (SR.un hu hfr s2 ha2 (back _ _ upd_same eu)) ((upd_ne ne.symm).trans hp) ?_
      exact RDs.map (fun _ _ q => fl_un hu hfr q) (fun _ _ q => tp_un hu hfr q) _ _ x2
    · cases hd
  · cases hd
def sLock (i : Nat) (d : DS) : DS := fun σ S => match lockS σ i S with
  | some (n, ob, S1) => match d σ S1 with
    | some (.nx σ2 S2) => some (.nx σ2 (S2.set n ob))
    | some (.bk σ2 S2) => some (.bk σ2 (S2.set n ob))
    | some (.ct σ2 S2) => some (.ct σ2 (S2.set n ob))
    | some (.rt w S2) => some (.rt w (S2.set n ob))
    | _ => none
  | none => none
theorem ER.map {K : PySem.W.Frag} {H H' : Hp} {φ : Fi} {mg : Str → Option Value} (k : ∀ b vs, FL H φ b vs → FL H' φ b vs) (t : ∀ b vs, TP K H b vs → TP K H' b vs) {σV : L2.St} {σ : En} (h : ER K H φ mg σV σ) : ER K H' φ mg σV σ :=
  ⟨h.len, fun i w q => let ⟨v, h1, h2⟩ := h.at_ i w q; ⟨v, h1, RW.map k t h2⟩⟩
theorem s_lock (i : Nat) {d : DS} (h : SS X E st d) : SS X E st (sLock i d) := by
  refine PSw (ps_lock h) fun D σV H q => ?_
  obtain ⟨φ, σ, S, r, hs, he, hd, hq⟩ := q
  unfold sLock at hd
  split at hd
  · rename_i n ob S1 hl
    obtain ⟨a, u, hu, h0, mu, ha, or, back, lk⟩ := lock_of hs he hl
    refine ⟨a, u, h0, mu, fun od => ?_⟩
    obtain ⟨ex, s1⟩ := lk od
    have fin : ∀ {φ2 : Fi} {H2 : Hp} {S2 : So}, Ext φ (upd H a (.frz od u)) φ2 H2 → SR X.K H2 φ2 S2 → H2 a = some (.frz od u) ∧ Ext φ H φ2 (upd H2 a u) ∧ SR X.K (upd H2 a u) φ2 (S2.set n ob) := fun {φ2 H2 S2} e2 s2 => by
      have hfr : H2 a = some (.frz od u) := e2.frz a od u upd_same
      have eu := Ext.un hu h0 (List.mem_of_getElem? ha) e2
      have ha2 : φ2.l[n]? = some a := by
        obtain ⟨t, ht⟩ := e2.pre
        rw [← ht, List.getElem?_append_left (List.getElem?_eq_some_iff.mp ha).1]; exact ha
      exact ⟨hfr, eu, SR.un hu hfr s2 ha2 (back _ _ upd_same eu)⟩
    match hx : d σ S1, hd with
    | none, hd => cases hd
    | some (.xc _ _), hd => cases hd
    | some (.nx σ2 S2), hd =>
      cases hd
      refine ⟨φ, σ, S1, _, s1, he.mono ex, hx, fun φ2 H2 σV2 e2 s2 r2 => ?_⟩
      obtain ⟨f1, f2, f3⟩ := fin e2 s2
      exact ⟨f1, hq φ2 _ σV2 f2 f3 (r2.map (fun _ _ q => fl_un hu f1 q) fun _ _ q => tp_un hu f1 q)⟩
    | some (.bk σ2 S2), hd =>
      cases hd
      refine ⟨φ, σ, S1, _, s1, he.mono ex, hx, fun φ2 H2 σV2 e2 s2 r2 => ?_⟩
      obtain ⟨f1, f2, f3⟩ := fin e2 s2
      exact ⟨f1, hq φ2 _ σV2 f2 f3 (r2.map (fun _ _ q => fl_un hu f1 q) fun _ _ q => tp_un hu f1 q)⟩
    | some (.ct σ2 S2), hd =>
      cases hd
      refine ⟨φ, σ, S1, _, s1, he.mono ex, hx, fun φ2 H2 σV2 e2 s2 r2 => ?_⟩
      obtain ⟨f1, f2, f3⟩ := fin e2 s2
      exact ⟨f1, hq φ2 _ σV2 f2 f3 (r2.map (fun _ _ q => fl_un hu f1 q) fun _ _ q => tp_un hu f1 q)⟩
    | some (.rt w S2), hd =>
      cases hd
      refine ⟨φ, σ, S1, _, s1, he.mono ex, hx, fun φ2 H2 v e2 s2 r2 => ?_⟩
      obtain ⟨f1, f2, f3⟩ := fin e2 s2
      exact ⟨f1, hq φ2 _ v f2 f3 (RW.map (fun _ _ q => fl_un hu f1 q) (fun _ _ q => tp_un hu f1 q) r2)⟩
  · cases hd
/-! ### a locked dict is walked -/
def lkKeys (S : So) : W → Option (List PyData)
  | .r n => match S[n]? with
    | some (.lkK kvs) => some (kvs.map fun p => keyD p.1)
    | some (.lkT kvs) => some (keysOf kvs)
    | _ => none
  | _ => none
def dKeys (d : DE) : DI := fun σ S => bnd (d σ S) fun w S1 => giv ((lkKeys S1 w).bind fun xs => if small xs.length = true then some (xs, none) else none) S1
theorem itkt_it {K : PySem.W.Frag} {d : Addr} {o : Obj} {es : List (List Key × V)} {φ : Fi} {H : Hp} (h : H d = some (.frz o (.dT es))) : ItD K (Itkt d o es) (es.map fun p => tupOf p.1) none φ H where
  go := fun φ2 H2 S i x e s _ hi => by
    rw [List.getElem?_map] at hi
    obtain ⟨q, h1, h2⟩ := Option.map_eq_some_iff.mp hi
    refine ⟨⟨e.frz _ _ _ h, (List.getElem?_eq_some_iff.mp h1).1⟩, fun v H' hy => ?_⟩
    obtain ⟨rfl, k, u, b, g1, rfl, g2⟩ := hy
    rw [h1] at g1; cases g1
    subst h2
    exact ⟨.refl, s, b, _, rfl, g2, keysD_rd k⟩
  stop := fun φ2 H2 S e s _ => ⟨e.frz _ _ _ h, by rw [List.length_map]; exact Nat.le_refl _⟩
theorem itk_it {K : PySem.W.Frag} {d : Addr} {o : Obj} {es : List (Key × V)} {φ : Fi} {H : Hp} (h : H d = some (.frz o (.dK es))) : ItD K (Itk d o es) (es.map fun p => keyD p.1) none φ H where
  go := fun φ2 H2 S i x e s _ hi => by
    rw [List.getElem?_map] at hi
    obtain ⟨q, h1, h2⟩ := Option.map_eq_some_iff.mp hi
    refine ⟨⟨e.frz _ _ _ h, (List.getElem?_eq_some_iff.mp h1).1⟩, fun v H' hy => ?_⟩
    obtain ⟨rfl, k, u, g1, rfl⟩ := hy
    rw [h1] at g1; cases g1
    subst h2
    exact ⟨.refl, s, keyD_rd k⟩
  stop := fun φ2 H2 S e s _ => ⟨e.frz _ _ _ h, by rw [List.length_map]; exact Nat.le_refl _⟩
theorem i_keys {tg : Expr} {d : DE} (h : SE X E e d) : SI X E tg e (dKeys d) := by
  refine PIw (pi_keys h) fun σV H R q => ?_
  obtain ⟨φ, σ, S, r', hs, hen, hd, hq⟩ := q
  unfold dKeys at hd
  match ha : d σ S, hd with
  | none, hd => cases hd
  | some (.xc x S1), hd => cases hd; exact ⟨φ, σ, S, .xc x S1, hs, hen, ha, hq⟩
  | some (.ok w S1), hd =>
    refine ⟨φ, σ, S, .ok w S1, hs, hen, ha, fun φ1 H1 v e1 s1 x1 => ?_⟩
    rw [bnd_ok] at hd
    match hg : (lkKeys S1 w).bind (fun xs => if small xs.length = true then some (xs, (none : Option Nat)) else none), hd with
    | none, hd => cases hd
    | some z, hd =>
      cases hd
      obtain ⟨xs, g1, g2⟩ := Option.bind_eq_some_iff.mp hg
      split at g2
      · rename_i hz
        cases g2
        unfold lkKeys at g1
        split at g1
        · rename_i n
          obtain ⟨c, hc, rfl⟩ := x1
          split at g1
          · rename_i kvs hS
            cases g1
            obtain ⟨es, ⟨od, q1⟩, q2, q3⟩ := s1.ob n c _ hc hS
            have eq : (es.map fun p => keyD p.1) = kvs.map fun p => keyD p.1 := by
              have := congrArg (List.map keyD) q2
              rw [List.map_map, List.map_map] at this
              exact this
            refine ⟨c, od, rfl, .inl ⟨es, q1, hq φ1 H1 _ e1 s1 ?_ (small_le hz)⟩⟩
            have it := itk_it (K := X.K) (φ := φ1) q1
            rw [eq] at it
            exact it
          · rename_i kvs hS
            cases g1
            obtain ⟨es, ⟨od, q1⟩, q2, q3⟩ := s1.ob n c _ hc hS
            have eq : (es.map fun p => tupOf p.1) = keysOf kvs := by
              have := congrArg (List.map tupOf) q2
              rw [List.map_map, List.map_map] at this
              exact this
            refine ⟨c, od, rfl, .inr ⟨es, q1, hq φ1 H1 _ e1 s1 ?_ (small_le hz)⟩⟩
            have it := itkt_it (K := X.K) (φ := φ1) q1
            rw [eq] at it
            exact it
          · cases g1
        · cases g1
      · cases g2
/-! ### sorted(d), min(d) of a dict with tuples for keys; len(set(xs)) of texts -/
def dtW (S : So) : W → Option (List (List Key × PyData))
  | .r n => match S[n]? with
    | some (.dt kvs) => some kvs
    | _ => none
  | _ => none
theorem dtW_of {K : PySem.W.Frag} {mg : Str → Option Value} {H : Hp} {φ : Fi} {S : So} {w : W} {v : V} {kvs : List (List Key × PyData)} (hs : SR K H φ S) (hx : RW K H φ mg w v) (h : dtW S w = some kvs) : ∃ a es, v = .ref a ∧ H a = some (.dT es) ∧ KR K H φ kvs es ∧ (es.map fun p => tupOf p.1) = keysOf kvs := by
  unfold dtW at h
  split at h
  · obtain ⟨a, ha, rfl⟩ := hx
    split at h
    · rename_i kvs' hS
      cases h
      obtain ⟨es, q1, q2⟩ := hs.dt ha hS
      refine ⟨a, es, rfl, q1, q2, ?_⟩
      have := congrArg (List.map tupOf) q2.to.1
      rw [List.map_map, List.map_map] at this
      exact this
    · cases h
  · cases h
def sortDG : So → List W → Option (List PyData)
  | S, [w] => (dtW S w).bind fun kvs => if sortOk (keysOf kvs) = true then some (srtD (keysOf kvs)) else none
  | _, _ => none
theorem b_sortedD (hu : X.A.units + 64 < cLine) (hc : X.calm = true := by rfl) : CallR X (.builtin "sorted") (rCN X.K X.mg sortDG) :=
  callw (call_sortedDT hc hu) fun vs H Q ⟨φ, S, ws, xs, hs, hx, hg, hq⟩ => by
    unfold sortDG at hg
    split at hg
    · obtain ⟨v, rfl, hv⟩ := one_of hx
      obtain ⟨kvs, h1, h2⟩ := Option.bind_eq_some_iff.mp hg
      split at h2
      · rename_i ok
        cases h2
        obtain ⟨a, es, rfl, q1, q2, q3⟩ := dtW_of hs hv h1
        refine ⟨a, es, rfl, q1, by rw [q3]; exact ok, fun p bs hp ik => ?_⟩
        have rd := keys_rd (K := X.K) (φ := φ) ik
        rw [q3] at rd
        have := hq φ H p _ .refl hs hp (srt_rd rd)
        rw [q3]
        exact this
      · cases h2
    · cases hg
def minDG : So → List W → Option W
  | S, [w] => (dtW S w).bind fun kvs => match keysOf kvs with
    | x :: r => if (likeAll (x :: r) && decide (PyData.depthAll (x :: r) ≤ 60)) = true then some (.d (PySem.W.minD x r)) else none
    | [] => none
  | _, _ => none
theorem b_minD (hu : X.A.units + 64 < cLine) (hc : X.calm = true := by rfl) : CallR X (.builtin "min") (rC X.K X.mg minDG) :=
  callw (call_minDT hc hu) fun vs H Q ⟨φ, S, ws, w, hs, hx, hg, hq⟩ => by
    unfold minDG at hg
    split at hg
    · obtain ⟨v, rfl, hv⟩ := one_of hx
      obtain ⟨kvs, h1, h2⟩ := Option.bind_eq_some_iff.mp hg
      split at h2
      · rename_i x r hk
        split at h2
        · rename_i ok
          rw [Bool.and_eq_true] at ok
          cases h2
          obtain ⟨a, es, rfl, q1, q2, q3⟩ := dtW_of hs hv h1
          refine ⟨a, es, x, r, rfl, q1, q3.trans hk, ok.1, of_decide_eq_true ok.2, fun b k hb hk2 => hq φ H _ .refl hs ?_⟩
          rw [← hk2]
          exact ⟨b, _, rfl, hb, keysD_rd k⟩
        · cases h2
      · cases h2
    · cases hg
def txts : List PyData → Option (List Str)
  | [] => some []
  | .str x :: r => (txts r).map (x :: ·)
  | _ :: _ => none
theorem txts_of {K : PySem.W.Frag} {H : Hp} {φ : Fi} : ∀ {ds : List PyData} {vs : List V} {xs : List Str}, RDs K H φ ds vs → txts ds = some xs → vs = xs.map V.str
  | [], _, _, h, e => by cases e; exact h
  | .str b :: ds, _, _, ⟨v, r, e1, h1, h2⟩, e => by
    obtain ⟨cs, e2, e3⟩ := Option.map_eq_some_iff.mp e
    subst e3; subst e1
    rw [txts_of h2 e2, show v = .str b from h1]; rfl
  | .none :: _, _, _, _, e => by cases e
  | .int _ :: _, _, _, _, e => by cases e
  | .bool _ :: _, _, _, _, e => by cases e
  | .list _ :: _, _, _, _, e => by cases e
  | .tuple _ :: _, _, _, _, e => by cases e
  | .dict _ :: _, _, _, _, e => by cases e
def setLen (S : So) (w : W) : Option W := (lstW S w).bind fun ds => (txts ds).bind fun xs => if xs.length < 4000 then some (.d (.int ((once xs).length : Nat))) else none
def dLenSet (d : DE) : DE := fun σ S => bnd (d σ S) fun w S1 => giv (setLen S1 w) S1
theorem e_lenSet {a : Expr} {da : DE} {p2 q : Pos} (hm : X.mg "len" = none) (hm2 : X.mg "set" = none) (ha : SE X E a da) (hc : X.calm = true := by rfl) (hg : Gl X "len" := by rfl) (hg2 : Gl X "set" := by rfl)
    (na : starEach [a] X.env = (false, eval a X.env) :: starEach [] X.env := by rfl) : SE X E (.Call (.Name "len" p) [.Call (.Name "set" p2) [a] [] q] [] pos) (dLenSet da) := by
  refine ⟨fun pins s σ H Q I h => ?_⟩
  refine Call_ (ld_blt I hg hm boot_len (PyProof.Rows.callWith_builtin1 (PyProof.Rows.args_cons ?_ rfl) rfl rfl))
  refine Call_ (ld_blt I hg2 hm2 boot_set (PyProof.Rows.callWith_type1 (PyProof.Rows.args_cons ?_ na) na rfl))
  obtain ⟨φ, σ', S, r', hs, he, hd, hq⟩ := h
  have run := ha.run pins s σ H
  unfold dLenSet at hd
  match hda : da σ' S, hd with
  | none, hd => cases hd
  | some (.xc x S1), hd => cases hd; exact thn (run (fun _ _ => False) I ⟨φ, σ', S, .xc x S1, hs, he, hda, hq⟩) fun v s1 ⟨x, H1, I1, r1, q1⟩ => q1.elim
  | some (.ok w S1), hd =>
    refine thn (run (fun x H1 => ∃ φ1, Ext φ H φ1 H1 ∧ SR X.K H1 φ1 S1 ∧ RW X.K H1 φ1 X.mg w x) I ⟨φ, σ', S, .ok w S1, hs, he, hda, fun φ1 H1 v e1 s1 x1 => ⟨φ1, e1, s1, x1⟩⟩) fun v s1 ⟨x, H1, I1, r1, φ1, e1, s1, x1⟩ => PyProof.Rows.args_nil ?_
    rw [bnd_ok] at hd
    match hg : setLen S1 w, hd with
    | none, hd => cases hd
    | some u, hd =>
      cases hd
      obtain ⟨ds, g1, g2⟩ := Option.bind_eq_some_iff.mp hg
      obtain ⟨xs, g3, g4⟩ := Option.bind_eq_some_iff.mp g2
      split at g4
      · rename_i hz
        cases g4
        obtain ⟨l, vs, rfl, f1, q1⟩ := seqL_of s1 x1 (lstW_of g1)
        have e5 := txts_of q1 g3
        subst e5
        cases r1
        obtain ⟨its, rv, pl, _⟩ := I1.list f1
        refine set_texts (I1.ok.hd hc) pl.isList (by simpa using strsAre_of rv) (by unfold scanBound; omega) fun h2 tk hS hk => PyProof.Rows.args_nil ?_
        obtain ⟨o, es, ep, t, ho, hex, hdd, _, _, _, hf, hn⟩ := hS
        have le := once_le xs []
        have le2 : (once xs).length ≤ xs.length := by unfold once; simpa using le
        have I2 : Inv X pins σ H1 _ := I1.kept (t' := tk) fun b o e => hk b o (Heap.lt_size e) e
        refine call_len_set ho hex hdd hf (by rw [hn]; omega) ⟨.int ((once xs).length : Nat), H1, I2.tok _, ⟨_, by rw [hn]⟩, hq φ1 H1 _ e1 s1 rfl⟩
      · cases g4
end
end CL
end

section
/-! part CLCal -/
set_option Elab.async false
set_option linter.all false
set_option maxRecDepth 100000
/-! CLCal: defs by name, for the printer; texts walked too. -/
namespace CL
open PySem PySem.Spec PyProof.Rows L2

theorem hu5_of {A : Around} {k : Nat} (hr : Room k A) : A.units + 65 < cLine := by have := hr.un; omega
/-- a def of the module that may be called by its name -/
structure CalG (P : Program) (w : World) (K : PySem.W.Frag) (mg : Str → Option Value) (base : Heap) (k : Nat) (x : Str) (F : DF) : Prop where
  ex : ∃ (f : Addr) (fd : FuncData) (ps : List Str), FnG P w K mg base CX0 k f fd ps (spF K mg F) ∧ mg x = some (.ref f) ∧ PySem.W.keepIn K (.ref f) = true ∧ Binds K fd ps []
/-- a def as the module has it -/
structure DefG (K : PySem.W.Frag) (mg : Str → Option Value) (x : Str) (st : Stmt) (ps : List Str) : Prop where
  ex : ∃ (f : Addr) (fd : FuncData), Fun K x x st f fd ∧ mg x = some (.ref f) ∧ Binds K fd ps []
theorem calG {P : Program} {w : World} {K : PySem.W.Frag} {mg : Str → Option Value} {base : Heap} {x : Str} {st : Stmt} {N ps : List Str} {k : Nat} {G : Nat → W → So → M W} {d : DS} {F : DF} (D : DefG K mg x st ps) (hG : GcOk G) (Sc : FnScope N ps (defScope st))
    (hbody : ∀ (f : Addr) (cdv : Value) (A : Around) (outer : List Env) (s : Shared) (H : Hp) (E : XK), A.guards = some [] → Room k (A.deeper (envOfC x (defScope st) s.heap.objs.size f cdv)) → SSs (cxOf CX0 P w K mg base N x (defScope st) f cdv A outer s H E).nox E (defBody st) d)
    (hF : F = fnB G ps.length N.length d := by rfl) : CalG P w K mg base (k + 1) x F := by
  subst hF
  obtain ⟨f, fd, h1, h2, h3⟩ := D.ex
  exact ⟨f, fd, ps, mk_fn hG h1 Sc (hbody f), h2, h1.kp, h3⟩
def noF : DF := fun _ _ => none
theorem calG_none {P : Program} {w : World} {K : PySem.W.Frag} {mg : Str → Option Value} {base : Heap} {x : Str} {st : Stmt} {ps : List Str} {k : Nat} (D : DefG K mg x st ps) : CalG P w K mg base k x noF := by
  obtain ⟨f, fd, h1, h2, h3⟩ := D.ex
  refine ⟨f, fd, ps, ⟨fun vs H Q E h => ?_, fun A outer s H args us vs Q E _ _ _ _ _ h => ?_⟩, h2, h1.kp, h3⟩
  · obtain ⟨_, _, _, _, _, _, h, _⟩ := h; cases h
  · obtain ⟨_, _, _, _, _, _, h, _⟩ := h; cases h
theorem CalG.mono {P : Program} {w : World} {K : PySem.W.Frag} {mg : Str → Option Value} {base : Heap} {x : Str} {j k : Nat} {F : DF} (c : CalG P w K mg base j x F) (h : j ≤ k) : CalG P w K mg base k x F := by
  obtain ⟨f, fd, ps, h1, h2⟩ := c.ex
  exact ⟨f, fd, ps, h1.mono h, h2⟩
section
variable {X : Cx} {E : XK} {pos p : Pos} {a : Expr} {es : List Expr} {das : DA} {x : Str} {F : DF} {j k : Nat}
theorem e_call (c : CalG X.prog X.w X.K X.mg X.base k x F) (hgd : X.A.guards = some []) (hr : Room j X.A) (ha : SA X E (a :: es) das) (hk : k ≤ j := by decide) (hg : Gl X x := by rfl) (hdb : (x == ("__debug__" : Str)) = false := by decide)
    (he : starEach (a :: es) X.env = (false, eval a X.env) :: starEach es X.env := by rfl) (hpl : (backTo pos (starEach es X.env)).any (·.1) = false := by rfl) : SE X E (.Call (.Name x p) (a :: es) [] pos) (dFn F das) := by
  obtain ⟨f, fd, ps, h1, h2, h3, h4⟩ := c.ex
  exact e_fn h1 hgd (hr.mono hk) h2 h3 h4 pass0 ha hg hdb he hpl
theorem e_call0 (c : CalG X.prog X.w X.K X.mg X.base k x F) (hgd : X.A.guards = some []) (hr : Room j X.A) (hk : k ≤ j := by decide) (hg : Gl X x := by rfl) (hdb : (x == ("__debug__" : Str)) = false := by decide) : SE X E (.Call (.Name x p) [] [] pos) (dFn F dNil) := by
  obtain ⟨f, fd, ps, h1, h2, h3, h4⟩ := c.ex
  exact e_fn0 h1 hgd (hr.mono hk) h2 h3 h4 pass0 hg hdb
theorem e_defG {st : Stmt} {ps : List Str} (D : DefG X.K X.mg x st ps) (hg : Gl X x := by rfl) (hd : (x == ("__debug__" : Str)) = false := by decide) : SE X E (.Name x p) (dG x) := by
  obtain ⟨f, fd, h1, h2, h3⟩ := D.ex
  exact e_def h2 hg hd
/-- a table of defs -/
def tabF (l : List (Str × DF)) (x : Str) : Option DF := l.lookup x
theorem fun_name {K : PySem.W.Frag} {x y q q' : Str} {st st' : Stmt} {f : Addr} {fd fd' : FuncData} (h : Fun K x q st f fd) (h' : Fun K y q' st' f fd') : x = y := by
  obtain ⟨oc, od, kV, doc, pm, an, cdv, ct, osl, rfl, lk, _⟩ := h.ex
  obtain ⟨oc', od', kV', doc', pm', an', cdv', ct', osl', rfl, lk', _⟩ := h'.ex
  rw [lk] at lk'
  have e := Option.some.inj lk'
  injection e with _ _ e _
  injection e with e
  exact congrArg FuncData.name e
theorem look_mem {β : Type} : ∀ {l : List (Str × β)} {x : Str} {b : β}, l.lookup x = some b → (x, b) ∈ l
  | (y, c) :: l, x, b, h => by
    rw [List.lookup_cons] at h
    by_cases e : (x == y) = true
    · rw [e] at h; cases h; rw [eq_of_beq e]; exact List.mem_cons_self
    · rw [Bool.not_eq_true] at e; rw [e] at h; exact List.mem_cons_of_mem _ (look_mem h)
theorem e_heldT (i : Nat) {l : List (Str × DF)} (hT : ∀ q ∈ l, CalG X.prog X.w X.K X.mg X.base k q.1 q.2) (hD : ∀ q ∈ l, ∃ st ps, DefG X.K X.mg q.1 st ps) (hgd : X.A.guards = some []) (hr : Room j X.A) (ha : SA X E (a :: es) das) (hk : k ≤ j := by decide)
    (hN : X.N[i]? = some x := by rfl) (hv : Vis X.env.scope x := by first | exact Or.inl rfl | exact Or.inr (Or.inl rfl) | exact Or.inr (Or.inr rfl)) (hdb : (x == ("__debug__" : Str)) = false := by decide) (hcd : (x == ("__classdict__" : Str)) = false := by decide)
    (he : starEach (a :: es) X.env = (false, eval a X.env) :: starEach es X.env := by rfl) (hpl : (backTo pos (starEach es X.env)).any (·.1) = false := by rfl) : SE X E (.Call (.Name x p) (a :: es) [] pos) (dHeld i (tabF l) das) := by
  refine e_held (CX := CX0) (k := k) i (fun y F h => ?_) (fun y z f hy hz my mz => ?_) hgd (hr.mono hk) pass0 ha hN hv hdb hcd he hpl
  · obtain ⟨f, fd, ps, h1, h2, h3, h4⟩ := (hT _ (look_mem h)).ex
    exact ⟨f, h2, ⟨fd, ps, h1, h3, h4⟩⟩
  · obtain ⟨b1, h1⟩ := Option.isSome_iff_exists.mp hy
    obtain ⟨b2, h2⟩ := Option.isSome_iff_exists.mp hz
    obtain ⟨_, _, f1, _, F1, m1, _⟩ := hD _ (look_mem h1)
    obtain ⟨_, _, f2, _, F2, m2, _⟩ := hD _ (look_mem h2)
    rw [my] at m1; rw [mz] at m2
    cases m1; cases m2
    exact fun_name F1 F2
/-! ### a text is walked -/
def signs (z : Str) : List PyData := z.cps.toList.map fun c => .str ⟨#[c]⟩
def strW : W → Option Str
  | .d (.str z) => some z
  | _ => none
def dSigns (d : DE) : DI := fun σ S => bnd (d σ S) fun w S1 => giv ((strW w).bind fun z => if small z.length = true then some (signs z, none) else none) S1
theorem its_it {K : PySem.W.Frag} {z : Str} {φ : Fi} {H : Hp} : ItD K (Its z) (signs z) none φ H where
  go := fun φ2 H2 S i d e s _ hi => by
    unfold signs at hi
    rw [List.getElem?_map] at hi
    obtain ⟨c, h1, h2⟩ := Option.map_eq_some_iff.mp hi
    subst h2
    have hlt := (List.getElem?_eq_some_iff.mp h1).1
    refine ⟨show i < z.cps.size by simpa using hlt, fun x H' ⟨e1, c', h3, h4⟩ => ?_⟩
    subst e1; subst h4
    have h1' : z.cps[i]? = some c := by simpa using h1
    rw [h1'] at h3; cases h3
    exact ⟨.refl, s, rfl⟩
  stop := fun φ2 H2 S e s _ => by show z.cps.size ≤ _; simp [signs]
theorem i_str {tg : Expr} {e : Expr} {d : DE} (h : SE X E e d) : SI X E tg e (dSigns d) := by
  refine PIw (pi_str h) fun σV H R q => ?_
  obtain ⟨φ, σ, S, r', hs, hen, hd, hq⟩ := q
  unfold dSigns at hd
  match ha : d σ S, hd with
  | none, hd => cases hd
  | some (.xc x S1), hd => cases hd; exact ⟨φ, σ, S, .xc x S1, hs, hen, ha, hq⟩
  | some (.ok w S1), hd =>
    refine ⟨φ, σ, S, .ok w S1, hs, hen, ha, fun φ1 H1 v e1 s1 x1 => ?_⟩
    rw [bnd_ok] at hd
    match hg : (strW w).bind (fun z => if small z.length = true then some (signs z, (none : Option Nat)) else none), hd with
    | none, hd => cases hd
    | some q, hd =>
      cases hd
      obtain ⟨z, g1, g2⟩ := Option.bind_eq_some_iff.mp hg
      split at g2
      · rename_i hz
        cases g2
        unfold strW at g1
        split at g1
        · cases g1
          cases x1
          exact ⟨z, rfl, hq φ1 H1 _ e1 s1 its_it (by simp only [signs, List.length_map]; exact small_le hz)⟩
        · cases g1
      · cases g2
end
end CL
end

section
/-! part CLAny -/
set_option Elab.async false
set_option linter.all false
set_option maxRecDepth 100000
/-! CLAny: rules that look at the value: slices, what is walked, constants of the module. -/
namespace CL
section
open PySem in theorem bo_len : bootBuiltins "len" = some (.builtin "len") := by decide +kernel
open PySem in theorem bo_all : bootBuiltins "all" = some (.builtin "all") := by decide +kernel
open PySem in theorem bo_repr : bootBuiltins "repr" = some (.builtin "repr") := by decide +kernel
open PySem in theorem bo_sorted : bootBuiltins "sorted" = some (.builtin "sorted") := by decide +kernel
open PySem in theorem bo_min : bootBuiltins "min" = some (.builtin "min") := by decide +kernel
open PySem in theorem bo_isinstance : bootBuiltins "isinstance" = some (.builtin "isinstance") := by decide +kernel
open PySem in theorem bo_any : bootBuiltins "any" = some (.builtin "any") := by decide +kernel
open PySem in theorem bo_max : bootBuiltins "max" = some (.builtin "max") := by decide +kernel
open PySem in theorem bo_sum : bootBuiltins "sum" = some (.builtin "sum") := by decide +kernel
open PySem in theorem bo_abs : bootBuiltins "abs" = some (.builtin "abs") := by decide +kernel
open PySem in theorem bo_int : bootBuiltins "int" = some (.type "int") := by decide +kernel
open PySem in theorem bo_bool : bootBuiltins "bool" = some (.type "bool") := by decide +kernel
open PySem in theorem bo_str : bootBuiltins "str" = some (.type "str") := by decide +kernel
open PySem in theorem bo_list : bootBuiltins "list" = some (.type "list") := by decide +kernel
open PySem in theorem bo_tuple : bootBuiltins "tuple" = some (.type "tuple") := by decide +kernel
open PySem in theorem bo_set : bootBuiltins "set" = some (.type "set") := by decide +kernel
open PySem in theorem bo_dict : bootBuiltins "dict" = some (.type "dict") := by decide +kernel
open PySem in theorem bo_zip : bootBuiltins "zip" = some (.type "zip") := by decide +kernel
open PySem in theorem bo_range : bootBuiltins "range" = some (.type "range") := by decide +kernel
end
open PySem PySem.Spec PyProof.Rows L2
section
variable {X : Cx} {E : XK} {pos p : Pos} {a b : Expr} {da db : DE}
def cutA (lo hi : Option Int) : PyData → Option PyData
  | .tuple xs => some (.tuple (cutG xs lo hi))
  | .list xs => some (.list (cutG xs lo hi))
  | .str z => if small z.length = true then some (.str (Txt.slice z lo hi)) else none
  | _ => none
def dSlA (a : DE) (l h : DO) : DE := fun σ S => bnd (a σ S) fun w S1 => bnd (l σ S1) fun lo S2 => bnd (h σ S2) fun hi S3 => giv ((rd S3 w).bind fun x => (cutA lo hi x).map W.d) S3
theorem slA_rd {dl dh : DO} (σV : L2.St) (H : Hp) (Q : VK) (h : tE X.K X.mg E (dSlA da dl dh) σV H Q) :
    tSl (fun x lo hi H Q => (rSlA X.K x lo hi H Q ∨ C8.rSlX x lo hi H Q) ∨ rSlL X.K x lo hi H Q) (tE X.K X.mg E da) (tO X.K X.mg E dl) (tO X.K X.mg E dh) σV H Q := by
  obtain ⟨φ, σ, S, r', hs, he, hd, hq⟩ := h
  unfold dSlA at hd
  match ha : da σ S, hd with
  | none, hd => cases hd
  | some (.xc x S1), hd => cases hd; exact ⟨φ, σ, S, .xc x S1, hs, he, ha, hq⟩
  | some (.ok x S1), hd =>
    refine ⟨φ, σ, S, .ok x S1, hs, he, ha, fun φ1 H1 v1 e1 s1 x1 => ?_⟩
    rw [bnd_ok] at hd
    match hb : dl σ S1, hd with
    | none, hd => cases hd
    | some (.xc y S2), hd => cases hd; exact ⟨φ1, σ, S1, .xc y S2, s1, he.mono e1, hb, XR.keep e1 hq⟩
    | some (.ok lo S2), hd =>
      refine ⟨φ1, σ, S1, .ok lo S2, s1, he.mono e1, hb, fun φ2 H2 e2 s2 => ?_⟩
      rw [bnd_ok] at hd
      have e12 := e1.trans e2
      match hc : dh σ S2, hd with
      | none, hd => cases hd
      | some (.xc y S3), hd => cases hd; exact ⟨φ2, σ, S2, .xc y S3, s2, he.mono e12, hc, XR.keep e12 hq⟩
      | some (.ok hi S3), hd =>
        refine ⟨φ2, σ, S2, .ok hi S3, s2, he.mono e12, hc, fun φ3 H3 e3 s3 => ?_⟩
        rw [bnd_ok] at hd
        have e13 := e12.trans e3
        have x3 := (x1.mono e2).mono e3
        match hg : (rd S3 x).bind fun x => (cutA lo hi x).map W.d, hd with
        | none, hd => cases hd
        | some w, hd =>
          cases hd
          obtain ⟨y, h1, h2⟩ := Option.bind_eq_some_iff.mp hg
          obtain ⟨z, h3, h4⟩ := Option.map_eq_some_iff.mp h2
          subst h4
          unfold cutA at h3
          split at h3
          · cases h3
            obtain ⟨l, vs, e5, f1, r1⟩ := tup_of x3 h1
            refine .inl (.inl ⟨l, vs, e5, f1.sq, fun hw => ?_, fun hw p hp => ?_⟩)
            · have e6 := sIx_whole (lo := lo) (hi := hi) r1.length.symm hw
              exact hq φ3 H3 _ e13 s3 ⟨l, vs, rfl, f1, by rw [e6]; exact r1⟩
            · have e := Ext.new (o := .tup (cutV vs lo hi)) hp s3
              exact hq φ3 _ _ (e13.trans e) (s3.new hp) ⟨p, _, rfl, upd_same, RDs.mono e _ _ r1.cutG⟩
          · cases h3
            obtain ⟨l, vs, e5, f1, r1⟩ := seqL_of s3 x3 h1
            refine .inr ⟨l, vs, e5, f1, fun p hp => ?_⟩
            have e := Ext.new (o := .lst (cutV vs lo hi)) hp s3
            exact hq φ3 _ _ (e13.trans e) (s3.new hp) ⟨p, _, rfl, newFL s3 hp, RDs.mono e _ _ r1.cutG⟩
          · split at h3
            · rename_i hz
              cases h3
              exact .inl (.inr ⟨_, str_of x3 h1, small_le hz, hq φ3 H3 _ e13 s3 rfl⟩)
            · cases h3
          · cases h3
theorem e_slA {lo hi : Option Expr} {dl dh : DO} {p2 : Pos} (ha : SE X E a da) (hl : SO X E lo dl) (hh : SO X E hi dh) : SE X E (.Subscript a (.Slice lo hi none p2) pos) (dSlA da dl dh) :=
  PEw (pe_slice ((sl_tupA.or C8.sl_txt).or sl_list) ha hl hh) slA_rd
theorem pi_any {tg l : Expr} {tl : TE} (hl : PE X l tl) : PI X tg l (fun σ H R => tl σ H fun x H1 => (∃ z, x = .str z ∧ R (Its z) H1) ∨ ∃ a xs, x = .ref a ∧
    ((SqL X.K H1 a xs ∧ (xs.length ≤ sizeLine → R (Itl X.K a) H1)) ∨ (SqT X.K H1 a xs ∧ (xs.length ≤ sizeLine → R (Itt X.K a) H1)))) := by
  refine ⟨fun pins s σ H R I h => thn (hl.run pins s σ H _ I h) fun v s1 ⟨x, H1, I1, r1, q1⟩ => ?_⟩
  rcases q1 with ⟨z, e, q⟩ | ⟨a, xs, e, q⟩
  · subst e
    obtain ⟨t, rfl⟩ := r1
    cases hz : z.cps.all (· < 128) with
    | false => exact wpAny_pyIter_wide hz (pi_one (tk := s1.toks) I1 _ (turn_str _ z t "str_iterator" (.inr rfl)) ⟨_, Heap.get?_push_size _ rfl, rfl, rfl⟩ q)
    | true => exact wpAny_pyIter_ascii hz (pi_one (tk := s1.toks) I1 _ (turn_str _ z t "str_ascii_iterator" (.inl rfl)) ⟨_, Heap.get?_push_size _ rfl, rfl, rfl⟩ q)
  · subst e
    cases r1
    rcases q with ⟨hq, q⟩ | ⟨hq, q⟩
    · obtain ⟨its, rv, pl, hz⟩ := I1.list hq
      exact wpAny_pyIter_list pl.isList (pi_one (tk := s1.toks) I1 _ (turn_list a _) ⟨_, Heap.get?_push_size _ rfl, rfl, rfl⟩ (q hz))
    · obtain ⟨its, rv, pl, hz⟩ := I1.tuple hq
      exact wpAny_pyIter_tuple (show s1.heap.IsTuple a its.toArray from pl) (pi_one (tk := s1.toks) I1 _ (turn_tuple a _) ⟨_, Heap.get?_push_size _ rfl, rfl, rfl⟩ (q hz))
/-- the items of what is walked -/
def anyW (S : So) : W → Option (List PyData × Option Nat)
  | .d (.list xs) => some (xs, none)
  | .d (.tuple xs) => some (xs, none)
  | .d (.str z) => if small z.length = true then some (signs z, none) else none
  | .r n => match S[n]? with
    | some (.lst xs) => some (xs, some n)
    | _ => none
  | _ => none
def dAny (d : DE) : DI := fun σ S => bnd (d σ S) fun w S1 => giv (anyW S1 w) S1
theorem i_any {tg e : Expr} {d : DE} (he : SE X E e d) : SI X E tg e (dAny d) := by
  refine PIw (pi_any he) fun σV H R q => ?_
  obtain ⟨φ, σ, S, r', hs, hen, hd, hq⟩ := q
  unfold dAny at hd
  match ha : d σ S, hd with
  | none, hd => cases hd
  | some (.xc x S1), hd => cases hd; exact ⟨φ, σ, S, .xc x S1, hs, hen, ha, hq⟩
  | some (.ok w S1), hd =>
    refine ⟨φ, σ, S, .ok w S1, hs, hen, ha, fun φ1 H1 v e1 s1 x1 => ?_⟩
    rw [bnd_ok] at hd
    match hg : anyW S1 w, hd with
    | none, hd => cases hd
    | some q, hd =>
      cases hd
      unfold anyW at hg
      split at hg
      · cases hg
        obtain ⟨c, vs, rfl, h1, h2⟩ := x1
        exact .inr ⟨c, vs, rfl, .inl ⟨h1.sq, fun hz => hq φ1 H1 _ e1 s1 (itl_it h1 h2) (by rw [← h2.length]; exact hz)⟩⟩
      · cases hg
        obtain ⟨c, vs, rfl, h1, h2⟩ := x1
        exact .inr ⟨c, vs, rfl, .inr ⟨h1.sq, fun hz => hq φ1 H1 _ e1 s1 (itt_it h1 h2) (by rw [← h2.length]; exact hz)⟩⟩
      · split at hg
        · rename_i hz
          cases hg
          cases x1
          exact .inl ⟨_, rfl, hq φ1 H1 _ e1 s1 its_it (by simp only [signs, List.length_map]; exact small_le hz)⟩
        · cases hg
      · rename_i n
        split at hg
        · rename_i xs hS
          cases hg
          obtain ⟨c, hc, rfl⟩ := x1
          obtain ⟨vs, q1, q2⟩ := s1.ob n c _ hc hS
          exact .inr ⟨c, vs, rfl, .inl ⟨.of q1, fun hz => hq φ1 H1 _ e1 s1 (itr_it hc) (by rw [← q2.length]; exact hz)⟩⟩
        · cases hg
      · cases hg
theorem e_globS {x : Str} {z : Str} (h : ∃ t, X.mg x = some (.str z t)) (hg : Gl X x := by rfl) (hd : (x == ("__debug__" : Str)) = false := by decide) : SE X E (.Name x p) (dC (.str z)) := by
  obtain ⟨t, h⟩ := h
  exact e_glob (v := .str z) h ⟨t, rfl⟩ (fun _ _ => rfl) hg hd
theorem e_globI {x : Str} {z : Int} (h : ∃ t, X.mg x = some (.int z t)) (hg : Gl X x := by rfl) (hd : (x == ("__debug__" : Str)) = false := by decide) : SE X E (.Name x p) (dC (.int z)) := by
  obtain ⟨t, h⟩ := h
  exact e_glob (v := .int z) h ⟨t, rfl⟩ (fun _ _ => rfl) hg hd
end
end CL
end

section
/-! part CLRev -/
set_option Elab.async false
set_option linter.all false
set_option maxRecDepth 100000
/-! CLRev: x[::-1] of a list or a tuple. -/
namespace CL
open PySem PySem.Spec PyProof.Rows L2
open HT (slicePart_)
section
variable {P : Program} {w : World} {A : Around} {E : Value → Shared → Prop} {s : Shared}
theorem pick_all {α : Type} (ys : List α) : (List.range ys.length).filterMap (fun k => ys[k]?) = ys := by
  induction ys with
  | nil => rfl
  | cons y ys ih =>
    rw [List.length_cons, List.range_succ_eq_map, List.filterMap_cons]
    simp only [List.getElem?_cons_zero, List.filterMap_map]
    congr 1
theorem fm_congr {α β : Type} {f g : α → Option β} : ∀ {l : List α}, (∀ x ∈ l, f x = g x) → l.filterMap f = l.filterMap g
  | [], _ => rfl
  | x :: l, h => by
    rw [List.filterMap_cons, List.filterMap_cons, h x List.mem_cons_self, fm_congr fun y hy => h y (List.mem_cons_of_mem _ hy)]
theorem pick_rev (xs : Array Value) : ((List.range xs.size).filterMap fun (k : Nat) => xs[(((xs.size : Int) - 1) + (k : Int) * (-1)).toNat]?) = xs.toList.reverse := by
  have h := pick_all xs.toList.reverse
  rw [List.length_reverse, Array.length_toList] at h
  rw [← h]
  refine fm_congr fun k hk => ?_
  have hk := List.mem_range.mp hk
  have e : (((xs.size : Int) - 1) + (k : Int) * (-1)).toNat = xs.size - 1 - k := by omega
  rw [e, List.getElem?_reverse (by simpa using hk), Array.getElem?_toList, Array.length_toList]
theorem tup_rev {t sl : Addr} {items : Array Value} {vl vu vs : Value} {Q : Value → Shared → Prop} (ht : IsTup s.heap t items) (hs : s.heap.IsSliceOf sl vl vu vs) (pl : IsPart vl none) (pu : IsPart vu none) (ps : IsPart vs (some (-1)))
    (h : Q (.ref s.heap.objs.size) { s with heap := s.heap.push { cls := .type "tuple", data := .seq items.toList.reverse.toArray } }) (hz : items.size ≤ sizeLine) : wpAny (model P w) A (getItem (.ref t) (.ref sl)) Q E s := by
  have size : sizeOk (.seq items.toList.reverse.toArray) := by
    show items.toList.reverse.toArray.size ≤ sizeLine
    rw [List.size_toArray, List.length_reverse, Array.length_toList]
    exact hz
  obtain ⟨os, ho, hc, hd⟩ := id hs
  have ty : s.TypeIs (.ref sl) "slice" := ⟨os, ho, hc⟩
  unfold getItem
  try with_reducible refine wpAny_holding ?_
  first | refine wpAny_bind (wpAny_pure ?_) | skip
  refine wpAny_bind (wpAny_sequenceKey ht.typeIs (by decide) (wpAny_bind (wpAny_callSpecial?_slot (name := Str.ofString "__getitem__") ht.typeIs PyProof.Rows.slot_tuple_getitem (wpAny_call_entry PyProof.Rows.slot_tuple_getitem ht.typeIs entry_tuple_getitem ?_ (args_tuple_getitem _ _)))))
  refine wpAny_bind (m := Builtin.Tuple.tupleItemsOf (.ref t)) (tupleItemsOf_ ht (wpAny_bind (wpAny_typeOf ty ?_)))
  rw [if_pos (by decide)]
  refine wpAny_bind (m := Builtin.Slice.sliceApplied (.ref sl) (pure (items.size : Int))) ?_
  unfold Builtin.Slice.sliceApplied Builtin.Slice.sliceFields
  refine wpAny_bind (wpAny_bind (wpAny_field ho hd (x := vl) rfl (wpAny_bind (wpAny_field ho hd (x := vu) rfl (wpAny_bind (wpAny_field ho hd (x := vs) rfl (wpAny_pure ?_)))))))
  refine wpAny_bind (slicePart_ ps ?_)
  show wpAny _ _ (if ((-1 : Int) == 0) = true then _ else _) _ _ s
  rw [if_neg (by decide)]
  refine wpAny_bind (slicePart_ pl (wpAny_bind (slicePart_ pu (wpAny_bind (wpAny_pure ?_)))))
  have adj : Builtin.Slice.sliceAdjust none none (-1) (items.size : Int) = ((items.size : Int) - 1, -1) := rfl
  have plc : Builtin.Slice.slicePlaces ((items.size : Int) - 1) (-1) (-1) = items.size := by
    unfold Builtin.Slice.slicePlaces
    rw [if_neg (by decide)]
    split <;> simp <;> omega
  show wpAny _ _ (match Builtin.Slice.sliceAdjust none none (-1) (items.size : Int) with | (lo, hi) => pure (lo, (-1 : Int), Builtin.Slice.slicePlaces lo hi (-1))) _ _ s
  rw [adj]
  show wpAny _ _ (pure ((items.size : Int) - 1, (-1 : Int), Builtin.Slice.slicePlaces ((items.size : Int) - 1) (-1) (-1))) _ _ s
  rw [plc]
  refine wpAny_pure ?_
  have no : ¬ (((items.size : Int) - 1 == 0 && (-1 : Int) == 1 && items.size == items.size) = true) := by simp
  show wpAny _ _ (if ((items.size : Int) - 1 == 0 && (-1 : Int) == 1 && items.size == items.size) = true then _ else _) _ _ s
  rw [if_neg no, pick_rev]
  first
    | exact wpAny_bind (m := Builtin.Tuple.tupleExact _) (wpAny_newObj_type (wpAny_pure ⟨_, rfl, wpAny_pure h⟩) size)
    | exact wpAny_bind (m := Builtin.Tuple.tupleExact _) (wpAny_newObj_type (wpAny_bind (wpAny_pure (wpAny_pure ⟨_, rfl, wpAny_pure h⟩))) size)
    | exact wpAny_bind (wpAny_bind (m := Builtin.Tuple.tupleExact _) (wpAny_newObj_type (wpAny_pure (wpAny_pure ⟨_, rfl, wpAny_pure h⟩)) size))
    | exact wpAny_bind (wpAny_bind (m := Builtin.Tuple.tupleExact _) (wpAny_newObj_type (wpAny_pure ⟨_, rfl, wpAny_pure h⟩) size))
end
section
variable {X : Cx} {E : XK} {pos p : Pos} {a : Expr} {da : DE}
def tRevT (K : PySem.W.Frag) (te : TE) : TE := fun σ H Q => te σ H fun x H1 => ∃ a xs, x = .ref a ∧ SqT K H1 a xs ∧ ∀ p, H1 p = none → Q (.ref p) (upd H1 p (.tup xs.reverse))
theorem pe_revT {e : Expr} {te : TE} {k : Nat} {p1 p2 p3 pos : Pos} (he : PE X e te) : PE X (.Subscript e (.Slice none none (some (.UnaryOp .USub (.Constant (.int 1) k p1) p2)) p3) pos) (tRevT X.K te) := by
  refine ⟨fun pins s σ H Q I h => Subscript_ (thn (he.run pins s σ H _ I h) fun v s1 ⟨x, H1, I1, r1, c, xs, ex, hx, q⟩ => ?_)⟩
  subst ex
  cases r1
  have st : PO X (some (.UnaryOp .USub (.Constant (.int 1) k p1) p2)) (tPart (tUn (rU fun i => .int (-i)) (tC (.int 1)))) := po_some (pe_un un_neg pe_int)
  refine wpAny_Slice (thn (po_none.run pins s1 σ H1 (fun o H2 => o = none ∧ H2 = H1) I1 ⟨rfl, rfl⟩) fun vl s2 ⟨l, H2, I2, pl, el, e2⟩ => ?_)
  subst el; subst e2
  refine thn (po_none.run pins s2 σ H2 (fun o H3 => o = none ∧ H3 = H2) I2 ⟨rfl, rfl⟩) fun vu s3 ⟨u, H3, I3, pu, eu, e3⟩ => ?_
  subst eu; subst e3
  refine thn (st.run pins s3 σ H3 (fun o H4 => o = some (-1) ∧ H4 = H3) I3 ⟨1, rfl, -1, rfl, rfl, rfl⟩) fun vs s4 ⟨o, H4, I4, ps, eo, e4⟩ => ?_
  subst eo; subst e4
  have I5 : Inv X pins σ H4 { s4 with heap := s4.heap.push { cls := .type "slice", data := .fields #[vl, vu, vs] } } := I4.kept (t' := s4.toks) fun b ob q => Heap.get?_push_of_some _ q
  obtain ⟨its, r, ht, hz⟩ := I5.tuple hx
  show wpAny (model X.prog X.w) X.A (subscriptTail e (.Slice none none (some (.UnaryOp .USub (.Constant (.int 1) k p1) p2)) p3) (.ref c) (.ref s4.heap.objs.size)) (EP X pins σ Q) X.xe { s4 with heap := s4.heap.push { cls := .type "slice", data := .fields #[vl, vu, vs] } }
  refine tail_any (ops := [.ref c, .ref s4.heap.objs.size]) ht.typeIs PyProof.Rows.slot_tuple_getitem.lookup (tup_rev ht (Heap.IsSliceOf.new _ vl vu vs) pl pu ps ?_ (by rw [List.size_toArray, ← r.length]; exact hz)) (by with_unfolding_all rfl)
  refine ⟨.ref _, _, I5.laid (t' := s4.toks) (o := .tup xs.reverse) (fun b ob q => Heap.get?_push_of_some _ q) (Nat.le_refl _) ?_, rfl, q _ (I5.hok.fresh (Nat.le_refl _))⟩
  exact ⟨by rw [List.length_reverse]; exact hz, _, r.reverse, IsTup.new _ _⟩
def revP : PyData → Option PyData
  | .tuple xs => some (.tuple xs.reverse)
  | _ => none
theorem e_revT {k : Nat} {p1 p2 p3 : Pos} (ha : SE X E a da) : SE X E (.Subscript a (.Slice none none (some (.UnaryOp .USub (.Constant (.int 1) k p1) p2)) p3) pos) (dUn (on1 revP) da) := by
  refine PEw (pe_revT ha) fun σV H Q h => ?_
  obtain ⟨φ, σ, S, r, hs, he, hd, hq⟩ := un_rd (E := E) σV H Q h
  refine ⟨φ, σ, S, r, hs, he, hd, ?_⟩
  cases r with
  | xc y S' => exact hq
  | ok w S' =>
    intro φ1 H1 v e1 s1 x1
    obtain ⟨φ2, S2, x, z, g1, g2, g3, g4⟩ := hq φ1 H1 v e1 s1 x1
    obtain ⟨c, d, h1, h2, rfl⟩ := on1_of g3
    unfold revP at h2
    split at h2
    · cases h2
      obtain ⟨l, vs, rfl, f1, r1⟩ := tup_of g2 h1
      refine ⟨l, vs, rfl, f1.sq, fun p hp => ?_⟩
      have e := Ext.new (o := .tup vs.reverse) hp g1
      exact g4 φ2 _ _ e (g1.new hp) ⟨p, _, rfl, upd_same, RDs.mono e _ _ (RDs.reverse r1)⟩
    · cases h2
end
end CL
end

section
/-! part CLMath -/
set_option Elab.async false
set_option linter.all false
set_option maxRecDepth 100000
/-! CLMath: what the denotations give, by wishes. -/
namespace CL
open PySem PySem.Spec PyProof.Rows L2

/-- it ends, and P holds of its end -/
def Ret {α : Type} (m : M α) (P : α → So → Prop) : Prop := match m with
  | some (.ok a S) => P a S
  | _ => False
@[simp] theorem Ret_ok {α : Type} (a : α) (S : So) (P : α → So → Prop) : Ret (some (.ok a S)) P ↔ P a S := Iff.rfl
@[simp] theorem Ret_none {α : Type} (P : α → So → Prop) : Ret (none : M α) P ↔ False := Iff.rfl
@[simp] theorem Ret_xc {α : Type} (x : XV) (S : So) (P : α → So → Prop) : Ret (some (.xc x S) : M α) P ↔ False := Iff.rfl
@[simp] theorem Ret_bnd {α β : Type} (m : M α) (f : α → So → M β) (P : β → So → Prop) : Ret (bnd m f) P ↔ Ret m fun a S => Ret (f a S) P := by
  unfold bnd Ret
  cases m with
  | none => rfl
  | some r => cases r <;> rfl
@[simp] theorem Ret_giv {α : Type} (o : Option α) (S : So) (P : α → So → Prop) : Ret (giv o S) P ↔ ∃ a, o = some a ∧ P a S := by
  cases o <;> simp [giv]
theorem Ret_gmap {α β : Type} (o : Option β) (f : β → α) (S : So) (P : α → So → Prop) : Ret (giv (o.map f) S) P ↔ ∃ b, o = some b ∧ P (f b) S := by
  cases o <;> simp [giv]
theorem Ret_gbind {α β : Type} (o : Option β) (f : β → Option α) (S : So) (P : α → So → Prop) : Ret (giv (o.bind f) S) P ↔ ∃ b, o = some b ∧ Ret (giv (f b) S) P := by
  cases o <;> simp [giv]
theorem Ret.mono {α : Type} {m : M α} {P Q : α → So → Prop} (h : Ret m P) (k : ∀ a S, P a S → Q a S) : Ret m Q := by
  unfold Ret at *
  split at h
  · exact k _ _ h
  · exact h.elim
theorem Ret.eq {α : Type} {m : M α} {a : α} {S : So} (h : Ret m fun b T => b = a ∧ T = S) : m = some (.ok a S) := by
  unfold Ret at h
  split at h
  · rw [h.1, h.2]
  · exact h.elim
theorem Ret.of {α : Type} {m : M α} {a : α} {S : So} {P : α → So → Prop} (e : m = some (.ok a S)) (h : P a S) : Ret m P := by rw [e]; exact h
def RetS (o : Option Out) (N : En → So → Prop) (R : W → So → Prop) : Prop := match o with
  | some (.nx σ S) => N σ S
  | some (.rt w S) => R w S
  | _ => False
section
variable {N : En → So → Prop} {R : W → So → Prop} {σ : En} {S : So}
@[simp] theorem RetS_nx : RetS (some (.nx σ S)) N R ↔ N σ S := Iff.rfl
@[simp] theorem RetS_rt (w : W) : RetS (some (.rt w S)) N R ↔ R w S := Iff.rfl
@[simp] theorem RetS_none : RetS none N R ↔ False := Iff.rfl
@[simp] theorem RetS_cons (a b : DS) : RetS (sCons a b σ S) N R ↔ RetS (a σ S) (fun σ1 S1 => RetS (b σ1 S1) N R) R := by
  unfold sCons RetS
  cases a σ S with
  | none => rfl
  | some o => cases o <;> rfl
@[simp] theorem RetS_nil : RetS (sNil σ S) N R ↔ N σ S := Iff.rfl
theorem RetS_bnd {α : Type} (m : M α) (f : α → So → Option Out) : RetS (bndS m f) N R ↔ Ret m fun a S => RetS (f a S) N R := by
  unfold bndS RetS Ret
  cases m with
  | none => rfl
  | some r => cases r <;> rfl
@[simp] theorem RetS_set (i : Nat) (d : DE) : RetS (sSet i d σ S) N R ↔ Ret (d σ S) fun w S1 => N (σ.set i (some w)) S1 := RetS_bnd _ _
@[simp] theorem RetS_drop (d : DE) : RetS (sDrop d σ S) N R ↔ Ret (d σ S) fun _ S1 => N σ S1 := RetS_bnd _ _
@[simp] theorem RetS_ret (d : DE) : RetS (sRet d σ S) N R ↔ Ret (d σ S) R := RetS_bnd _ _
theorem RetS_ite {b : Bool} (o o' : Option Out) : RetS (if b = true then o else o') N R ↔ if b = true then RetS o N R else RetS o' N R := by cases b <;> rfl
@[simp] theorem RetS_if (t : DT) (a b : DS) : RetS (sIf t a b σ S) N R ↔ Ret (t σ S) fun k S1 => if k = true then RetS (a σ S1) N R else RetS (b σ S1) N R := by
  unfold sIf
  rw [RetS_bnd]
  simp only [RetS_ite]
theorem Ret_ite {α : Type} {b : Bool} (o o' : M α) (P : α → So → Prop) : Ret (if b = true then o else o') P ↔ if b = true then Ret o P else Ret o' P := by cases b <;> rfl
@[simp] theorem RetS_asg (tg : Tg) (d : DE) : RetS (sAsg tg d σ S) N R ↔ Ret (d σ S) fun w S1 => ∃ σ1, bindT tg w σ = some σ1 ∧ N σ1 S1 := by
  unfold sAsg
  rw [RetS_bnd]
  apply Iff.of_eq
  congr
  funext w S1
  cases h : bindT tg w σ <;> simp [RetS]
@[simp] theorem RetS_par (is : List Nat) (as : DA) : RetS (sPar is as σ S) N R ↔ Ret (as σ S) fun ws S1 => ∃ σ1, setW σ is ws = some σ1 ∧ N σ1 S1 := by
  unfold sPar
  rw [RetS_bnd]
  apply Iff.of_eq
  congr
  funext w S1
  cases h : setW σ is w <;> simp [RetS]
@[simp] theorem RetS_put (d i v : DE) : RetS (sPut d i v σ S) N R ↔ Ret (v σ S) fun x S1 => Ret (d σ S1) fun z S2 => Ret (i σ S2) fun y S3 => ∃ S4, dputW S3 z y x = some S4 ∧ N σ S4 := by
  unfold sPut
  rw [RetS_bnd]
  apply Iff.of_eq
  congr
  funext x S1
  rw [eq_iff_iff, RetS_bnd]
  apply Iff.of_eq
  congr
  funext z S2
  rw [eq_iff_iff, RetS_bnd]
  apply Iff.of_eq
  congr
  funext y S3
  cases h : dputW S3 z y x <;> simp [RetS]
theorem RetS.mono {o : Option Out} {N' : En → So → Prop} {R' : W → So → Prop} (h : RetS o N R) (k1 : ∀ σ S, N σ S → N' σ S) (k2 : ∀ w S, R w S → R' w S) : RetS o N' R' := by
  unfold RetS at *
  split at h
  · exact k1 _ _ h
  · exact k2 _ _ h
  · exact h.elim
end
/-- a def -/
theorem Ret_fnB {G : Nat → W → So → M W} {np nN : Nat} {body : DS} {ws : List W} {S : So} {P : W → So → Prop} (hl : ws.length = np) (h : RetS (body (startW nN ws) S) (fun _ S' => P (.d .none) (S'.take S.length)) fun w S' => Ret (G S.length w S') P) : Ret (fnB G np nN body ws S) P := by
  unfold fnB
  rw [if_pos hl]
  unfold RetS at h
  split at h
  · rename_i e; rw [e]; exact h
  · rename_i e; rw [e]; exact h
  · exact h.elim
section
variable {σ : En} {S : So}
theorem Ret_dFn (F : DF) (as : DA) (P : W → So → Prop) : Ret (dFn F as σ S) P ↔ Ret (as σ S) fun ws S1 => Ret (F ws S1) P := by unfold dFn; simp
theorem Ret_dCons (a : DE) (r : DA) (P : List W → So → Prop) : Ret (dCons a r σ S) P ↔ Ret (a σ S) fun x S1 => Ret (r σ S1) fun xs S2 => P (x :: xs) S2 := by unfold dCons; simp
theorem Ret_dNil (P : List W → So → Prop) : Ret (dNil σ S) P ↔ P [] S := Iff.rfl
theorem Ret_dBin (g : So → W → W → Option W) (a b : DE) (P : W → So → Prop) : Ret (dBin g a b σ S) P ↔ Ret (a σ S) fun x S1 => Ret (b σ S1) fun y S2 => ∃ w, g S2 x y = some w ∧ P w S2 := by unfold dBin; simp
theorem Ret_dUn (g : So → W → Option W) (a : DE) (P : W → So → Prop) : Ret (dUn g a σ S) P ↔ Ret (a σ S) fun x S1 => ∃ w, g S1 x = some w ∧ P w S1 := by unfold dUn; simp
theorem Ret_dCall (g : So → List W → Option W) (as : DA) (P : W → So → Prop) : Ret (dCall g as σ S) P ↔ Ret (as σ S) fun ws S1 => ∃ w, g S1 ws = some w ∧ P w S1 := by unfold dCall; simp
theorem Ret_dCallN (g : So → List W → Option (List PyData)) (as : DA) (P : List PyData → So → Prop) : Ret (dCallN g as σ S) P ↔ Ret (as σ S) fun ws S1 => ∃ w, g S1 ws = some w ∧ P w S1 := by unfold dCallN; simp
theorem Ret_dC (x : PyData) (P : W → So → Prop) : Ret (dC x σ S) P ↔ P (.d x) S := Iff.rfl
theorem Ret_dG (x : Str) (P : W → So → Prop) : Ret (dG x σ S) P ↔ P (.g x) S := Iff.rfl
theorem Ret_dVar (i : Nat) (P : W → So → Prop) : Ret (dVar i σ S) P ↔ ∃ w, σ[i]? = some (some w) ∧ P w S := by
  unfold dVar
  cases h : σ[i]? with
  | none => simp
  | some o => cases o <;> simp
theorem Ret_dIf (t : DT) (a b : DE) (P : W → So → Prop) : Ret (dIf t a b σ S) P ↔ Ret (t σ S) fun k S1 => if k = true then Ret (a σ S1) P else Ret (b σ S1) P := by
  unfold dIf; simp only [Ret_bnd, Ret_ite]
theorem Ret_dFz (d : DN) (P : W → So → Prop) : Ret (dFz d σ S) P ↔ Ret (d σ S) fun xs S1 => P (.d (.list xs)) S1 := by unfold dFz; simp
theorem Ret_dNew (d : DN) (P : W → So → Prop) : Ret (dNew d σ S) P ↔ Ret (d σ S) fun xs S1 => P (.r S1.length) (S1 ++ [.lst xs]) := by unfold dNew; simp
theorem Ret_dLst (as : DA) (P : List PyData → So → Prop) : Ret (dLst as σ S) P ↔ Ret (as σ S) fun ws S1 => ∃ xs, datz ws = some xs ∧ P xs S1 := by unfold dLst; simp
theorem Ret_dTup (as : DA) (P : W → So → Prop) : Ret (dTup as σ S) P ↔ Ret (as σ S) fun ws S1 => ∃ xs, datz ws = some xs ∧ P (.d (.tuple xs)) S1 := by unfold dTup; simp only [Ret_bnd, Ret_gmap]
theorem Ret_dB (d : DE) (P : Bool → So → Prop) : Ret (dB d σ S) P ↔ Ret (d σ S) fun w S1 => ∃ b, bOf w = some b ∧ P b S1 := by unfold dB; simp
theorem Ret_dAndT (a b : DT) (P : Bool → So → Prop) : Ret (dAndT a b σ S) P ↔ Ret (a σ S) fun k S1 => if k = true then Ret (b σ S1) P else P false S1 := by
  unfold dAndT; simp only [Ret_bnd, Ret_ite, Ret_ok]
theorem Ret_dOrT (a b : DT) (P : Bool → So → Prop) : Ret (dOrT a b σ S) P ↔ Ret (a σ S) fun k S1 => if k = true then P true S1 else Ret (b σ S1) P := by
  unfold dOrT; simp only [Ret_bnd, Ret_ite, Ret_ok]
theorem Ret_dNotT (a : DT) (P : Bool → So → Prop) : Ret (dNotT a σ S) P ↔ Ret (a σ S) fun k S1 => P (!k) S1 := by unfold dNotT; simp
theorem Ret_dAnd (a b : DE) (P : W → So → Prop) : Ret (dAnd a b σ S) P ↔ Ret (a σ S) fun x S1 => ∃ k, bOf x = some k ∧ if k = true then Ret (b σ S1) P else P (.d (.bool false)) S1 := by
  unfold dAnd
  simp only [Ret_bnd]
  apply Iff.of_eq; congr; funext x S1
  match h : bOf x with
  | none => simp
  | some true => simp
  | some false => simp
theorem Ret_dOr (a b : DE) (P : W → So → Prop) : Ret (dOr a b σ S) P ↔ Ret (a σ S) fun x S1 => ∃ k, bOf x = some k ∧ if k = true then P (.d (.bool true)) S1 else Ret (b σ S1) P := by
  unfold dOr
  simp only [Ret_bnd]
  apply Iff.of_eq; congr; funext x S1
  match h : bOf x with
  | none => simp
  | some true => simp
  | some false => simp
theorem Ret_dNot (a : DE) (P : W → So → Prop) : Ret (dNot a σ S) P ↔ Ret (a σ S) fun x S1 => ∃ k, bOf x = some k ∧ P (.d (.bool (!k))) S1 := by
  unfold dNot; simp only [Ret_bnd, Ret_gmap]
theorem Ret_dIsi (T : String) (a : DE) (P : W → So → Prop) : Ret (dIsi T a σ S) P ↔ Ret (a σ S) fun w S1 => ∃ x, rd S1 w = some x ∧ ∃ c, isiP T x = some c ∧ P (.d c) S1 := by
  unfold dIsi; simp only [Ret_bnd, Ret_gbind, Ret_gmap]
theorem Ret_dChain (g g' : So → W → W → Option W) (a b c : DE) (P : W → So → Prop) : Ret (dChain g g' a b c σ S) P ↔ Ret (a σ S) fun x S1 => Ret (b σ S1) fun y S2 => ∃ w, g S2 x y = some w ∧ ∃ k, bOf w = some k ∧
    if k = true then Ret (c σ S2) fun z S3 => ∃ u, g' S3 y z = some u ∧ P u S3 else P (.d (.bool false)) S2 := by
  unfold dChain
  simp only [Ret_bnd]
  apply Iff.of_eq; congr; funext x S1; congr; funext y S2
  cases h : g S2 x y with
  | none => simp
  | some w =>
    match h2 : bOf w with
    | none => simp [h2]
    | some true => simp [h2]
    | some false => simp [h2]
theorem Ret_dGet (d i : DE) (P : W → So → Prop) : Ret (dGet d i σ S) P ↔ Ret (d σ S) fun x S1 => Ret (i σ S1) fun y S2 => ∃ w, dgetW S2 x y = some w ∧ P w S2 := by unfold dGet; simp
theorem Ret_dD0 (o : O) (P : W → So → Prop) : Ret (dD0 o σ S) P ↔ P (.r S.length) (S ++ [o]) := Iff.rfl
theorem Ret_dNoP (P : Option Int → So → Prop) : Ret (dNoP σ S) P ↔ P none S := Iff.rfl
theorem Ret_dPt (d : DE) (P : Option Int → So → Prop) : Ret (dPt d σ S) P ↔ Ret (d σ S) fun w S1 => ∃ i, intW w = some i ∧ P (some i) S1 := by unfold dPt; simp only [Ret_bnd, Ret_gmap]
theorem Ret_dSlA (a : DE) (l h : DO) (P : W → So → Prop) : Ret (dSlA a l h σ S) P ↔ Ret (a σ S) fun w S1 => Ret (l σ S1) fun lo S2 => Ret (h σ S2) fun hi S3 => ∃ x, rd S3 w = some x ∧ ∃ y, cutA lo hi x = some y ∧ P (.d y) S3 := by
  unfold dSlA; simp only [Ret_bnd, Ret_gbind, Ret_gmap]
theorem Ret_dMeth (T : String) (g : GM) (o : DE) (as : DA) (P : W → So → Prop) : Ret (dMeth T g o as σ S) P ↔ Ret (o σ S) fun x S1 => tyM T S1 x = true ∧ Ret (as σ S1) fun ws S2 => ∃ w S3, g S2 x ws = some (w, S3) ∧ P w S3 := by
  unfold dMeth
  simp only [Ret_bnd]
  apply Iff.of_eq; congr; funext x S1
  by_cases h : tyM T S1 x = true
  · simp only [h, if_true, Ret_bnd, true_and]
    congr; funext ws S2
    cases h2 : g S2 x ws with
    | none => simp
    | some q =>
      obtain ⟨w, S3⟩ := q
      exact propext ⟨fun h => ⟨w, S3, rfl, h⟩, fun ⟨w2, S4, e, h⟩ => by cases e; exact h⟩
  · simp [h]
theorem Ret_dAny (d : DE) (P : List PyData × Option Nat → So → Prop) : Ret (dAny d σ S) P ↔ Ret (d σ S) fun w S1 => ∃ q, anyW S1 w = some q ∧ P q S1 := by unfold dAny; simp
theorem Ret_dLenSet (d : DE) (P : W → So → Prop) : Ret (dLenSet d σ S) P ↔ Ret (d σ S) fun w S1 => ∃ u, setLen S1 w = some u ∧ P u S1 := by unfold dLenSet; simp
theorem Ret_dZip (as : DA) (P : List PyData × Option Nat → So → Prop) : Ret (dZip as σ S) P ↔ Ret (as σ S) fun ws S1 => ∃ xs, zipW ws = some xs ∧ P (xs, none) S1 := by
  unfold dZip; simp only [Ret_bnd, Ret_gmap]
theorem Ret_dZipL (as : DA) (P : List PyData × Option Nat → So → Prop) : Ret (dZipL as σ S) P ↔ Ret (as σ S) fun ws S1 => ∃ xs, zipWL ws = some xs ∧ P (xs, none) S1 := by
  unfold dZipL; simp only [Ret_bnd, Ret_gmap]
theorem Ret_dKeys (d : DE) (P : List PyData × Option Nat → So → Prop) : Ret (dKeys d σ S) P ↔ Ret (d σ S) fun w S1 => ∃ xs, lkKeys S1 w = some xs ∧ small xs.length = true ∧ P (xs, none) S1 := by
  unfold dKeys
  simp only [Ret_bnd, Ret_giv, Option.bind_eq_some_iff]
  apply Iff.of_eq; congr; funext w S1
  apply propext
  constructor
  · rintro ⟨q, ⟨xs, h1, h2⟩, h3⟩
    split at h2
    · rename_i hz; cases h2; exact ⟨xs, h1, hz, h3⟩
    · cases h2
  · rintro ⟨xs, h1, hz, h3⟩
    exact ⟨(xs, none), ⟨xs, h1, by rw [if_pos hz]⟩, h3⟩
theorem Ret_dRng1 (as : DA) (P : List PyData × Option Nat → So → Prop) : Ret (dRng1 as σ S) P ↔ Ret (as σ S) fun ws S1 => ∃ n : Int, ws = [.d (.int n)] ∧ (n < 16777216 ∧ -16777216 < n) ∧ P (rng 0 n, none) S1 := by
  unfold dRng1
  simp only [Ret_bnd]
  apply Iff.of_eq; congr; funext ws S1
  apply propext
  split
  · rename_i n
    split
    · rename_i h; simp [h]
    · rename_i h
      simp only [Ret_none, false_iff]
      rintro ⟨m, e, h2, _⟩
      cases e; exact h h2
  · rename_i h
    simp only [Ret_none, false_iff]
    rintro ⟨m, e, _⟩
    exact h m e
theorem Ret_dRng2 (as : DA) (P : List PyData × Option Nat → So → Prop) : Ret (dRng2 as σ S) P ↔ Ret (as σ S) fun ws S1 => ∃ m n : Int, ws = [.d (.int m), .d (.int n)] ∧ (n < 8000000 ∧ -8000000 < n ∧ m < 8000000 ∧ -8000000 < m) ∧ P (rng m n, none) S1 := by
  unfold dRng2
  simp only [Ret_bnd]
  apply Iff.of_eq; congr; funext ws S1
  apply propext
  split
  · rename_i m n
    split
    · rename_i h
      exact ⟨fun q => ⟨m, n, rfl, h, q⟩, fun ⟨a, b, e, _, q⟩ => by cases e; exact q⟩
    · rename_i h
      simp only [Ret_none, false_iff]
      rintro ⟨a, b, e, h2, _⟩
      cases e; exact h h2
  · rename_i h
    simp only [Ret_none, false_iff]
    rintro ⟨a, b, e, _⟩
    exact h a b e
theorem Ret_dLc (vs : List Nat) (it : DI) (tg : Tg) (c : DT) (e : DE) (P : List PyData → So → Prop) : Ret (dLc vs it tg c e σ S) P ↔ Ret (it σ S) fun p S1 => Ret (lcGo p.2 p.1 vs σ tg c e p.1 [] S1) P := by unfold dLc; simp
theorem RetS_for (tg : Tg) (it : DI) (b : DS) (N : En → So → Prop) (R : W → So → Prop) : RetS (sFor tg it b σ S) N R ↔ Ret (it σ S) fun p S1 => RetS (forGo p.2 p.1 tg b p.1 σ S1) N R := by unfold sFor; exact RetS_bnd _ _
theorem Ret_dHeld (i : Nat) (T : Str → Option DF) (as : DA) (P : W → So → Prop) {x : Str} {F : DF} (h1 : σ[i]? = some (some (.g x))) (h2 : T x = some F) : Ret (dHeld i T as σ S) P ↔ Ret (as σ S) fun ws S1 => Ret (F ws S1) P := by
  unfold dHeld; simp [h1, h2]
end
/-! ### loops with a wish that counts -/
theorem lc_inv {vs : List Nat} {σ : En} {tg : Tg} {c : DT} {e : DE} {all : List PyData} (I : Nat → List PyData → So → Prop) : ∀ (xs : List PyData) (k : Nat) (acc : List PyData) (S : So), I k acc S →
    (∀ (j : Nat) (x : PyData) (acc : List PyData) (S : So), xs[j]? = some x → I (k + j) acc S → ∃ σ1, bindT tg (.d x) (wipeW σ vs) = some σ1 ∧ Ret (c σ1 S) fun b S1 => if b = true then Ret (e σ1 S1) fun w S2 => ∃ y, w = .d y ∧ I (k + j + 1) (acc ++ [y]) S2 else I (k + j + 1) acc S1) →
    Ret (lcGo none all vs σ tg c e xs acc S) (I (k + xs.length))
  | [], k, acc, S, h, _ => by unfold lcGo; exact h
  | x :: xs, k, acc, S, h, st => by
    obtain ⟨σ1, h1, h2⟩ := st 0 x acc S rfl h
    unfold lcGo
    rw [if_pos (show keepB none all S = true from rfl), h1]
    dsimp only
    have rest : ∀ acc' S', I (k + 0 + 1) acc' S' → Ret (lcGo none all vs σ tg c e xs acc' S') (I (k + (x :: xs).length)) := fun acc' S' hI => by
      have := lc_inv (all := all) I xs (k + 1) acc' S' hI fun j y acc S hy hI2 => by
        have := st (j + 1) y acc S (by simpa using hy) (by rw [show k + (j + 1) = k + 1 + j by omega]; exact hI2)
        rw [show k + (j + 1) + 1 = k + 1 + j + 1 by omega] at this
        exact this
      rw [List.length_cons, show k + (xs.length + 1) = k + 1 + xs.length by omega]
      exact this
    unfold Ret at h2
    split at h2
    · rename_i b S1 hc
      rw [hc]
      cases b with
      | true =>
        simp only [if_true] at h2
        dsimp only
        split at h2
        · rename_i w S2 he
          obtain ⟨y, rfl, hI⟩ := h2
          rw [he]
          exact rest _ _ hI
        · exact h2.elim
      | false => exact rest _ _ (by simpa using h2)
    · exact h2.elim
/-- .. of a pure condition and element -/
theorem lc_pure {vs : List Nat} {σ : En} {tg : Tg} {c : DT} {e : DE} {all : List PyData} {S : So} (p : PyData → Bool) (f : PyData → PyData) : ∀ (xs acc : List PyData), (∀ x ∈ xs, ∃ σ1, bindT tg (.d x) (wipeW σ vs) = some σ1 ∧ Ret (c σ1 S) (fun b S1 => b = p x ∧ S1 = S) ∧ (p x = true → Ret (e σ1 S) fun w S2 => w = .d (f x) ∧ S2 = S)) →
    lcGo none all vs σ tg c e xs acc S = some (.ok (acc ++ (xs.filter p).map f) S)
  | [], acc, _ => by unfold lcGo; simp [keepB]
  | x :: xs, acc, h => by
    obtain ⟨σ1, h1, h2, h3⟩ := h x List.mem_cons_self
    have ih := fun acc' => lc_pure (σ := σ) (vs := vs) (tg := tg) (c := c) (e := e) (all := all) (S := S) p f xs acc' fun y hy => h y (List.mem_cons_of_mem _ hy)
    unfold lcGo
    rw [if_pos (show keepB none all S = true from rfl), h1]
    dsimp only
    rw [h2.eq]
    cases hp : p x with
    | true =>
      dsimp only
      rw [(h3 hp).eq]
      dsimp only
      rw [ih]
      simp [hp]
    | false =>
      dsimp only
      rw [ih]
      simp [hp]
theorem for_inv {tg : Tg} {b : DS} {all : List PyData} {N : En → So → Prop} {R : W → So → Prop} (I : Nat → En → So → Prop) : ∀ (xs : List PyData) (k : Nat) (σ : En) (S : So), I k σ S → (∀ σ S, I (k + xs.length) σ S → N σ S) →
    (∀ (j : Nat) (x : PyData) (σ : En) (S : So), xs[j]? = some x → I (k + j) σ S → ∃ σ1, bindT tg (.d x) σ = some σ1 ∧ RetS (b σ1 S) (I (k + j + 1)) R) → RetS (forGo none all tg b xs σ S) N R
  | [], k, σ, S, h, hN, _ => by unfold forGo; exact hN σ S h
  | x :: xs, k, σ, S, h, hN, st => by
    obtain ⟨σ1, h1, h2⟩ := st 0 x σ S rfl h
    unfold forGo
    rw [if_pos (show keepB none all S = true from rfl), h1]
    dsimp only
    unfold RetS at h2
    split at h2
    · rename_i σ2 S2 he
      rw [he]
      exact for_inv I xs (k + 1) σ2 S2 h2 (fun σ S q => hN σ S (by rw [List.length_cons, show k + (xs.length + 1) = k + 1 + xs.length by omega]; exact q)) fun j y σ S hy hI2 => by
        have := st (j + 1) y σ S (by simpa using hy) (by rw [show k + (j + 1) = k + 1 + j by omega]; exact hI2)
        rw [show k + (j + 1) + 1 = k + 1 + j + 1 by omega] at this
        exact this
    · rename_i w S2 he
      rw [he]
      exact h2
    · exact h2.elim
end CL
end

section
/-! part CLEnd -/
set_option Elab.async false
set_option linter.all false
set_option maxRecDepth 100000
/-! CLEnd: the law's own call. -/
namespace CL
open PySem PySem.Spec PyProof.Rows L2
theorem ints_rd {K : PySem.W.Frag} {H : Hp} {φ : Fi} : ∀ ns : List Int, RDs K H φ (ns.map PyData.int) (ns.map V.int)
  | [] => rfl
  | n :: ns => ⟨.int n, _, rfl, rfl, ints_rd ns⟩
theorem law_sp {F : DF} {n : Nat} (LT : ∀ ns : List Int, ns.length ≤ n → Ret (F [.s (ns.map PyData.int)] []) fun w _ => w = .d (.bool true)) (K : PySem.W.Frag) (mg : Str → Option Value) (H : Hp) (a : Addr) (ns : List Int) (hl : ns.length ≤ n)
    (h : (∃ o, H = scriptH a o (ns.map V.int)) ∨ (H = (fun _ => none) ∧ KL K a (ns.map V.int))) : spF K mg F [.ref a] H (fun v _ => v = .bl true) fun _ _ _ => False := by
  have := LT ns hl
  unfold Ret at this
  split at this
  · rename_i w S he
    subst this
    refine ⟨⟨[], []⟩, [], [.s (ns.map PyData.int)], .ok (.d (.bool true)) S, ⟨rfl, List.nodup_nil, fun i b o h _ => by simp at h, fun b hb => by cases hb⟩, ⟨.ref a, [], rfl, ⟨a, ns.map V.int, rfl, ?_, ints_rd ns⟩, rfl⟩, he, fun φ' H' v _ _ x => x⟩
    rcases h with ⟨o, h⟩ | ⟨_, h⟩
    · subst h
      exact .inl ⟨.inr ⟨o, if_pos rfl⟩, by simp, by simp⟩
    · exact .inr h
  · exact this.elim
theorem defG_mk {K : PySem.W.Frag} {h : Heap} {mg : Str → Option Value} {x : Str} {st : Stmt} {ps : List Str} {f : Addr} {oc : Value} {od an : Option Addr} {osl : Array (Option Value)} {kV doc pm cdv ct : Value} (X : K.In h) (G : h.Ns mainGlobals mg) (a : PySem.W.nsIn K mainGlobals x = some (some (.ref f)))
    (l : K.lookup f = some ⟨oc, od, .func (PySem.W.fnOf x x (defArgs st) (defBody st) (defScope st) .none kV doc pm an cdv ct), osl⟩) (c : PySem.W.codeIn K cdv x = true) (k : PySem.W.keepIn K (.ref f) = true)
    (hb : ∀ (kV doc pm : Value) (an : Option Addr) (cdv ct : Value) (us : List Value), us.length = ps.length → bindArgs (PySem.W.fnOf x x (defArgs st) (defBody st) (defScope st) .none kV doc pm an cdv ct) ⟨us, []⟩ = pure (ps.zip us)) : DefG K mg x st ps := by
  have F := fun_mk (st := st) l c k
  exact ⟨f, _, F, PySem.W.mg_of X G a, F.binds hb⟩
end CL
end

section
/-! part CLGood -/
set_option Elab.async false
set_option linter.all false
set_option maxRecDepth 100000
/-! CLGood: data that is small: no dict, short ints, plain signs, bounded bulk and depth. -/
namespace CL
open PySem PySem.Spec PyProof.Rows L2

def signOk (z : Str) : Bool := z.cps.toList.all fun c => decide (c < 128)
mutual
def okd : PyData → Bool
  | .none => true
  | .bool _ => true
  | .int i => decide (i.natAbs < 10 ^ 70)
  | .str z => signOk z
  | .list xs => okds xs
  | .tuple xs => okds xs
  | .dict _ => false
def okds : List PyData → Bool
  | [] => true
  | x :: xs => okd x && okds xs
end
/-- bulk at most b, depth at most d -/
structure Gd (b d : Nat) (x : PyData) : Prop where
  ok : okd x = true
  bulk : x.bulk ≤ b
  depth : x.depth ≤ d
structure Gds (b d : Nat) (xs : List PyData) : Prop where
  ok : okds xs = true
  bulk : PyData.bulkAll xs ≤ b
  depth : PyData.depthAll xs ≤ d
theorem Gd.mono {b b' d d' : Nat} {x : PyData} (h : Gd b d x) (hb : b ≤ b') (hd : d ≤ d') : Gd b' d' x := ⟨h.ok, Nat.le_trans h.bulk hb, Nat.le_trans h.depth hd⟩
theorem Gds.mono {b b' d d' : Nat} {x : List PyData} (h : Gds b d x) (hb : b ≤ b') (hd : d ≤ d') : Gds b' d' x := ⟨h.ok, Nat.le_trans h.bulk hb, Nat.le_trans h.depth hd⟩
theorem Gd.list {b d : Nat} {xs : List PyData} (h : Gds b d xs) : Gd b (d + 1) (.list xs) := ⟨by simpa [okd] using h.ok, by simpa [PyData.bulk] using h.bulk, by simpa [PyData.depth] using h.depth⟩
theorem Gd.tuple {b d : Nat} {xs : List PyData} (h : Gds b d xs) : Gd b (d + 1) (.tuple xs) := ⟨by simpa [okd] using h.ok, by simpa [PyData.bulk] using h.bulk, by simpa [PyData.depth] using h.depth⟩
theorem Gd.ofTuple {b d : Nat} {xs : List PyData} (h : Gd b d (.tuple xs)) : Gds b (d - 1) xs := ⟨by simpa [okd] using h.ok, by simpa [PyData.bulk] using h.bulk, by have := h.depth; simp only [PyData.depth] at this; omega⟩
theorem Gd.ofList {b d : Nat} {xs : List PyData} (h : Gd b d (.list xs)) : Gds b (d - 1) xs := ⟨by simpa [okd] using h.ok, by simpa [PyData.bulk] using h.bulk, by have := h.depth; simp only [PyData.depth] at this; omega⟩
theorem Gds.nil {b d : Nat} : Gds b d [] := ⟨rfl, Nat.zero_le _, Nat.zero_le _⟩
theorem Gds.cons {b b' d : Nat} {x : PyData} {xs : List PyData} (h : Gd b d x) (t : Gds b' d xs) : Gds (b + 1 + b') d (x :: xs) :=
  ⟨by simp [okds, h.ok, t.ok], by have := h.bulk; have := t.bulk; simp only [PyData.bulkAll]; omega, by simp only [PyData.depthAll]; exact Nat.max_le.mpr ⟨h.depth, t.depth⟩⟩
theorem Gds.head {b d : Nat} {x : PyData} {xs : List PyData} (h : Gds b d (x :: xs)) : Gd b d x := by
  obtain ⟨h1, h2, h3⟩ := h
  simp only [okds, Bool.and_eq_true] at h1
  simp only [PyData.bulkAll] at h2
  simp only [PyData.depthAll] at h3
  exact ⟨h1.1, by omega, Nat.le_trans (Nat.le_max_left _ _) h3⟩
theorem Gds.tail {b d : Nat} {x : PyData} {xs : List PyData} (h : Gds b d (x :: xs)) : Gds b d xs := by
  obtain ⟨h1, h2, h3⟩ := h
  simp only [okds, Bool.and_eq_true] at h1
  simp only [PyData.bulkAll] at h2
  simp only [PyData.depthAll] at h3
  exact ⟨h1.2, by omega, Nat.le_trans (Nat.le_max_right _ _) h3⟩
theorem Gds.mem {b d : Nat} {x : PyData} : ∀ {xs : List PyData}, Gds b d xs → x ∈ xs → Gd b d x
  | _ :: _, h, hm => by
    rcases List.mem_cons.mp hm with e | hm
    · subst e; exact h.head
    · exact h.tail.mem hm
theorem okds_append : ∀ xs ys : List PyData, okds (xs ++ ys) = (okds xs && okds ys)
  | [], ys => by simp [okds]
  | x :: xs, ys => by simp [okds, okds_append xs ys, Bool.and_assoc]
theorem bulk_append : ∀ xs ys : List PyData, PyData.bulkAll (xs ++ ys) = PyData.bulkAll xs + PyData.bulkAll ys
  | [], ys => by simp [PyData.bulkAll]
  | x :: xs, ys => by simp only [List.cons_append, PyData.bulkAll, bulk_append xs ys]; omega
theorem depth_append : ∀ xs ys : List PyData, PyData.depthAll (xs ++ ys) = max (PyData.depthAll xs) (PyData.depthAll ys)
  | [], ys => by simp [PyData.depthAll]
  | x :: xs, ys => by simp only [List.cons_append, PyData.depthAll, depth_append xs ys]; omega
theorem Gds.append {b b' d : Nat} {xs ys : List PyData} (h : Gds b d xs) (t : Gds b' d ys) : Gds (b + b') d (xs ++ ys) :=
  ⟨by rw [okds_append, h.ok, t.ok]; rfl, by have := h.bulk; have := t.bulk; rw [bulk_append]; omega, by rw [depth_append]; exact Nat.max_le.mpr ⟨h.depth, t.depth⟩⟩
theorem Gds.left {b d : Nat} {xs ys : List PyData} (h : Gds b d (xs ++ ys)) : Gds b d xs := by
  obtain ⟨h1, h2, h3⟩ := h
  rw [okds_append, Bool.and_eq_true] at h1
  rw [bulk_append] at h2
  rw [depth_append] at h3
  exact ⟨h1.1, by omega, Nat.le_trans (Nat.le_max_left _ _) h3⟩
theorem Gds.right {b d : Nat} {xs ys : List PyData} (h : Gds b d (xs ++ ys)) : Gds b d ys := by
  obtain ⟨h1, h2, h3⟩ := h
  rw [okds_append, Bool.and_eq_true] at h1
  rw [bulk_append] at h2
  rw [depth_append] at h3
  exact ⟨h1.2, by omega, Nat.le_trans (Nat.le_max_right _ _) h3⟩
theorem Gds.take {b d : Nat} {xs : List PyData} (h : Gds b d xs) (n : Nat) : Gds b d (xs.take n) := by
  rw [← List.take_append_drop n xs] at h; exact h.left
theorem Gds.drop {b d : Nat} {xs : List PyData} (h : Gds b d xs) (n : Nat) : Gds b d (xs.drop n) := by
  rw [← List.take_append_drop n xs] at h; exact h.right
theorem Gds.cut {b d : Nat} {xs : List PyData} (h : Gds b d xs) (lo hi : Option Int) : Gds b d (cutG xs lo hi) := (h.drop _).take _
theorem Gds.reverse {b d : Nat} : ∀ {xs : List PyData}, Gds b d xs → Gds b d xs.reverse := by
  intro xs h
  have key : ∀ xs : List PyData, okds xs.reverse = okds xs ∧ PyData.bulkAll xs.reverse = PyData.bulkAll xs ∧ PyData.depthAll xs.reverse = PyData.depthAll xs := by
    intro xs
    induction xs with
    | nil => exact ⟨rfl, rfl, rfl⟩
    | cons x xs ih =>
      obtain ⟨i1, i2, i3⟩ := ih
      rw [List.reverse_cons]
      refine ⟨?_, ?_, ?_⟩
      · rw [okds_append, i1]; simp [okds, Bool.and_comm]
      · rw [bulk_append, i2]; simp only [PyData.bulkAll]; omega
      · rw [depth_append, i3]; simp only [PyData.depthAll]; omega
  obtain ⟨k1, k2, k3⟩ := key xs
  exact ⟨k1.trans h.ok, by rw [k2]; exact h.bulk, by rw [k3]; exact h.depth⟩
theorem Gds.of_mem {b d : Nat} : ∀ {xs : List PyData}, (∀ x ∈ xs, Gd b d x) → Gds (xs.length * (b + 1)) d xs
  | [], _ => Gds.nil
  | x :: xs, h => by
    have := Gds.cons (h x List.mem_cons_self) (Gds.of_mem fun y hy => h y (List.mem_cons_of_mem _ hy))
    refine this.mono ?_ (Nat.le_refl _)
    rw [List.length_cons, Nat.succ_mul]; omega
theorem Gds.len {b d : Nat} : ∀ {xs : List PyData}, Gds b d xs → xs.length ≤ b
  | [], _ => Nat.zero_le _
  | x :: xs, h => by
    have h2 := h.bulk
    simp only [PyData.bulkAll] at h2
    have : Gds (b - 1) d xs := ⟨h.tail.ok, by omega, h.tail.depth⟩
    have := this.len
    rw [List.length_cons]; omega
/-! ### what follows -/
mutual
theorem pl_of : ∀ x : PyData, okd x = true → plD x = true
  | .none, _ | .bool _, _ | .int _, _ | .str _, _ => rfl
  | .list xs, h => pls_of xs (by simpa [okd] using h)
  | .tuple xs, h => pls_of xs (by simpa [okd] using h)
  | .dict _, h => by simp [okd] at h
theorem pls_of : ∀ xs : List PyData, okds xs = true → plDs xs = true
  | [], _ => rfl
  | x :: xs, h => by
    simp only [okds, Bool.and_eq_true] at h
    simp [plDs, pl_of x h.1, pls_of xs h.2]
end
theorem signs_lt {z : Str} (h : signOk z = true) : ∀ c ∈ z.cps.toList, c < 128 := fun c hc => of_decide_eq_true (List.all_eq_true.mp h c hc)
mutual
theorem lay_of : ∀ x : PyData, okd x = true → x.canLay0 = true
  | .none, _ | .bool _, _ | .int _, _ => by simp [PyData.canLay0]
  | .str z, h => by
    simp only [PyData.canLay0, PyData.strOk]
    rw [← Array.all_toList, List.all_eq_true]
    intro c hc
    have := signs_lt (by simpa [okd] using h) c hc
    exact decide_eq_true (by omega)
  | .list xs, h => by simpa [PyData.canLay0] using lays_of xs (by simpa [okd] using h)
  | .tuple xs, h => by simpa [PyData.canLay0] using lays_of xs (by simpa [okd] using h)
  | .dict _, h => by simp [okd] at h
theorem lays_of : ∀ xs : List PyData, okds xs = true → PyData.canLayAll0 xs = true
  | [], _ => by simp [PyData.canLayAll0]
  | x :: xs, h => by
    simp only [okds, Bool.and_eq_true] at h
    simp [PyData.canLayAll0, lay_of x h.1, lays_of xs h.2]
end
theorem Gd.okD {b d : Nat} {x : PyData} (h : Gd b d x) (hd : d ≤ 64) : okD x = true := by
  unfold CL.okD SeqAt.shaped
  rw [lay_of x h.ok, Bool.true_and]
  exact decide_eq_true (Nat.le_trans h.depth hd)
theorem int_short {i : Int} (h : i.natAbs < 10 ^ 70) : (PyData.shown (.int i)).length ≤ 80 ∧ i.natAbs.log2 < 1920 := by
  constructor
  · simp only [PyData.shown]
    rw [TL.len_tl]
    cases i with
    | ofNat n =>
      show (TL.tl (Str.ofString (toString ((n : Nat) : Int)))).length ≤ 80
      rw [TL.tl_num]
      exact Nat.le_trans (TL.numL_len (k := 70) (by decide) (by simpa using h)) (by decide)
    | negSucc n =>
      have e : toString (Int.negSucc n) = "-" ++ toString ((n + 1 : Nat) : Int) := rfl
      rw [e, TL.tl_ofString, String.toList_append, List.map_append, List.length_append]
      have h2 := TL.numL_len (n := n + 1) (k := 70) (by decide) (by simpa using h)
      rw [← TL.tl_num, TL.tl_ofString] at h2
      have h3 : (List.map Char.toNat "-".toList).length = 1 := rfl
      omega
  · by_cases h0 : i.natAbs = 0
    · rw [h0]; decide
    · exact Nat.lt_of_lt_of_le ((Nat.log2_lt h0).mpr (Nat.lt_of_lt_of_le h (show 10 ^ 70 ≤ 2 ^ 250 by decide))) (by decide)
mutual
theorem leaves_of : ∀ x : PyData, okd x = true → x.leavesShort 80 = true ∧ x.showable = true ∧ x.hasDict = false
  | .none, _ | .bool _, _ => by simp [PyData.leavesShort, PyData.showable, PyData.hasDict]
  | .int i, h => by
    obtain ⟨h1, h2⟩ := int_short (by simpa [okd] using h)
    exact ⟨by simpa only [PyData.leavesShort, decide_eq_true_eq] using h1, by simpa [PyData.showable] using h2, by simp [PyData.hasDict]⟩
  | .str z, h => by
    refine ⟨?_, by simp [PyData.showable], by simp [PyData.hasDict]⟩
    simp only [PyData.leavesShort, List.all_eq_true, decide_eq_true_eq]
    intro c hc
    have := signs_lt (by simpa [okd] using h) c hc
    omega
  | .list xs, h => by
    obtain ⟨h1, h2, h3⟩ := leavesAll_of xs (by simpa [okd] using h)
    exact ⟨by simpa [PyData.leavesShort] using h1, by simpa [PyData.showable] using h2, by simpa [PyData.hasDict] using h3⟩
  | .tuple xs, h => by
    obtain ⟨h1, h2, h3⟩ := leavesAll_of xs (by simpa [okd] using h)
    exact ⟨by simpa [PyData.leavesShort] using h1, by simpa [PyData.showable] using h2, by simpa [PyData.hasDict] using h3⟩
  | .dict _, h => by simp [okd] at h
theorem leavesAll_of : ∀ xs : List PyData, okds xs = true → PyData.leavesShortAll 80 xs = true ∧ PyData.showableAll xs = true ∧ PyData.hasDictAll xs = false
  | [], _ => by simp [PyData.leavesShortAll, PyData.showableAll, PyData.hasDictAll]
  | x :: xs, h => by
    simp only [okds, Bool.and_eq_true] at h
    obtain ⟨a1, a2, a3⟩ := leaves_of x h.1
    obtain ⟨b1, b2, b3⟩ := leavesAll_of xs h.2
    simp [PyData.leavesShortAll, PyData.showableAll, PyData.hasDictAll, a1, a2, a3, b1, b2, b3]
end
theorem Gd.repr {b d : Nat} {x : PyData} (h : Gd b d x) (hb : b ≤ 200000) (hd : d ≤ 60) : reprP x = some (.str x.shown) := by
  obtain ⟨h1, h2, h3⟩ := leaves_of x h.ok
  have h4 := PyData.shown_le_bulk 80 (by decide) x h1
  have h5 := h.bulk
  unfold reprP reprOk
  rw [h2, h3, decide_eq_true (show x.shown.length ≤ 16777216 by omega), decide_eq_true (Nat.le_trans h.depth hd)]
  rfl
end CL
end

section
/-! part CLShown -/
set_option Elab.async false
set_option linter.all false
set_option maxRecDepth 100000
/-! CLShown: what is shown of small data is plain signs. -/
namespace CL
open PySem PySem.Spec PyProof.Rows L2

theorem sign_app {a b : Str} (ha : signOk a = true) (hb : signOk b = true) : signOk (a ++ b) = true := by
  unfold signOk at *
  rw [show (a ++ b).cps.toList = a.cps.toList ++ b.cps.toList from TL.tl_append a b, List.all_append, ha, hb]; rfl
theorem sign_join {s : Str} (hs : signOk s = true) : ∀ {ts : List Str}, (∀ t ∈ ts, signOk t = true) → signOk (Str.join s ts) = true
  | [], _ => rfl
  | [x], h => h x List.mem_cons_self
  | x :: y :: r, h => sign_app (sign_app (h x List.mem_cons_self) hs) (sign_join hs fun t ht => h t (List.mem_cons_of_mem _ ht))
theorem sign_from : ∀ {ts : List Str} {k : Nat} {acc : Str}, signOk acc = true → (∀ t ∈ ts, signOk t = true) → signOk (textFrom k acc ts) = true
  | [], _, _, h, _ => h
  | t :: ts, k, acc, h, ht => by
    unfold textFrom
    refine sign_from (sign_app (sign_app h ?_) (ht t List.mem_cons_self)) fun u hu => ht u (List.mem_cons_of_mem _ hu)
    split <;> decide +kernel
theorem fold_flat (f : Nat → List Nat) : ∀ (l : List Nat) (acc : Array Nat), (l.foldl (fun out c => out ++ (f c).toArray) acc).toList = acc.toList ++ l.flatMap f
  | [], acc => by simp
  | c :: l, acc => by rw [List.foldl_cons, fold_flat f l]; simp
theorem char_low (q : Nat) (hq : q = 34 ∨ q = 39) : ∀ c, c < 128 → ∀ y ∈ Builtin.Str.reprChar q c, y < 128 := by
  have h : [34, 39].all (fun q => (List.range 128).all fun c => (Builtin.Str.reprChar q c).all fun y => decide (y < 128)) = true := by decide +kernel
  intro c hc y hy
  have h1 := List.all_eq_true.mp h q (by rcases hq with rfl | rfl <;> simp)
  have h2 := List.all_eq_true.mp h1 c (List.mem_range.mpr hc)
  exact of_decide_eq_true (List.all_eq_true.mp h2 y hy)
theorem sign_repr {z : Str} (h : signOk z = true) : signOk (reprText z) = true := by
  have hq : reprQuote z = 34 ∨ reprQuote z = 39 := by unfold reprQuote; split <;> simp
  have hl : reprQuote z < 128 := by omega
  refine List.all_eq_true.mpr fun c hc => decide_eq_true ?_
  unfold reprText at hc
  simp only [Array.toList_push, ← Array.foldl_toList] at hc
  rw [fold_flat] at hc
  simp only [List.mem_append, List.mem_singleton, List.mem_flatMap] at hc
  rcases hc with (hc | ⟨u, hu, hc⟩) | hc
  · have : c = reprQuote z := by simpa using hc
    omega
  · exact char_low _ hq u (signs_lt h u hu) c hc
  · omega
theorem dig_low (n : Nat) : ∀ c ∈ TL.numL n, c < 128 := fun c hc => by
  have := TL.numL_digits n c hc
  omega
theorem sign_num (i : Int) : signOk (Str.ofString (toString i)) = true := by
  unfold signOk
  rw [List.all_eq_true]
  intro c hc
  refine decide_eq_true ?_
  cases i with
  | ofNat n => exact dig_low n c (by rw [← TL.tl_num]; exact hc)
  | negSucc n =>
    have e : toString (Int.negSucc n) = "-" ++ toString ((n + 1 : Nat) : Int) := rfl
    have hc : c ∈ TL.tl (Str.ofString (toString (Int.negSucc n))) := hc
    rw [e, TL.tl_ofString, String.toList_append, List.map_append, ← TL.tl_ofString, ← TL.tl_ofString, TL.tl_num] at hc
    rcases List.mem_append.mp hc with hc | hc
    · have : ∀ c ∈ TL.tl (Str.ofString "-"), c < 128 := by decide +kernel
      exact this c hc
    · exact dig_low _ c hc
mutual
theorem sign_shown : ∀ x : PyData, okd x = true → signOk x.shown = true
  | .none, _ => by simp only [PyData.shown]; decide +kernel
  | .bool b, _ => by cases b <;> (simp only [PyData.shown]; decide +kernel)
  | .int i, _ => by simp only [PyData.shown]; exact sign_num i
  | .str z, h => by simp only [PyData.shown]; exact sign_repr (by simpa [okd] using h)
  | .list xs, h => by
    simp only [PyData.shown]
    unfold listText
    exact sign_app (sign_from (by decide +kernel) (signs_shown xs (by simpa [okd] using h))) (by decide +kernel)
  | .tuple xs, h => by
    simp only [PyData.shown]
    unfold tupleText
    refine sign_app (sign_app (by decide +kernel) (sign_join (by decide +kernel) (signs_shown xs (by simpa [okd] using h)))) ?_
    split <;> decide +kernel
  | .dict _, h => by simp [okd] at h
theorem signs_shown : ∀ xs : List PyData, okds xs = true → ∀ t ∈ PyData.shownAll xs, signOk t = true
  | [], _, t, ht => by simp [PyData.shownAll] at ht
  | x :: xs, h, t, ht => by
    simp only [okds, Bool.and_eq_true] at h
    simp only [PyData.shownAll] at ht
    rcases List.mem_cons.mp ht with e | ht
    · subst e; exact sign_shown x h.1
    · exact signs_shown xs h.2 t ht
end
/-- a text differs not from itself -/
theorem ne_self {z : Str} (h : signOk z = true) : neP (.str z) (.str z) = some (.bool false) := by
  have ok : okD (.str z) = true := by
    have : okd (.str z) = true := by simpa [okd] using h
    have g : Gd z.length 0 (.str z) := ⟨this, by simp [PyData.bulk, Str.length], by simp [PyData.depth]⟩
    exact g.okD (by decide)
  unfold neP
  rw [ok]
  simp [PyData.eqv]
end CL
end

section
/-! part LK01 -/
set_option Elab.async false
set_option linter.all false
set_option maxRecDepth 100000
set_option maxHeartbeats 4000000
/-! printed by gen.py: the defs of the text, what they compute, that they do. -/
namespace LK01
open CL
open PySem PySem.Spec PyProof.Rows L2
def topS (i : Nat) : Stmt := PySem.Challenge.pw_chosenlast_k01_kinds.main.body.getD i (.Pass ⟨0, 0, 0, 0⟩)
abbrev st_l_reader : Stmt := topS 15
abbrev st_l_fixed_values : Stmt := topS 33
abbrev st_l_long_values : Stmt := topS 32
abbrev st_l_draw : Stmt := topS 16
abbrev st_l_table : Stmt := topS 17
abbrev st_l_subset : Stmt := topS 19
abbrev st_l_pairs : Stmt := topS 18
abbrev st_l_odd : Stmt := topS 29
abbrev st_l_changed : Stmt := topS 30
abbrev st_l_is_number : Stmt := topS 20
abbrev st_l_is_name : Stmt := topS 21
abbrev st_l_is_pair : Stmt := topS 22
abbrev st_l_are : Stmt := topS 24
abbrev st_l_ascends : Stmt := topS 23
abbrev st_l_is_scope : Stmt := topS 25
abbrev st_is_number : Stmt := topS 3
abbrev st_is_name : Stmt := topS 4
abbrev st_are_names : Stmt := topS 5
abbrev st_is_pair : Stmt := topS 7
abbrev st_are_pairs : Stmt := topS 8
abbrev st_are_ascending : Stmt := topS 6
abbrev st_is_scope : Stmt := topS 9
abbrev st_is_coin : Stmt := topS 10
abbrev st_l_is_coin : Stmt := topS 26
abbrev st_l_are_coins : Stmt := topS 31
abbrev st_l_are_names : Stmt := topS 27
abbrev st_l_is_shape : Stmt := topS 28
abbrev st_are_coins : Stmt := topS 11
abbrev st_is_answer : Stmt := topS 12
abbrev st_is_table_shape : Stmt := topS 13
abbrev st_law : Stmt := topS 34
theorem sc_l_reader : FnScope ["_law_script"] ["_law_script"] (defScope st_l_reader) := ⟨rfl, rfl, rfl, by decide +kernel, rfl, by decide +kernel, by decide +kernel⟩
theorem sc_l_fixed_values : FnScope ["_law_far", "_law_found"] [] (defScope st_l_fixed_values) := ⟨rfl, rfl, rfl, by decide +kernel, rfl, by decide +kernel, by decide +kernel⟩
theorem sc_l_long_values : FnScope ["_law_letters", "_law_names", "_law_k", "_law_long", "_law_one", "_law_coins_now", "_law_bare", "_law_found", "_law_entries"] [] (defScope st_l_long_values) := ⟨rfl, rfl, rfl, by decide +kernel, rfl, by decide +kernel, by decide +kernel⟩
theorem sc_l_draw : FnScope ["_law_reader_here", "_law_many", "_law_digit", "_law_spot", "_law_cell", "_law_mixed"] ["_law_reader_here", "_law_many"] (defScope st_l_draw) := ⟨rfl, rfl, rfl, by decide +kernel, rfl, by decide +kernel, by decide +kernel⟩
theorem sc_l_table : FnScope ["_law_reader_here", "_law_wide", "_law_most", "_law_pool", "_law_words", "_law_heads", "_law_k", "_law_widths", "_law_found", "_law_head", "_law_width", "_law_first", "_law_entry"] ["_law_reader_here", "_law_wide", "_law_most"] (defScope st_l_table) := ⟨rfl, rfl, rfl, by decide +kernel, rfl, by decide +kernel, by decide +kernel⟩
theorem sc_l_subset : FnScope ["_law_reader_here", "_law_parts", "_law_way", "_law_part"] ["_law_reader_here", "_law_parts"] (defScope st_l_subset) := ⟨rfl, rfl, rfl, by decide +kernel, rfl, by decide +kernel, by decide +kernel⟩
theorem sc_l_pairs : FnScope ["_law_grid", "_law_found", "_law_entry", "_law_part"] ["_law_grid"] (defScope st_l_pairs) := ⟨rfl, rfl, rfl, by decide +kernel, rfl, by decide +kernel, by decide +kernel⟩
theorem sc_l_odd : FnScope ["_law_reader_here", "_law_some"] ["_law_reader_here"] (defScope st_l_odd) := ⟨rfl, rfl, rfl, by decide +kernel, rfl, by decide +kernel, by decide +kernel⟩
theorem sc_l_changed : FnScope ["_law_reader_here", "_law_value", "_law_spot", "_law_way", "_law_some"] ["_law_reader_here", "_law_value"] (defScope st_l_changed) := ⟨rfl, rfl, rfl, by decide +kernel, rfl, by decide +kernel, by decide +kernel⟩
theorem sc_l_is_number : FnScope ["_law_value"] ["_law_value"] (defScope st_l_is_number) := ⟨rfl, rfl, rfl, by decide +kernel, rfl, by decide +kernel, by decide +kernel⟩
theorem sc_l_is_name : FnScope ["_law_value", "_law_sign"] ["_law_value"] (defScope st_l_is_name) := ⟨rfl, rfl, rfl, by decide +kernel, rfl, by decide +kernel, by decide +kernel⟩
theorem sc_l_is_pair : FnScope ["_law_value"] ["_law_value"] (defScope st_l_is_pair) := ⟨rfl, rfl, rfl, by decide +kernel, rfl, by decide +kernel, by decide +kernel⟩
theorem sc_l_are : FnScope ["_law_check", "_law_value", "_law_part"] ["_law_check", "_law_value"] (defScope st_l_are) := ⟨rfl, rfl, rfl, by decide +kernel, rfl, by decide +kernel, by decide +kernel⟩
theorem sc_l_ascends : FnScope ["_law_values", "_law_k"] ["_law_values"] (defScope st_l_ascends) := ⟨rfl, rfl, rfl, by decide +kernel, rfl, by decide +kernel, by decide +kernel⟩
theorem sc_l_is_scope : FnScope ["_law_value"] ["_law_value"] (defScope st_l_is_scope) := ⟨rfl, rfl, rfl, by decide +kernel, rfl, by decide +kernel, by decide +kernel⟩
theorem sc_is_number : FnScope ["thing"] ["thing"] (defScope st_is_number) := ⟨rfl, rfl, rfl, by decide +kernel, rfl, by decide +kernel, by decide +kernel⟩
theorem sc_is_name : FnScope ["thing", "letter"] ["thing"] (defScope st_is_name) := ⟨rfl, rfl, rfl, by decide +kernel, rfl, by decide +kernel, by decide +kernel⟩
theorem sc_are_names : FnScope ["thing", "part"] ["thing"] (defScope st_are_names) := ⟨rfl, rfl, rfl, by decide +kernel, rfl, by decide +kernel, by decide +kernel⟩
theorem sc_is_pair : FnScope ["thing"] ["thing"] (defScope st_is_pair) := ⟨rfl, rfl, rfl, by decide +kernel, rfl, by decide +kernel, by decide +kernel⟩
theorem sc_are_pairs : FnScope ["thing", "part"] ["thing"] (defScope st_are_pairs) := ⟨rfl, rfl, rfl, by decide +kernel, rfl, by decide +kernel, by decide +kernel⟩
theorem sc_are_ascending : FnScope ["values", "first", "second"] ["values"] (defScope st_are_ascending) := ⟨rfl, rfl, rfl, by decide +kernel, rfl, by decide +kernel, by decide +kernel⟩
theorem sc_is_scope : FnScope ["thing"] ["thing"] (defScope st_is_scope) := ⟨rfl, rfl, rfl, by decide +kernel, rfl, by decide +kernel, by decide +kernel⟩
theorem sc_is_coin : FnScope ["thing", "number", "scope"] ["thing"] (defScope st_is_coin) := ⟨rfl, rfl, rfl, by decide +kernel, rfl, by decide +kernel, by decide +kernel⟩
theorem sc_l_is_coin : FnScope ["_law_value"] ["_law_value"] (defScope st_l_is_coin) := ⟨rfl, rfl, rfl, by decide +kernel, rfl, by decide +kernel, by decide +kernel⟩
theorem sc_l_are_coins : FnScope ["_law_value", "_law_part"] ["_law_value"] (defScope st_l_are_coins) := ⟨rfl, rfl, rfl, by decide +kernel, rfl, by decide +kernel, by decide +kernel⟩
theorem sc_l_are_names : FnScope ["_law_value"] ["_law_value"] (defScope st_l_are_names) := ⟨rfl, rfl, rfl, by decide +kernel, rfl, by decide +kernel, by decide +kernel⟩
theorem sc_l_is_shape : FnScope ["_law_value"] ["_law_value"] (defScope st_l_is_shape) := ⟨rfl, rfl, rfl, by decide +kernel, rfl, by decide +kernel, by decide +kernel⟩
theorem sc_are_coins : FnScope ["thing", "coin", "number", "scope"] ["thing"] (defScope st_are_coins) := ⟨rfl, rfl, rfl, by decide +kernel, rfl, by decide +kernel, by decide +kernel⟩
theorem sc_is_answer : FnScope ["thing"] ["thing"] (defScope st_is_answer) := ⟨rfl, rfl, rfl, by decide +kernel, rfl, by decide +kernel, by decide +kernel⟩
theorem sc_is_table_shape : FnScope ["thing", "items", "rows", "row"] ["thing"] (defScope st_is_table_shape) := ⟨rfl, rfl, rfl, by decide +kernel, rfl, by decide +kernel, by decide +kernel⟩
theorem sc_law : FnScope ["_law_script", "_law_reader_here", "_law_values", "_law_turn", "_law_grid", "_law_gone", "_law_coins_now", "_law_k", "_law_value", "_law_once", "_law_saved", "_law_want", "_law_got"] ["_law_script"] (defScope st_law) := ⟨rfl, rfl, rfl, by decide +kernel, rfl, by decide +kernel, by decide +kernel⟩
structure Mo (K : PySem.W.Frag) (mg : Str → Option Value) : Prop where
  d_l_reader : DefG K mg "_law_reader" st_l_reader ["_law_script"]
  d_l_fixed_values : DefG K mg "_law_fixed_values" st_l_fixed_values []
  d_l_long_values : DefG K mg "_law_long_values" st_l_long_values []
  d_l_draw : DefG K mg "_law_draw" st_l_draw ["_law_reader_here", "_law_many"]
  d_l_table : DefG K mg "_law_table" st_l_table ["_law_reader_here", "_law_wide", "_law_most"]
  d_l_subset : DefG K mg "_law_subset" st_l_subset ["_law_reader_here", "_law_parts"]
  d_l_pairs : DefG K mg "_law_pairs" st_l_pairs ["_law_grid"]
  d_l_odd : DefG K mg "_law_odd" st_l_odd ["_law_reader_here"]
  d_l_changed : DefG K mg "_law_changed" st_l_changed ["_law_reader_here", "_law_value"]
  d_l_is_number : DefG K mg "_law_is_number" st_l_is_number ["_law_value"]
  d_l_is_name : DefG K mg "_law_is_name" st_l_is_name ["_law_value"]
  d_l_is_pair : DefG K mg "_law_is_pair" st_l_is_pair ["_law_value"]
  d_l_are : DefG K mg "_law_are" st_l_are ["_law_check", "_law_value"]
  d_l_ascends : DefG K mg "_law_ascends" st_l_ascends ["_law_values"]
  d_l_is_scope : DefG K mg "_law_is_scope" st_l_is_scope ["_law_value"]
  d_is_number : DefG K mg "is_number" st_is_number ["thing"]
  d_is_name : DefG K mg "is_name" st_is_name ["thing"]
  d_are_names : DefG K mg "are_names" st_are_names ["thing"]
  d_is_pair : DefG K mg "is_pair" st_is_pair ["thing"]
  d_are_pairs : DefG K mg "are_pairs" st_are_pairs ["thing"]
  d_are_ascending : DefG K mg "are_ascending" st_are_ascending ["values"]
  d_is_scope : DefG K mg "is_scope" st_is_scope ["thing"]
  d_is_coin : DefG K mg "is_coin" st_is_coin ["thing"]
  d_l_is_coin : DefG K mg "_law_is_coin" st_l_is_coin ["_law_value"]
  d_l_are_coins : DefG K mg "_law_are_coins" st_l_are_coins ["_law_value"]
  d_l_are_names : DefG K mg "_law_are_names" st_l_are_names ["_law_value"]
  d_l_is_shape : DefG K mg "_law_is_shape" st_l_is_shape ["_law_value"]
  d_are_coins : DefG K mg "are_coins" st_are_coins ["thing"]
  d_is_answer : DefG K mg "is_answer" st_is_answer ["thing"]
  d_is_table_shape : DefG K mg "is_table_shape" st_is_table_shape ["thing"]
  d_law : DefG K mg "law" st_law ["_law_script"]
  z_all : mg "all" = none
  z_bool : mg "bool" = none
  z_int : mg "int" = none
  z_isinstance : mg "isinstance" = none
  z_len : mg "len" = none
  z_list : mg "list" = none
  z_min : mg "min" = none
  z_range : mg "range" = none
  z_repr : mg "repr" = none
  z_set : mg "set" = none
  z_sorted : mg "sorted" = none
  z_str : mg "str" = none
  z_tuple : mg "tuple" = none
  z_zip : mg "zip" = none
  m_LETTERS : ∃ t, mg "LETTERS" = some (.str "abcdefghijklmnopqrstuvwxyz" t)
  m_LONGEST : ∃ t, mg "LONGEST" = some (.int 8 t)
def b_l_reader : DS := (sCons (sRet (dDisp [("cells", (dFz (dCallN listG (dCons (dSlA (dVar 0) dNoP (dPt (dC (.int 63)))) dNil)))), ("next", (dC (.int 0))), ("rest", (dC (.int 0))), ("draws", (dC (.int 0)))]))
      sNil)
def f_l_reader : DF := fnB gcNew 1 1 b_l_reader
def b_l_fixed_values : DS := (sCons (sSet 0 (dBin (on2 (i2 powI)) (dC (.int 10)) (dC (.int 59))))
      (sCons (sSet 1 (dFz (dLst (dCons (dC (.int 0)) (dCons (dC (.int 1)) (dCons (dVar 0) (dCons (dUn (on1 negI) (dC (.int 1))) (dCons (dC (.bool true)) (dCons (dC (.bool false)) (dCons (dC .none) (dCons (dC (.str "")) (dCons (dC (.str "a")) (dCons (dC (.str "abcdefgh")) (dCons (dC (.str "abcdefghi")) (dCons (dC (.str "Ann")) (dCons (dC (.str "a b")) dNil))))))))))))))))
      (sCons (sSet 1 (dBin addW (dVar 1) (dFz (dLst (dCons (dC (.str "a1")) (dCons (dC (.str "{")) (dCons (dC (.str "yes")) (dCons (dC (.str "no")) dNil))))))))
      (sCons (sSet 1 (dBin addW (dVar 1) (dFz (dLst (dCons (dC (.str "Yes")) (dCons (dC (.str "none")) (dCons (dC (.str "open")) (dCons (dC (.str " yes")) (dCons (dTup dNil) (dCons (dFz (dLst dNil)) (dCons (dTup (dCons (dC (.str "a")) dNil)) (dCons (dTup (dCons (dC (.str "a")) (dCons (dC (.str "b")) dNil))) (dCons (dFz (dLst (dCons (dC (.str "a")) (dCons (dC (.str "b")) dNil)))) (dCons (dTup (dCons (dC (.str "a")) (dCons (dC (.str "B")) dNil))) dNil))))))))))))))
      (sCons (sSet 1 (dBin addW (dVar 1) (dFz (dLst (dCons (dTup (dCons (dC (.str "a")) (dCons (dC (.str "")) dNil))) dNil)))))
      (sCons (sSet 1 (dBin addW (dVar 1) (dFz (dLst (dCons (dTup (dCons (dC (.str "a")) (dCons (dC (.str "b")) (dCons (dC (.str "c")) dNil)))) (dCons (dTup (dCons (dC (.str "a")) (dCons (dC .none) dNil))) (dCons (dTup (dCons (dTup (dCons (dC (.str "a")) (dCons (dC (.str "x")) dNil))) dNil)) (dCons (dTup (dCons (dTup (dCons (dC (.str "a")) (dCons (dC (.str "x")) dNil))) (dCons (dTup (dCons (dC (.str "a")) (dCons (dC (.str "y")) dNil))) dNil))) dNil))))))))
      (sCons (sSet 1 (dBin addW (dVar 1) (dFz (dLst (dCons (dTup (dCons (dTup (dCons (dC (.str "a")) (dCons (dC (.str "y")) dNil))) (dCons (dTup (dCons (dC (.str "a")) (dCons (dC (.str "x")) dNil))) dNil))) dNil)))))
      (sCons (sSet 1 (dBin addW (dVar 1) (dFz (dLst (dCons (dTup (dCons (dTup (dCons (dC (.str "a")) (dCons (dC (.str "x")) dNil))) (dCons (dTup (dCons (dC (.str "a")) (dCons (dC (.str "x")) dNil))) dNil))) (dCons (dTup (dCons (dTup (dCons (dC (.str "b")) (dCons (dC (.str "x")) dNil))) (dCons (dTup (dCons (dC (.str "a")) (dCons (dC (.str "y")) dNil))) dNil))) (dCons (dFz (dLst (dCons (dTup (dCons (dC (.str "a")) (dCons (dC (.str "x")) dNil))) dNil))) (dCons (dTup (dCons (dFz (dLst (dCons (dC (.str "a")) (dCons (dC (.str "x")) dNil)))) dNil)) dNil))))))))
      (sCons (sSet 1 (dBin addW (dVar 1) (dFz (dLst (dCons (dTup (dCons (dTup (dCons (dC (.str "a")) (dCons (dC (.int 1)) dNil))) dNil)) dNil)))))
      (sCons (sSet 1 (dBin addW (dVar 1) (dFz (dLst (dCons (dTup (dCons (dC (.int 0)) (dCons (dTup dNil) dNil))) (dCons (dTup (dCons (dC (.int 0)) (dCons (dTup (dCons (dTup (dCons (dC (.str "a")) (dCons (dC (.str "x")) dNil))) dNil)) dNil))) (dCons (dTup (dCons (dC (.bool true)) (dCons (dTup dNil) dNil))) (dCons (dTup (dCons (dUn (on1 negI) (dC (.int 1))) (dCons (dTup dNil) dNil))) (dCons (dTup (dCons (dC (.int 0)) (dCons (dFz (dLst (dCons (dTup (dCons (dC (.str "a")) (dCons (dC (.str "x")) dNil))) dNil))) dNil))) dNil)))))))))
      (sCons (sSet 1 (dBin addW (dVar 1) (dFz (dLst (dCons (dTup (dCons (dC (.int 0)) (dCons (dTup (dCons (dTup (dCons (dC (.str "b")) (dCons (dC (.str "x")) dNil))) (dCons (dTup (dCons (dC (.str "a")) (dCons (dC (.str "x")) dNil))) dNil))) dNil))) dNil)))))
      (sCons (sSet 1 (dBin addW (dVar 1) (dFz (dLst (dCons (dTup (dCons (dC (.int 0)) dNil)) (dCons (dTup (dCons (dC (.int 0)) (dCons (dTup dNil) (dCons (dTup dNil) dNil)))) (dCons (dFz (dLst (dCons (dC (.int 0)) (dCons (dTup dNil) dNil)))) (dCons (dTup (dCons (dVar 0) (dCons (dTup dNil) dNil))) (dCons (dTup (dCons (dTup (dCons (dC (.int 0)) (dCons (dTup dNil) dNil))) dNil)) (dCons (dTup (dCons (dTup (dCons (dC (.int 0)) (dCons (dTup dNil) dNil))) (dCons (dTup (dCons (dC (.int 1)) (dCons (dTup dNil) dNil))) dNil))) dNil))))))))))
      (sCons (sSet 1 (dBin addW (dVar 1) (dFz (dLst (dCons (dTup (dCons (dTup (dCons (dC (.int 1)) (dCons (dTup dNil) dNil))) (dCons (dTup (dCons (dC (.int 0)) (dCons (dTup dNil) dNil))) dNil))) dNil)))))
      (sCons (sSet 1 (dBin addW (dVar 1) (dFz (dLst (dCons (dTup (dCons (dTup (dCons (dC (.int 0)) (dCons (dTup dNil) dNil))) (dCons (dTup (dCons (dC (.int 0)) (dCons (dTup (dCons (dTup (dCons (dC (.str "a")) (dCons (dC (.str "x")) dNil))) dNil)) dNil))) dNil))) (dCons (dTup (dCons (dTup (dCons (dC (.int 0)) (dCons (dTup dNil) dNil))) (dCons (dTup (dCons (dC (.bool true)) (dCons (dTup dNil) dNil))) dNil))) (dCons (dFz (dLst (dCons (dTup (dCons (dC (.int 0)) (dCons (dTup dNil) dNil))) dNil))) (dCons (dTup (dCons (dTup (dCons (dC (.int 0)) (dCons (dTup dNil) dNil))) (dCons (dC .none) dNil))) dNil))))))))
      (sCons (sSet 1 (dBin addW (dVar 1) (dFz (dLst (dCons (dTup (dCons (dTup dNil) (dCons (dTup dNil) dNil))) (dCons (dTup (dCons (dTup (dCons (dC (.str "a")) dNil)) (dCons (dTup dNil) dNil))) (dCons (dTup (dCons (dTup dNil) (dCons (dTup (dCons (dTup dNil) dNil)) dNil))) (dCons (dTup (dCons (dTup (dCons (dC (.str "b")) (dCons (dC (.str "a")) dNil))) (dCons (dTup (dCons (dTup (dCons (dC (.str "x")) dNil)) (dCons (dTup dNil) dNil))) dNil))) dNil))))))))
      (sCons (sSet 1 (dBin addW (dVar 1) (dFz (dLst (dCons (dTup (dCons (dTup (dCons (dC (.str "a")) dNil)) (dCons (dFz (dLst (dCons (dTup (dCons (dC (.str "x")) dNil)) dNil))) dNil))) (dCons (dTup (dCons (dTup (dCons (dC (.str "a")) dNil)) (dCons (dC (.str "x")) dNil))) dNil))))))
      (sCons (sSet 1 (dBin addW (dVar 1) (dFz (dLst (dCons (dTup (dCons (dFz (dLst (dCons (dC (.str "a")) dNil))) (dCons (dTup (dCons (dTup (dCons (dC (.str "x")) dNil)) dNil)) dNil))) (dCons (dTup (dCons (dTup (dCons (dC (.str "a")) dNil)) (dCons (dTup (dCons (dFz (dLst (dCons (dC (.str "x")) dNil))) dNil)) dNil))) (dCons (dTup (dCons (dTup (dCons (dC (.str "a")) dNil)) (dCons (dTup (dCons (dTup (dCons (dC (.str "X")) dNil)) dNil)) dNil))) dNil)))))))
      (sCons (sRet (dBin addW (dVar 1) (dFz (dLst (dCons (dTup (dCons (dTup (dCons (dC (.str "a")) dNil)) (dCons (dTup (dCons (dTup (dCons (dC (.str "x")) dNil)) dNil)) (dCons (dTup dNil) dNil)))) (dCons (dTup (dCons (dTup (dCons (dC (.str "A")) dNil)) (dCons (dTup dNil) dNil))) dNil))))))
      sNil))))))))))))))))))
def f_l_fixed_values : DF := fnB gc 0 2 b_l_fixed_values
def b_l_long_values : DS := (sCons (sSet 0 (dC (.str "abcdefghijklmnopqrst")))
      (sCons (sSet 1 (dFz (dLc [2] (dRng1 (dCons (dC (.int 250)) dNil)) (.nm 2) dYes (dBin addW (dBin addW (dIx (dVar 0) (dBin (on2 (i2 divI)) (dVar 2) (dC (.int 400)))) (dIx (dVar 0) (dBin (on2 (i2 modI)) (dBin (on2 (i2 divI)) (dVar 2) (dC (.int 20))) (dC (.int 20))))) (dIx (dVar 0) (dBin (on2 (i2 modI)) (dVar 2) (dC (.int 20))))))))
      (sCons (sSet 3 (dCall (c1 tupP) (dCons (dFz (dLc [4] (dAny (dVar 1)) (.nm 4) dYes (dTup (dCons (dVar 4) (dCons (dC (.str "x")) dNil))))) dNil)))
      (sCons (sSet 5 (dCall (c1 tupP) (dCons (dFz (dLc [2] (dRng1 (dCons (dC (.int 250)) dNil)) (.nm 2) dYes (dTup (dCons (dVar 2) (dCons (dSlA (dVar 3) dNoP (dPt (dC (.int 1)))) dNil))))) dNil)))
      (sCons (sSet 6 (dCall (c1 tupP) (dCons (dFz (dLc [2] (dRng1 (dCons (dC (.int 250)) dNil)) (.nm 2) dYes (dTup (dCons (dVar 2) (dCons (dTup dNil) dNil))))) dNil)))
      (sCons (sSet 7 (dFz (dLst (dCons (dVar 3) (dCons (dUn (on1 revP) (dVar 3)) (dCons (dBin addW (dVar 3) (dSlA (dVar 3) (dPt (dUn (on1 negI) (dC (.int 1)))) dNoP)) (dCons (dBin addW (dSlA (dVar 3) dNoP (dPt (dC (.int 249)))) (dSlA (dVar 3) (dPt (dC (.int 248))) (dPt (dC (.int 249))))) (dCons (dVar 5) (dCons (dUn (on1 revP) (dVar 5)) dNil)))))))))
      (sCons (sSet 7 (dBin addW (dVar 7) (dFz (dLst (dCons (dBin addW (dVar 5) (dSlA (dVar 5) (dPt (dUn (on1 negI) (dC (.int 1)))) dNoP)) (dCons (dVar 6) (dCons (dBin addW (dVar 6) (dSlA (dVar 6) (dPt (dUn (on1 negI) (dC (.int 1)))) dNoP)) (dCons (dBin addW (dSlA (dVar 6) dNoP (dPt (dC (.int 249)))) (dTup (dCons (dTup (dCons (dC (.int 248)) (dCons (dTup dNil) dNil))) dNil))) dNil))))))))
      (sCons (sSet 7 (dBin addW (dVar 7) (dFz (dLst (dCons (dTup (dCons (dC (.int 7)) (dCons (dVar 3) dNil))) (dCons (dTup (dCons (dC (.int 7)) (dCons (dBin addW (dVar 3) (dSlA (dVar 3) (dPt (dUn (on1 negI) (dC (.int 1)))) dNoP)) dNil))) (dCons (dTup (dCons (dC (.int 7)) (dCons (dBin addW (dSlA (dVar 3) dNoP (dPt (dC (.int 249)))) (dTup (dCons (dTup (dCons (dC (.str "ttt")) (dCons (dC (.str "X")) dNil))) dNil))) dNil))) dNil)))))))
      (sCons (sSet 8 (dCall (c1 tupP) (dCons (dFz (dLc [4] (dAny (dVar 1)) (.nm 4) dYes (dTup (dCons (dVar 4) dNil)))) dNil)))
      (sCons (sSet 7 (dBin addW (dVar 7) (dFz (dLst (dCons (dTup (dCons (dTup (dCons (dC (.str "a")) dNil)) (dCons (dVar 8) dNil))) (dCons (dTup (dCons (dTup (dCons (dC (.str "a")) dNil)) (dCons (dBin addW (dVar 8) (dTup (dCons (dTup (dCons (dC (.str "A")) dNil)) dNil))) dNil))) (dCons (dTup (dCons (dTup (dCons (dC (.str "a")) dNil)) (dCons (dBin addW (dVar 8) (dTup (dCons (dFz (dLst (dCons (dC (.str "a")) dNil))) dNil))) dNil))) dNil)))))))
      (sCons (sRet (dBin addW (dVar 7) (dFz (dLst (dCons (dTup (dCons (dCall (c1 tupP) (dCons (dVar 1) dNil)) (dCons (dTup (dCons (dCall (c1 tupP) (dCons (dVar 1) dNil)) dNil)) dNil))) (dCons (dTup (dCons (dBin addW (dCall (c1 tupP) (dCons (dVar 1) dNil)) (dTup (dCons (dC (.str "A")) dNil))) (dCons (dTup dNil) dNil))) dNil))))))
      sNil)))))))))))
def f_l_long_values : DF := fnB gc 0 9 b_l_long_values
def b_l_draw : DS := (sCons (sPut (dVar 0) (dC (.str "draws")) (dBin addW (dGet (dVar 0) (dC (.str "draws"))) (dC (.int 1))))
      (sCons (sIf (dB (dBin (on2 (i2 gtI)) (dGet (dVar 0) (dC (.str "rest"))) (dC (.int 0)))) (sCons (sSet 2 (dBin (on2 (i2 modI)) (dGet (dVar 0) (dC (.str "rest"))) (dVar 1)))
      (sCons (sPut (dVar 0) (dC (.str "rest")) (dBin (on2 (i2 divI)) (dGet (dVar 0) (dC (.str "rest"))) (dVar 1)))
      (sCons (sRet (dVar 2))
      sNil))) sNil)
      (sCons (sSet 3 (dGet (dVar 0) (dC (.str "next"))))
      (sCons (sPut (dVar 0) (dC (.str "next")) (dBin addW (dVar 3) (dC (.int 1))))
      (sCons (sSet 4 (dIf (dB (dBin (on2 neP) (dGet (dVar 0) (dC (.str "cells"))) (dFz (dLst dNil)))) (dIx (dGet (dVar 0) (dC (.str "cells"))) (dBin (on2 (i2 modI)) (dVar 3) (dCall (c1 lenP) (dCons (dGet (dVar 0) (dC (.str "cells"))) dNil)))) (dC (.int 29))))
      (sCons (sIf (dAndT (dB (dBin (on2 (i2 geI)) (dVar 4) (dBin (on2 (i2 powI)) (dC (.int 10)) (dC (.int 18))))) (dB (dBin (on2 ltP) (dVar 3) (dCall (c1 lenP) (dCons (dGet (dVar 0) (dC (.str "cells"))) dNil))))) (sCons (sPut (dVar 0) (dC (.str "rest")) (dBin (on2 (i2 divI)) (dVar 4) (dVar 1)))
      (sCons (sRet (dBin (on2 (i2 modI)) (dVar 4) (dVar 1)))
      sNil)) sNil)
      (sCons (sSet 5 (dBin (on2 (i2 modI)) (dBin addW (dBin addW (dBin (on2 (i2 modI)) (dVar 4) (dC (.int 1000000447))) (dBin (on2 (i2 mulI)) (dC (.int 140009)) (dGet (dVar 0) (dC (.str "draws"))))) (dC (.int 71))) (dC (.int 2147483489))))
      (sCons (sSet 5 (dBin (on2 (i2 modI)) (dBin addW (dBin addW (dBin (on2 (i2 mulI)) (dVar 5) (dVar 5)) (dBin (on2 (i2 mulI)) (dC (.int 4099093)) (dGet (dVar 0) (dC (.str "draws"))))) (dC (.int 37))) (dC (.int 2147483477))))
      (sCons (sRet (dBin (on2 (i2 modI)) (dBin (on2 (i2 divI)) (dBin (on2 (i2 modI)) (dBin addW (dBin (on2 (i2 mulI)) (dVar 5) (dVar 5)) (dBin (on2 (i2 mulI)) (dC (.int 83)) (dVar 5))) (dC (.int 2147483423))) (dC (.int 16))) (dVar 1)))
      sNil)))))))))
def f_l_draw : DF := fnB gc 2 6 b_l_draw
def b_l_table : DS := (sCons (sPar [3, 4] (dCons (dNew (dLst (dCons (dC (.str "a")) (dCons (dC (.str "door")) (dCons (dC (.str "room")) (dCons (dC (.str "time")) (dCons (dC (.str "zzzzzzzz")) dNil))))))) (dCons (dFz (dLst (dCons (dC (.str "x")) (dCons (dC (.str "y")) (dCons (dC (.str "z")) (dCons (dC (.str "big")) (dCons (dC (.str "abcdefgh")) dNil))))))) dNil)))
      (sCons (sSet 5 (dFz (dCallN sortG (dCons (dFz (dLc [6] (dRng1 (dCons (dBin addW (dC (.int 1)) (dFn f_l_draw (dCons (dVar 0) (dCons (dVar 1) dNil)))) dNil)) (.nm 6) dYes (dMeth "list" gPop (dVar 3) (dCons (dFn f_l_draw (dCons (dVar 0) (dCons (dCall (c1 lenP) (dCons (dVar 3) dNil)) dNil))) dNil)))) dNil))))
      (sCons (sPar [7, 8] (dCons (dFz (dLc [9] (dAny (dVar 5)) (.nm 9) dYes (dBin addW (dC (.int 2)) (dFn f_l_draw (dCons (dVar 0) (dCons (dC (.int 4)) dNil)))))) (dCons (dD0 (.dt [])) dNil)))
      (sCons (sFor (.nm 6) (dRng1 (dCons (dBin addW (dC (.int 1)) (dFn f_l_draw (dCons (dVar 0) (dCons (dVar 2) dNil)))) dNil)) (sCons (sPut (dVar 8) (dCall (c1 tupP) (dCons (dFz (dLc [10] (dAny (dVar 7)) (.nm 10) dYes (dIx (dVar 4) (dFn f_l_draw (dCons (dVar 0) (dCons (dVar 10) dNil)))))) dNil)) (dC (.bool true)))
      sNil))
      (sCons (sSet 11 (dCall minDG (dCons (dVar 8) dNil)))
      (sCons (sFor (.nm 6) (dRng1 (dCons (dCall (c1 lenP) (dCons (dVar 5) dNil)) dNil)) (sCons (sIf (dB (dBin (on2 ltP) (dLenSet (dFz (dLockN 8 (dLc [12] (dKeys (dVar 8)) (.nm 12) dYes (dIx (dVar 12) (dVar 6)))))) (dC (.int 2)))) (sCons (sPut (dVar 8) (dBin addW (dBin addW (dSlA (dVar 11) dNoP (dPt (dVar 6))) (dTup (dCons (dIf (dB (dBin (on2 eqP) (dIx (dVar 11) (dVar 6)) (dC (.str "x")))) (dC (.str "y")) (dC (.str "x"))) dNil))) (dSlA (dVar 11) (dPt (dBin addW (dVar 6) (dC (.int 1)))) dNoP)) (dC (.bool true)))
      sNil) sNil)
      sNil))
      (sCons (sRet (dTup (dCons (dCall (c1 tupP) (dCons (dVar 5) dNil)) (dCons (dCall (c1 tupP) (dCons (dFz (dCallN sortDG (dCons (dVar 8) dNil))) dNil)) dNil))))
      sNil)))))))
def f_l_table : DF := fnB gc 3 13 b_l_table
def b_l_subset : DS := (sCons (sSet 2 (dFn f_l_draw (dCons (dVar 0) (dCons (dC (.int 4)) dNil))))
      (sCons (sRet (dCall (c1 tupP) (dCons (dFz (dLc [3] (dAny (dVar 1)) (.nm 3) (dAndT (dB (dBin (on2 (i2 gtI)) (dVar 2) (dC (.int 0)))) (dB (dBin (on2 eqP) (dFn f_l_draw (dCons (dVar 0) (dCons (dBin addW (dC (.int 1)) (dBin (on2 (i2 mulI)) (dC (.int 2)) (dVar 2))) dNil))) (dC (.int 0))))) (dVar 3))) dNil)))
      sNil))
def f_l_subset : DF := fnB gc 2 4 b_l_subset
def b_l_pairs : DS := (sCons (sSet 1 (dD0 (.dt [])))
      (sCons (sFor (.nm 2) (dAny (dIx (dVar 0) (dC (.int 1)))) (sCons (sDrop (dMeth "dict" gUpd (dVar 1) (dCons (dFz (dLc [3] (dZip (dCons (dIx (dVar 0) (dC (.int 0))) (dCons (dVar 2) dNil))) (.nm 3) dYes (dTup (dCons (dVar 3) (dCons (dC (.bool true)) dNil))))) dNil)))
      sNil))
      (sCons (sRet (dCall (c1 tupP) (dCons (dFz (dCallN sortDG (dCons (dVar 1) dNil))) dNil)))
      sNil)))
def f_l_pairs : DF := fnB gc 1 4 b_l_pairs
def b_l_odd : DS := (sCons (sSet 1 (dFz (dLst (dCons (dC .none) (dCons (dC (.bool true)) (dCons (dC (.bool false)) (dCons (dC (.int 0)) (dCons (dUn (on1 negI) (dC (.int 1))) (dCons (dC (.int 1)) (dCons (dC (.str "")) (dCons (dC (.str "a")) (dCons (dC (.str "A")) (dCons (dC (.str "abcdefghi")) (dCons (dTup dNil) (dCons (dFz (dLst dNil)) (dCons (dTup (dCons (dTup dNil) dNil)) (dCons (dTup (dCons (dC (.str "a")) (dCons (dC (.str "b")) dNil))) dNil)))))))))))))))))
      (sCons (sSet 1 (dBin addW (dVar 1) (dFz (dLst (dCons (dTup (dCons (dTup (dCons (dC (.str "a")) (dCons (dC (.str "x")) dNil))) dNil)) (dCons (dBin (on2 (i2 powI)) (dC (.int 10)) (dC (.int 50))) dNil))))))
      (sCons (sRet (dIx (dVar 1) (dFn f_l_draw (dCons (dVar 0) (dCons (dC (.int 16)) dNil)))))
      sNil)))
def f_l_odd : DF := fnB gc 1 2 b_l_odd
def b_l_changed (fself : DF) : DS := (sCons (sIf (dAndT (dB (dIsi "tuple" (dVar 1))) (dAndT (dB (dBin (on2 neP) (dVar 1) (dTup dNil))) (dB (dBin (on2 (i2 gtI)) (dFn f_l_draw (dCons (dVar 0) (dCons (dC (.int 4)) dNil))) (dC (.int 0)))))) (sCons (sSet 2 (dFn f_l_draw (dCons (dVar 0) (dCons (dCall (c1 lenP) (dCons (dVar 1) dNil)) dNil))))
      (sCons (sRet (dBin addW (dBin addW (dSlA (dVar 1) dNoP (dPt (dVar 2))) (dTup (dCons (dFn fself (dCons (dVar 0) (dCons (dIx (dVar 1) (dVar 2)) dNil))) dNil))) (dSlA (dVar 1) (dPt (dBin addW (dVar 2) (dC (.int 1)))) dNoP)))
      sNil)) sNil)
      (sCons (sSet 3 (dFn f_l_draw (dCons (dVar 0) (dCons (dC (.int 9)) dNil))))
      (sCons (sIf (dAndT (dB (dIsi "tuple" (dVar 1))) (dB (dBin (on2 ltP) (dVar 3) (dC (.int 7))))) (sCons (sSet 4 (dFz (dLst (dCons (dFz (dCallN listG (dCons (dVar 1) dNil))) (dCons (dSlA (dVar 1) (dPt (dC (.int 1))) dNoP) (dCons (dSlA (dVar 1) dNoP (dPt (dUn (on1 negI) (dC (.int 1))))) (dCons (dBin addW (dVar 1) (dSlA (dVar 1) (dPt (dUn (on1 negI) (dC (.int 1)))) dNoP)) (dCons (dUn (on1 revP) (dVar 1)) (dCons (dTup (dCons (dVar 1) dNil)) dNil)))))))))
      (sCons (sRet (dIx (dBin addW (dVar 4) (dFz (dLst (dCons (dBin addW (dVar 1) (dTup (dCons (dFn f_l_odd (dCons (dVar 0) dNil)) dNil))) dNil)))) (dVar 3)))
      sNil)) sNil)
      (sCons (sIf (dAndT (dB (dIsi "str" (dVar 1))) (dB (dBin (on2 ltP) (dVar 3) (dC (.int 6))))) (sCons (sRet (dIx (dFz (dLst (dCons (dBin addW (dVar 1) (dC (.str "a"))) (dCons (dSlA (dVar 1) dNoP (dPt (dUn (on1 negI) (dC (.int 1))))) (dCons (dMeth "str" (gS0 upP) (dVar 1) dNil) (dCons (dBin addW (dVar 1) (dC (.str " "))) (dCons (dFz (dLst (dCons (dVar 1) dNil))) (dCons (dBin addW (dVar 1) (dC (.str "abcdefgh"))) dNil)))))))) (dVar 3)))
      sNil) sNil)
      (sCons (sIf (dAndT (dB (dIsi "int" (dVar 1))) (dB (dBin (on2 ltP) (dVar 3) (dC (.int 5))))) (sCons (sRet (dIx (dFz (dLst (dCons (dBin addW (dVar 1) (dC (.int 1))) (dCons (dBin (on2 subP) (dVar 1) (dC (.int 1))) (dCons (dBin (on2 eqP) (dVar 1) (dC (.int 1))) (dCons (dCall (c1 strP) (dCons (dVar 1) dNil)) (dCons (dFz (dLst (dCons (dVar 1) dNil))) dNil))))))) (dVar 3)))
      sNil) sNil)
      (sCons (sRet (dFn f_l_odd (dCons (dVar 0) dNil)))
      sNil))))))
def f_l_changed : Nat → DF
  | 0 => noF
  | n + 1 => fnB gc 2 5 (b_l_changed (f_l_changed n))
def b_l_is_number : DS := (sCons (sRet (dAnd (dIsi "int" (dVar 0)) (dAnd (dNot (dIsi "bool" (dVar 0))) (dBin (on2 (i2 geI)) (dVar 0) (dC (.int 0))))))
      sNil)
def f_l_is_number : DF := fnB gc 1 1 b_l_is_number
def b_l_is_name : DS := (sCons (sRet (dAnd (dIsi "str" (dVar 0)) (dAnd (dChain (on2 ltP) (on2 ltP) (dC (.int 0)) (dCall (c1 lenP) (dCons (dVar 0) dNil)) (dC (.int 9))) (dBin (on2 eqP) (dFz (dLc [1] (dAny (dVar 0)) (.nm 1) (dNotT (dB (dChain (on2 leS) (on2 leS) (dC (.str "a")) (dVar 1) (dC (.str "z"))))) (dVar 1))) (dFz (dLst dNil))))))
      sNil)
def f_l_is_name : DF := fnB gc 1 2 b_l_is_name
def b_l_is_pair : DS := (sCons (sRet (dAnd (dIsi "tuple" (dVar 0)) (dAnd (dBin (on2 eqP) (dCall (c1 lenP) (dCons (dVar 0) dNil)) (dC (.int 2))) (dAnd (dFn f_l_is_name (dCons (dIx (dVar 0) (dC (.int 0))) dNil)) (dFn f_l_is_name (dCons (dIx (dVar 0) (dC (.int 1))) dNil))))))
      sNil)
def f_l_is_pair : DF := fnB gc 1 1 b_l_is_pair
def tab_l_are_l_is_pair : List (Str × DF) := [("_law_is_pair", f_l_is_pair)]
def b_l_are_l_is_pair : DS := (sCons (sRet (dAnd (dIsi "tuple" (dVar 1)) (dBin (on2 eqP) (dFz (dLc [2] (dAny (dVar 1)) (.nm 2) (dNotT (dB (dHeld 0 (tabF tab_l_are_l_is_pair) (dCons (dVar 2) dNil)))) (dVar 2))) (dFz (dLst dNil)))))
      sNil)
def f_l_are_l_is_pair : DF := fnB gc 2 3 b_l_are_l_is_pair
def b_l_ascends : DS := (sCons (sRet (dBin (on2 eqP) (dFz (dLc [1] (dRng2 (dCons (dC (.int 1)) (dCons (dCall (c1 lenP) (dCons (dVar 0) dNil)) dNil))) (.nm 1) (dNotT (dB (dBin (on2 ltP) (dIx (dVar 0) (dBin (on2 subP) (dVar 1) (dC (.int 1)))) (dIx (dVar 0) (dVar 1))))) (dVar 1))) (dFz (dLst dNil))))
      sNil)
def f_l_ascends : DF := fnB gc 1 2 b_l_ascends
def b_l_is_scope : DS := (sCons (sRet (dAnd (dFn f_l_are_l_is_pair (dCons (dG "_law_is_pair") (dCons (dVar 0) dNil))) (dFn f_l_ascends (dCons (dVar 0) dNil))))
      sNil)
def f_l_is_scope : DF := fnB gc 1 1 b_l_is_scope
def b_is_number : DS := (sCons (sRet (dAnd (dIsi "int" (dVar 0)) (dAnd (dNot (dIsi "bool" (dVar 0))) (dBin (on2 (i2 geI)) (dVar 0) (dC (.int 0))))))
      sNil)
def f_is_number : DF := fnB gc 1 1 b_is_number
def b_is_name : DS := (sCons (sIf (dOrT (dNotT (dB (dIsi "str" (dVar 0)))) (dNotT (dB (dChain (on2 (i2 leI)) (on2 (i2 leI)) (dC (.int 1)) (dCall (c1 lenP) (dCons (dVar 0) dNil)) (dC (.int 8)))))) (sCons (sRet (dC (.bool false)))
      sNil) sNil)
      (sCons (sRet (dCall (c1 allP) (dCons (dFz (dLc [1] (dAny (dVar 0)) (.nm 1) dYes (dBin (on2 (inP false)) (dVar 1) (dC (.str "abcdefghijklmnopqrstuvwxyz"))))) dNil)))
      sNil))
def f_is_name : DF := fnB gc 1 2 b_is_name
def b_are_names : DS := (sCons (sRet (dAnd (dIsi "tuple" (dVar 0)) (dCall (c1 allP) (dCons (dFz (dLc [1] (dAny (dVar 0)) (.nm 1) dYes (dFn f_is_name (dCons (dVar 1) dNil)))) dNil))))
      sNil)
def f_are_names : DF := fnB gc 1 2 b_are_names
def b_is_pair : DS := (sCons (sRet (dAnd (dFn f_are_names (dCons (dVar 0) dNil)) (dBin (on2 eqP) (dCall (c1 lenP) (dCons (dVar 0) dNil)) (dC (.int 2)))))
      sNil)
def f_is_pair : DF := fnB gc 1 1 b_is_pair
def b_are_pairs : DS := (sCons (sRet (dAnd (dIsi "tuple" (dVar 0)) (dCall (c1 allP) (dCons (dFz (dLc [1] (dAny (dVar 0)) (.nm 1) dYes (dFn f_is_pair (dCons (dVar 1) dNil)))) dNil))))
      sNil)
def f_are_pairs : DF := fnB gc 1 2 b_are_pairs
def b_are_ascending : DS := (sCons (sRet (dCall (c1 allP) (dCons (dFz (dLc [1, 2] (dZipL (dCons (dVar 0) (dCons (dSlA (dVar 0) (dPt (dC (.int 1))) dNoP) dNil))) (.tp [1, 2]) dYes (dBin (on2 ltP) (dVar 1) (dVar 2)))) dNil)))
      sNil)
def f_are_ascending : DF := fnB gc 1 3 b_are_ascending
def b_is_scope : DS := (sCons (sRet (dAnd (dFn f_are_pairs (dCons (dVar 0) dNil)) (dFn f_are_ascending (dCons (dVar 0) dNil))))
      sNil)
def f_is_scope : DF := fnB gc 1 1 b_is_scope
def b_is_coin : DS := (sCons (sIf (dOrT (dNotT (dB (dIsi "tuple" (dVar 0)))) (dB (dBin (on2 neP) (dCall (c1 lenP) (dCons (dVar 0) dNil)) (dC (.int 2))))) (sCons (sRet (dC (.bool false)))
      sNil) sNil)
      (sCons (sAsg (.tp [1, 2]) (dVar 0))
      (sCons (sRet (dAnd (dFn f_is_number (dCons (dVar 1) dNil)) (dFn f_is_scope (dCons (dVar 2) dNil))))
      sNil)))
def f_is_coin : DF := fnB gc 1 3 b_is_coin
def b_l_is_coin : DS := (sCons (sRet (dAnd (dIsi "tuple" (dVar 0)) (dAnd (dBin (on2 eqP) (dCall (c1 lenP) (dCons (dVar 0) dNil)) (dC (.int 2))) (dAnd (dFn f_l_is_number (dCons (dIx (dVar 0) (dC (.int 0))) dNil)) (dFn f_l_is_scope (dCons (dIx (dVar 0) (dC (.int 1))) dNil))))))
      sNil)
def f_l_is_coin : DF := fnB gc 1 1 b_l_is_coin
def tab_l_are_l_is_coin : List (Str × DF) := [("_law_is_coin", f_l_is_coin)]
def b_l_are_l_is_coin : DS := (sCons (sRet (dAnd (dIsi "tuple" (dVar 1)) (dBin (on2 eqP) (dFz (dLc [2] (dAny (dVar 1)) (.nm 2) (dNotT (dB (dHeld 0 (tabF tab_l_are_l_is_coin) (dCons (dVar 2) dNil)))) (dVar 2))) (dFz (dLst dNil)))))
      sNil)
def f_l_are_l_is_coin : DF := fnB gc 2 3 b_l_are_l_is_coin
def b_l_are_coins : DS := (sCons (sRet (dAnd (dFn f_l_are_l_is_coin (dCons (dG "_law_is_coin") (dCons (dVar 0) dNil))) (dFn f_l_ascends (dCons (dFz (dLc [1] (dAny (dVar 0)) (.nm 1) dYes (dIx (dVar 1) (dC (.int 0))))) dNil))))
      sNil)
def f_l_are_coins : DF := fnB gc 1 2 b_l_are_coins
def tab_l_are_l_is_name : List (Str × DF) := [("_law_is_name", f_l_is_name)]
def b_l_are_l_is_name : DS := (sCons (sRet (dAnd (dIsi "tuple" (dVar 1)) (dBin (on2 eqP) (dFz (dLc [2] (dAny (dVar 1)) (.nm 2) (dNotT (dB (dHeld 0 (tabF tab_l_are_l_is_name) (dCons (dVar 2) dNil)))) (dVar 2))) (dFz (dLst dNil)))))
      sNil)
def f_l_are_l_is_name : DF := fnB gc 2 3 b_l_are_l_is_name
def b_l_are_names : DS := (sCons (sRet (dFn f_l_are_l_is_name (dCons (dG "_law_is_name") (dCons (dVar 0) dNil))))
      sNil)
def f_l_are_names : DF := fnB gc 1 1 b_l_are_names
def tab_l_are_l_are_names : List (Str × DF) := [("_law_are_names", f_l_are_names)]
def b_l_are_l_are_names : DS := (sCons (sRet (dAnd (dIsi "tuple" (dVar 1)) (dBin (on2 eqP) (dFz (dLc [2] (dAny (dVar 1)) (.nm 2) (dNotT (dB (dHeld 0 (tabF tab_l_are_l_are_names) (dCons (dVar 2) dNil)))) (dVar 2))) (dFz (dLst dNil)))))
      sNil)
def f_l_are_l_are_names : DF := fnB gc 2 3 b_l_are_l_are_names
def b_l_is_shape : DS := (sCons (sIf (dOrT (dNotT (dB (dIsi "tuple" (dVar 0)))) (dB (dBin (on2 neP) (dCall (c1 lenP) (dCons (dVar 0) dNil)) (dC (.int 2))))) (sCons (sRet (dC (.bool false)))
      sNil) sNil)
      (sCons (sRet (dAnd (dFn f_l_are_names (dCons (dIx (dVar 0) (dC (.int 0))) dNil)) (dFn f_l_are_l_are_names (dCons (dG "_law_are_names") (dCons (dIx (dVar 0) (dC (.int 1))) dNil)))))
      sNil))
def f_l_is_shape : DF := fnB gc 1 1 b_l_is_shape
def b_are_coins : DS := (sCons (sIf (dOrT (dNotT (dB (dIsi "tuple" (dVar 0)))) (dNotT (dB (dCall (c1 allP) (dCons (dFz (dLc [1] (dAny (dVar 0)) (.nm 1) dYes (dFn f_is_coin (dCons (dVar 1) dNil)))) dNil))))) (sCons (sRet (dC (.bool false)))
      sNil) sNil)
      (sCons (sRet (dFn f_are_ascending (dCons (dFz (dLc [2, 3] (dAny (dVar 0)) (.tp [2, 3]) dYes (dVar 2))) dNil)))
      sNil))
def f_are_coins : DF := fnB gc 1 4 b_are_coins
def b_is_answer : DS := (sCons (sRet (dAnd (dIsi "str" (dVar 0)) (dBin (on2 (inP false)) (dVar 0) (dTup (dCons (dC (.str "yes")) (dCons (dC (.str "no")) dNil))))))
      sNil)
def f_is_answer : DF := fnB gc 1 1 b_is_answer
def b_is_table_shape : DS := (sCons (sIf (dOrT (dNotT (dB (dIsi "tuple" (dVar 0)))) (dB (dBin (on2 neP) (dCall (c1 lenP) (dCons (dVar 0) dNil)) (dC (.int 2))))) (sCons (sRet (dC (.bool false)))
      sNil) sNil)
      (sCons (sAsg (.tp [1, 2]) (dVar 0))
      (sCons (sRet (dAnd (dFn f_are_names (dCons (dVar 1) dNil)) (dAnd (dIsi "tuple" (dVar 2)) (dCall (c1 allP) (dCons (dFz (dLc [3] (dAny (dVar 2)) (.nm 3) dYes (dFn f_are_names (dCons (dVar 3) dNil)))) dNil)))))
      sNil)))
def f_is_table_shape : DF := fnB gc 1 4 b_is_table_shape
def b_law : DS := (sCons (sSet 1 (dFn f_l_reader (dCons (dVar 0) dNil)))
      (sCons (sSet 2 (dBin addW (dFn f_l_fixed_values dNil) (dFn f_l_long_values dNil)))
      (sCons (sFor (.nm 3) (dRng1 (dCons (dC (.int 5)) dNil)) (sCons (sSet 4 (dFn f_l_table (dCons (dVar 1) (dCons (dC (.int 4)) (dCons (dC (.int 12)) dNil)))))
      (sCons (sSet 5 (dFn f_l_subset (dCons (dVar 1) (dCons (dFn f_l_pairs (dCons (dVar 4) dNil)) dNil))))
      (sCons (sSet 6 (dCall (c1 tupP) (dCons (dFz (dLc [7] (dRng1 (dCons (dC (.int 3)) dNil)) (.nm 7) dYes (dTup (dCons (dBin addW (dBin (on2 (i2 mulI)) (dC (.int 2)) (dVar 7)) (dFn f_l_draw (dCons (dVar 1) (dCons (dC (.int 2)) dNil)))) (dCons (dFn f_l_subset (dCons (dVar 1) (dCons (dFn f_l_pairs (dCons (dVar 4) dNil)) dNil))) dNil))))) dNil)))
      (sCons (sFor (.nm 8) (dAny (dTup (dCons (dVar 4) (dCons (dVar 5) (dCons (dVar 6) (dCons (dIx (dIx (dVar 4) (dC (.int 1))) (dC (.int 0))) (dCons (dSlA (dVar 5) dNoP (dPt (dC (.int 1)))) (dCons (dIx (dVar 6) (dC (.int 0))) dNil)))))))) (sCons (sSet 9 (dFn (f_l_changed 12) (dCons (dVar 1) (dCons (dVar 8) dNil))))
      (sCons (sSet 2 (dBin addW (dVar 2) (dFz (dLst (dCons (dVar 8) (dCons (dVar 9) (dCons (dFn (f_l_changed 12) (dCons (dVar 1) (dCons (dVar 9) dNil))) (dCons (dFz (dCallN listG (dCons (dVar 8) dNil))) (dCons (dUn (on1 revP) (dVar 8)) dNil)))))))))
      sNil)))
      sNil)))))
      (sCons (sFor (.nm 8) (dAny (dVar 2)) (sCons (sSet 10 (dCall (c1 reprP) (dCons (dVar 8) dNil)))
      (sCons (sSet 11 (dFz (dLst (dCons (dFn f_l_is_number (dCons (dVar 8) dNil)) (dCons (dFn f_l_is_name (dCons (dVar 8) dNil)) (dCons (dFn f_l_is_pair (dCons (dVar 8) dNil)) (dCons (dFn f_l_is_scope (dCons (dVar 8) dNil)) dNil)))))))
      (sCons (sSet 11 (dBin addW (dVar 11) (dFz (dLst (dCons (dFn f_l_is_coin (dCons (dVar 8) dNil)) (dCons (dFn f_l_are_coins (dCons (dVar 8) dNil)) (dCons (dBin (on2 (inP false)) (dVar 8) (dTup (dCons (dC (.str "yes")) (dCons (dC (.str "no")) dNil)))) dNil)))))))
      (sCons (sSet 11 (dBin addW (dVar 11) (dFz (dLst (dCons (dFn f_l_is_shape (dCons (dVar 8) dNil)) dNil)))))
      (sCons (sSet 12 (dFz (dLst (dCons (dFn f_is_number (dCons (dVar 8) dNil)) (dCons (dFn f_is_name (dCons (dVar 8) dNil)) (dCons (dFn f_is_pair (dCons (dVar 8) dNil)) (dCons (dFn f_is_scope (dCons (dVar 8) dNil)) (dCons (dFn f_is_coin (dCons (dVar 8) dNil)) dNil))))))))
      (sCons (sSet 12 (dBin addW (dVar 12) (dFz (dLst (dCons (dFn f_are_coins (dCons (dVar 8) dNil)) dNil)))))
      (sCons (sIf (dOrT (dB (dBin (on2 neP) (dCall (c1 reprP) (dCons (dBin addW (dVar 12) (dFz (dLst (dCons (dFn f_is_answer (dCons (dVar 8) dNil)) (dCons (dFn f_is_table_shape (dCons (dVar 8) dNil)) dNil))))) dNil)) (dCall (c1 reprP) (dCons (dVar 11) dNil)))) (dB (dBin (on2 neP) (dCall (c1 reprP) (dCons (dVar 8) dNil)) (dVar 10)))) (sCons (sRet (dC (.bool false)))
      sNil) sNil)
      sNil))))))))
      (sCons (sRet (dC (.bool true)))
      sNil)))))
def f_law : DF := fnB gc 1 13 b_law
section
variable {P : Program} {w : World} {K : PySem.W.Frag} {mg : Str → Option Value} {base : Heap}
theorem c_l_reader (M : Mo K mg) : CalG P w K mg base 1 "_law_reader" f_l_reader :=
  calG M.d_l_reader gcNew_ok sc_l_reader (d := b_l_reader) <| fun f cdv A outer s H E hgd hr => by
    have hu := hr.units
    have hu1 := hu_of hr
    have hu5 := hu5_of hr
    exact (ss_cons (s_ret (e_disp (sp_cons (e_fz (n_callTy (hv := bo_list) b_list M.z_list (a_cons (e_slA (e_var 0) p_no (p_e e_int)) a_nil))) (sp_cons e_int (sp_cons e_int (sp_cons e_int sp_nil))))))
      ss_nil)
theorem c_l_fixed_values (M : Mo K mg) : CalG P w K mg base 1 "_law_fixed_values" f_l_fixed_values :=
  calG M.d_l_fixed_values gc_ok sc_l_fixed_values (d := b_l_fixed_values) <| fun f cdv A outer s H E hgd hr => by
    have hu := hr.units
    have hu1 := hu_of hr
    have hu5 := hu5_of hr
    exact (ss_cons (s_set 0 sc_l_fixed_values.nd (e_bin o_pow e_int e_int))
      (ss_cons (s_set 1 sc_l_fixed_values.nd (e_fz (n_lst (a_cons e_int (a_cons e_int (a_cons (e_var 0) (a_cons (e_un o_neg e_int) (a_cons e_bl (a_cons e_bl (a_cons e_non (a_cons e_str (a_cons e_str (a_cons e_str (a_cons e_str (a_cons e_str (a_cons e_str a_nil))))))))))))))))
      (ss_cons (s_set 1 sc_l_fixed_values.nd (e_bin o_add (e_var 1) (e_fz (n_lst (a_cons e_str (a_cons e_str (a_cons e_str (a_cons e_str a_nil))))))))
      (ss_cons (s_set 1 sc_l_fixed_values.nd (e_bin o_add (e_var 1) (e_fz (n_lst (a_cons e_str (a_cons e_str (a_cons e_str (a_cons e_str (a_cons (e_tup a_nil) (a_cons (e_fz (n_lst a_nil)) (a_cons (e_tup (a_cons e_str a_nil)) (a_cons (e_tup (a_cons e_str (a_cons e_str a_nil))) (a_cons (e_fz (n_lst (a_cons e_str (a_cons e_str a_nil)))) (a_cons (e_tup (a_cons e_str (a_cons e_str a_nil))) a_nil))))))))))))))
      (ss_cons (s_set 1 sc_l_fixed_values.nd (e_bin o_add (e_var 1) (e_fz (n_lst (a_cons (e_tup (a_cons e_str (a_cons e_str a_nil))) a_nil)))))
      (ss_cons (s_set 1 sc_l_fixed_values.nd (e_bin o_add (e_var 1) (e_fz (n_lst (a_cons (e_tup (a_cons e_str (a_cons e_str (a_cons e_str a_nil)))) (a_cons (e_tup (a_cons e_str (a_cons e_non a_nil))) (a_cons (e_tup (a_cons (e_tup (a_cons e_str (a_cons e_str a_nil))) a_nil)) (a_cons (e_tup (a_cons (e_tup (a_cons e_str (a_cons e_str a_nil))) (a_cons (e_tup (a_cons e_str (a_cons e_str a_nil))) a_nil))) a_nil))))))))
      (ss_cons (s_set 1 sc_l_fixed_values.nd (e_bin o_add (e_var 1) (e_fz (n_lst (a_cons (e_tup (a_cons (e_tup (a_cons e_str (a_cons e_str a_nil))) (a_cons (e_tup (a_cons e_str (a_cons e_str a_nil))) a_nil))) a_nil)))))
      (ss_cons (s_set 1 sc_l_fixed_values.nd (e_bin o_add (e_var 1) (e_fz (n_lst (a_cons (e_tup (a_cons (e_tup (a_cons e_str (a_cons e_str a_nil))) (a_cons (e_tup (a_cons e_str (a_cons e_str a_nil))) a_nil))) (a_cons (e_tup (a_cons (e_tup (a_cons e_str (a_cons e_str a_nil))) (a_cons (e_tup (a_cons e_str (a_cons e_str a_nil))) a_nil))) (a_cons (e_fz (n_lst (a_cons (e_tup (a_cons e_str (a_cons e_str a_nil))) a_nil))) (a_cons (e_tup (a_cons (e_fz (n_lst (a_cons e_str (a_cons e_str a_nil)))) a_nil)) a_nil))))))))
      (ss_cons (s_set 1 sc_l_fixed_values.nd (e_bin o_add (e_var 1) (e_fz (n_lst (a_cons (e_tup (a_cons (e_tup (a_cons e_str (a_cons e_int a_nil))) a_nil)) a_nil)))))
      (ss_cons (s_set 1 sc_l_fixed_values.nd (e_bin o_add (e_var 1) (e_fz (n_lst (a_cons (e_tup (a_cons e_int (a_cons (e_tup a_nil) a_nil))) (a_cons (e_tup (a_cons e_int (a_cons (e_tup (a_cons (e_tup (a_cons e_str (a_cons e_str a_nil))) a_nil)) a_nil))) (a_cons (e_tup (a_cons e_bl (a_cons (e_tup a_nil) a_nil))) (a_cons (e_tup (a_cons (e_un o_neg e_int) (a_cons (e_tup a_nil) a_nil))) (a_cons (e_tup (a_cons e_int (a_cons (e_fz (n_lst (a_cons (e_tup (a_cons e_str (a_cons e_str a_nil))) a_nil))) a_nil))) a_nil)))))))))
      (ss_cons (s_set 1 sc_l_fixed_values.nd (e_bin o_add (e_var 1) (e_fz (n_lst (a_cons (e_tup (a_cons e_int (a_cons (e_tup (a_cons (e_tup (a_cons e_str (a_cons e_str a_nil))) (a_cons (e_tup (a_cons e_str (a_cons e_str a_nil))) a_nil))) a_nil))) a_nil)))))
      (ss_cons (s_set 1 sc_l_fixed_values.nd (e_bin o_add (e_var 1) (e_fz (n_lst (a_cons (e_tup (a_cons e_int a_nil)) (a_cons (e_tup (a_cons e_int (a_cons (e_tup a_nil) (a_cons (e_tup a_nil) a_nil)))) (a_cons (e_fz (n_lst (a_cons e_int (a_cons (e_tup a_nil) a_nil)))) (a_cons (e_tup (a_cons (e_var 0) (a_cons (e_tup a_nil) a_nil))) (a_cons (e_tup (a_cons (e_tup (a_cons e_int (a_cons (e_tup a_nil) a_nil))) a_nil)) (a_cons (e_tup (a_cons (e_tup (a_cons e_int (a_cons (e_tup a_nil) a_nil))) (a_cons (e_tup (a_cons e_int (a_cons (e_tup a_nil) a_nil))) a_nil))) a_nil))))))))))
      (ss_cons (s_set 1 sc_l_fixed_values.nd (e_bin o_add (e_var 1) (e_fz (n_lst (a_cons (e_tup (a_cons (e_tup (a_cons e_int (a_cons (e_tup a_nil) a_nil))) (a_cons (e_tup (a_cons e_int (a_cons (e_tup a_nil) a_nil))) a_nil))) a_nil)))))
      (ss_cons (s_set 1 sc_l_fixed_values.nd (e_bin o_add (e_var 1) (e_fz (n_lst (a_cons (e_tup (a_cons (e_tup (a_cons e_int (a_cons (e_tup a_nil) a_nil))) (a_cons (e_tup (a_cons e_int (a_cons (e_tup (a_cons (e_tup (a_cons e_str (a_cons e_str a_nil))) a_nil)) a_nil))) a_nil))) (a_cons (e_tup (a_cons (e_tup (a_cons e_int (a_cons (e_tup a_nil) a_nil))) (a_cons (e_tup (a_cons e_bl (a_cons (e_tup a_nil) a_nil))) a_nil))) (a_cons (e_fz (n_lst (a_cons (e_tup (a_cons e_int (a_cons (e_tup a_nil) a_nil))) a_nil))) (a_cons (e_tup (a_cons (e_tup (a_cons e_int (a_cons (e_tup a_nil) a_nil))) (a_cons e_non a_nil))) a_nil))))))))
      (ss_cons (s_set 1 sc_l_fixed_values.nd (e_bin o_add (e_var 1) (e_fz (n_lst (a_cons (e_tup (a_cons (e_tup a_nil) (a_cons (e_tup a_nil) a_nil))) (a_cons (e_tup (a_cons (e_tup (a_cons e_str a_nil)) (a_cons (e_tup a_nil) a_nil))) (a_cons (e_tup (a_cons (e_tup a_nil) (a_cons (e_tup (a_cons (e_tup a_nil) a_nil)) a_nil))) (a_cons (e_tup (a_cons (e_tup (a_cons e_str (a_cons e_str a_nil))) (a_cons (e_tup (a_cons (e_tup (a_cons e_str a_nil)) (a_cons (e_tup a_nil) a_nil))) a_nil))) a_nil))))))))
      (ss_cons (s_set 1 sc_l_fixed_values.nd (e_bin o_add (e_var 1) (e_fz (n_lst (a_cons (e_tup (a_cons (e_tup (a_cons e_str a_nil)) (a_cons (e_fz (n_lst (a_cons (e_tup (a_cons e_str a_nil)) a_nil))) a_nil))) (a_cons (e_tup (a_cons (e_tup (a_cons e_str a_nil)) (a_cons e_str a_nil))) a_nil))))))
      (ss_cons (s_set 1 sc_l_fixed_values.nd (e_bin o_add (e_var 1) (e_fz (n_lst (a_cons (e_tup (a_cons (e_fz (n_lst (a_cons e_str a_nil))) (a_cons (e_tup (a_cons (e_tup (a_cons e_str a_nil)) a_nil)) a_nil))) (a_cons (e_tup (a_cons (e_tup (a_cons e_str a_nil)) (a_cons (e_tup (a_cons (e_fz (n_lst (a_cons e_str a_nil))) a_nil)) a_nil))) (a_cons (e_tup (a_cons (e_tup (a_cons e_str a_nil)) (a_cons (e_tup (a_cons (e_tup (a_cons e_str a_nil)) a_nil)) a_nil))) a_nil)))))))
      (ss_cons (s_ret (e_bin o_add (e_var 1) (e_fz (n_lst (a_cons (e_tup (a_cons (e_tup (a_cons e_str a_nil)) (a_cons (e_tup (a_cons (e_tup (a_cons e_str a_nil)) a_nil)) (a_cons (e_tup a_nil) a_nil)))) (a_cons (e_tup (a_cons (e_tup (a_cons e_str a_nil)) (a_cons (e_tup a_nil) a_nil))) a_nil))))))
      ss_nil))))))))))))))))))
theorem c_l_long_values (M : Mo K mg) : CalG P w K mg base 1 "_law_long_values" f_l_long_values :=
  calG M.d_l_long_values gc_ok sc_l_long_values (d := b_l_long_values) <| fun f cdv A outer s H E hgd hr => by
    have hu := hr.units
    have hu1 := hu_of hr
    have hu5 := hu5_of hr
    exact (ss_cons (s_set 0 sc_l_long_values.nd e_str)
      (ss_cons (by first | exact s_setLc 1 [("_law_k", 2)] sc_l_long_values.nd (i_rng1 M.z_range (a_cons e_int a_nil)) (blkOk_by (by kernel_rfl)) (fun _ _ _ _ _ => (g_nm 2 sc_l_long_values.nd)) (fun _ _ _ _ _ => ts_nil) (fun _ _ _ _ _ => (e_bin o_add (e_bin o_add (e_ix (e_var 0) (e_bin o_div (e_var 2) e_int)) (e_ix (e_var 0) (e_bin o_mod (e_bin o_div (e_var 2) e_int) e_int))) (e_ix (e_var 0) (e_bin o_mod (e_var 2) e_int)))) (by rfl) | exact s_set 1 sc_l_long_values.nd (e_fz (n_lc [("_law_k", 2)] sc_l_long_values.nd (i_rng1 M.z_range (a_cons e_int a_nil)) (blkOk_by (by kernel_rfl)) (fun _ _ _ _ _ => (g_nm 2 sc_l_long_values.nd)) (fun _ _ _ _ _ => ts_nil) (fun _ _ _ _ _ => (e_bin o_add (e_bin o_add (e_ix (e_var 0) (e_bin o_div (e_var 2) e_int)) (e_ix (e_var 0) (e_bin o_mod (e_bin o_div (e_var 2) e_int) e_int))) (e_ix (e_var 0) (e_bin o_mod (e_var 2) e_int)))))))
      (ss_cons (s_set 3 sc_l_long_values.nd (e_callTy (hv := bo_tuple) b_tuple M.z_tuple (a_cons (e_fz (n_lc [("_law_one", 4)] sc_l_long_values.nd (i_any (e_var 1)) (blkOk_by (by kernel_rfl)) (fun _ _ _ _ _ => (g_nm 4 sc_l_long_values.nd)) (fun _ _ _ _ _ => ts_nil) (fun _ _ _ _ _ => (e_tup (a_cons (e_var 4) (a_cons e_str a_nil)))))) a_nil)))
      (ss_cons (s_set 5 sc_l_long_values.nd (e_callTy (hv := bo_tuple) b_tuple M.z_tuple (a_cons (e_fz (n_lc [("_law_k", 2)] sc_l_long_values.nd (i_rng1 M.z_range (a_cons e_int a_nil)) (blkOk_by (by kernel_rfl)) (fun _ _ _ _ _ => (g_nm 2 sc_l_long_values.nd)) (fun _ _ _ _ _ => ts_nil) (fun _ _ _ _ _ => (e_tup (a_cons (e_var 2) (a_cons (e_slA (e_var 3) p_no (p_e e_int)) a_nil)))))) a_nil)))
      (ss_cons (s_set 6 sc_l_long_values.nd (e_callTy (hv := bo_tuple) b_tuple M.z_tuple (a_cons (e_fz (n_lc [("_law_k", 2)] sc_l_long_values.nd (i_rng1 M.z_range (a_cons e_int a_nil)) (blkOk_by (by kernel_rfl)) (fun _ _ _ _ _ => (g_nm 2 sc_l_long_values.nd)) (fun _ _ _ _ _ => ts_nil) (fun _ _ _ _ _ => (e_tup (a_cons (e_var 2) (a_cons (e_tup a_nil) a_nil)))))) a_nil)))
      (ss_cons (s_set 7 sc_l_long_values.nd (e_fz (n_lst (a_cons (e_var 3) (a_cons (e_revT (e_var 3)) (a_cons (e_bin o_add (e_var 3) (e_slA (e_var 3) (p_e (e_un o_neg e_int)) p_no)) (a_cons (e_bin o_add (e_slA (e_var 3) p_no (p_e e_int)) (e_slA (e_var 3) (p_e e_int) (p_e e_int))) (a_cons (e_var 5) (a_cons (e_revT (e_var 5)) a_nil)))))))))
      (ss_cons (s_set 7 sc_l_long_values.nd (e_bin o_add (e_var 7) (e_fz (n_lst (a_cons (e_bin o_add (e_var 5) (e_slA (e_var 5) (p_e (e_un o_neg e_int)) p_no)) (a_cons (e_var 6) (a_cons (e_bin o_add (e_var 6) (e_slA (e_var 6) (p_e (e_un o_neg e_int)) p_no)) (a_cons (e_bin o_add (e_slA (e_var 6) p_no (p_e e_int)) (e_tup (a_cons (e_tup (a_cons e_int (a_cons (e_tup a_nil) a_nil))) a_nil))) a_nil))))))))
      (ss_cons (s_set 7 sc_l_long_values.nd (e_bin o_add (e_var 7) (e_fz (n_lst (a_cons (e_tup (a_cons e_int (a_cons (e_var 3) a_nil))) (a_cons (e_tup (a_cons e_int (a_cons (e_bin o_add (e_var 3) (e_slA (e_var 3) (p_e (e_un o_neg e_int)) p_no)) a_nil))) (a_cons (e_tup (a_cons e_int (a_cons (e_bin o_add (e_slA (e_var 3) p_no (p_e e_int)) (e_tup (a_cons (e_tup (a_cons e_str (a_cons e_str a_nil))) a_nil))) a_nil))) a_nil)))))))
      (ss_cons (s_set 8 sc_l_long_values.nd (e_callTy (hv := bo_tuple) b_tuple M.z_tuple (a_cons (e_fz (n_lc [("_law_one", 4)] sc_l_long_values.nd (i_any (e_var 1)) (blkOk_by (by kernel_rfl)) (fun _ _ _ _ _ => (g_nm 4 sc_l_long_values.nd)) (fun _ _ _ _ _ => ts_nil) (fun _ _ _ _ _ => (e_tup (a_cons (e_var 4) a_nil))))) a_nil)))
      (ss_cons (s_set 7 sc_l_long_values.nd (e_bin o_add (e_var 7) (e_fz (n_lst (a_cons (e_tup (a_cons (e_tup (a_cons e_str a_nil)) (a_cons (e_var 8) a_nil))) (a_cons (e_tup (a_cons (e_tup (a_cons e_str a_nil)) (a_cons (e_bin o_add (e_var 8) (e_tup (a_cons (e_tup (a_cons e_str a_nil)) a_nil))) a_nil))) (a_cons (e_tup (a_cons (e_tup (a_cons e_str a_nil)) (a_cons (e_bin o_add (e_var 8) (e_tup (a_cons (e_fz (n_lst (a_cons e_str a_nil))) a_nil))) a_nil))) a_nil)))))))
      (ss_cons (s_ret (e_bin o_add (e_var 7) (e_fz (n_lst (a_cons (e_tup (a_cons (e_callTy (hv := bo_tuple) b_tuple M.z_tuple (a_cons (e_var 1) a_nil)) (a_cons (e_tup (a_cons (e_callTy (hv := bo_tuple) b_tuple M.z_tuple (a_cons (e_var 1) a_nil)) a_nil)) a_nil))) (a_cons (e_tup (a_cons (e_bin o_add (e_callTy (hv := bo_tuple) b_tuple M.z_tuple (a_cons (e_var 1) a_nil)) (e_tup (a_cons e_str a_nil))) (a_cons (e_tup a_nil) a_nil))) a_nil))))))
      ss_nil)))))))))))
theorem c_l_draw (M : Mo K mg) : CalG P w K mg base 1 "_law_draw" f_l_draw :=
  calG M.d_l_draw gc_ok sc_l_draw (d := b_l_draw) <| fun f cdv A outer s H E hgd hr => by
    have hu := hr.units
    have hu1 := hu_of hr
    have hu5 := hu5_of hr
    exact (ss_cons (s_put hu1 (e_var 0) e_str (e_bin o_add (e_dget hu1 (e_var 0) e_str) e_int))
      (ss_cons (s_if (t_cmp o_gtI (e_dget hu1 (e_var 0) e_str) e_int) (ss_cons (s_set 2 sc_l_draw.nd (e_bin o_mod (e_dget hu1 (e_var 0) e_str) (e_var 1)))
      (ss_cons (s_put hu1 (e_var 0) e_str (e_bin o_div (e_dget hu1 (e_var 0) e_str) (e_var 1)))
      (ss_cons (s_ret (e_var 2))
      ss_nil))) ss_nil)
      (ss_cons (s_set 3 sc_l_draw.nd (e_dget hu1 (e_var 0) e_str))
      (ss_cons (s_put hu1 (e_var 0) e_str (e_bin o_add (e_var 3) e_int))
      (ss_cons (s_set 4 sc_l_draw.nd (e_if (t_cmp (o_ne hu) (e_dget hu1 (e_var 0) e_str) (e_fz (n_lst a_nil))) (e_ix (e_dget hu1 (e_var 0) e_str) (e_bin o_mod (e_var 3) (e_callB (hv := bo_len) b_len M.z_len (a_cons (e_dget hu1 (e_var 0) e_str) a_nil)))) e_int))
      (ss_cons (s_if (L2.PW.pt (t_and (t_cmp o_geI (e_var 4) (e_bin o_pow e_int e_int)) (t_and1 (t_cmp (o_lt hu) (e_var 3) (e_callB (hv := bo_len) b_len M.z_len (a_cons (e_dget hu1 (e_var 0) e_str) a_nil)))))) (ss_cons (s_put hu1 (e_var 0) e_str (e_bin o_div (e_var 4) (e_var 1)))
      (ss_cons (s_ret (e_bin o_mod (e_var 4) (e_var 1)))
      ss_nil)) ss_nil)
      (ss_cons (s_set 5 sc_l_draw.nd (e_bin o_mod (e_bin o_add (e_bin o_add (e_bin o_mod (e_var 4) e_int) (e_bin o_mul e_int (e_dget hu1 (e_var 0) e_str))) e_int) e_int))
      (ss_cons (s_set 5 sc_l_draw.nd (e_bin o_mod (e_bin o_add (e_bin o_add (e_bin o_mul (e_var 5) (e_var 5)) (e_bin o_mul e_int (e_dget hu1 (e_var 0) e_str))) e_int) e_int))
      (ss_cons (s_ret (e_bin o_mod (e_bin o_div (e_bin o_mod (e_bin o_add (e_bin o_mul (e_var 5) (e_var 5)) (e_bin o_mul e_int (e_var 5))) e_int) e_int) (e_var 1)))
      ss_nil)))))))))
theorem c_l_table (M : Mo K mg) : CalG P w K mg base 2 "_law_table" f_l_table :=
  calG M.d_l_table gc_ok sc_l_table (d := b_l_table) <| fun f cdv A outer s H E hgd hr => by
    have hu := hr.units
    have hu1 := hu_of hr
    have hu5 := hu5_of hr
    exact (ss_cons (by first | exact s_par2 3 4 sc_l_table.nd (a_cons (e_new (n_lst (a_cons e_str (a_cons e_str (a_cons e_str (a_cons e_str (a_cons e_str a_nil))))))) (a_cons (e_fz (n_lst (a_cons e_str (a_cons e_str (a_cons e_str (a_cons e_str (a_cons e_str a_nil))))))) a_nil)) | exact s_parT (g_cons 3 sc_l_table.nd (g_cons 4 sc_l_table.nd g_nil)) (a_cons (e_new (n_lst (a_cons e_str (a_cons e_str (a_cons e_str (a_cons e_str (a_cons e_str a_nil))))))) (a_cons (e_fz (n_lst (a_cons e_str (a_cons e_str (a_cons e_str (a_cons e_str (a_cons e_str a_nil))))))) a_nil)))
      (ss_cons (s_set 5 sc_l_table.nd (e_fz (n_callB (hv := bo_sorted) (b_sorted hu) M.z_sorted (a_cons (e_fz (n_lc [("_law_k", 6)] sc_l_table.nd (i_rng1 M.z_range (a_cons (e_bin o_add e_int (e_call (c_l_draw M) hgd hr (a_cons (e_var 0) (a_cons (e_var 1) a_nil)))) a_nil)) (blkOk_by (by kernel_rfl)) (fun _ _ _ _ _ => (g_nm 6 sc_l_table.nd)) (fun _ _ _ _ _ => ts_nil) (fun _ _ _ _ _ => (e_pop (e_var 3) (a_cons (e_call (c_l_draw M) hgd hr (a_cons (e_var 0) (a_cons (e_callB (hv := bo_len) b_len M.z_len (a_cons (e_var 3) a_nil)) a_nil))) a_nil))))) a_nil))))
      (ss_cons (by first | exact s_par2 7 8 sc_l_table.nd (a_cons (e_fz (n_lc [("_law_head", 9)] sc_l_table.nd (i_any (e_var 5)) (blkOk_by (by kernel_rfl)) (fun _ _ _ _ _ => (g_nm 9 sc_l_table.nd)) (fun _ _ _ _ _ => ts_nil) (fun _ _ _ _ _ => (e_bin o_add e_int (e_call (c_l_draw M) hgd hr (a_cons (e_var 0) (a_cons e_int a_nil))))))) (a_cons e_dt0 a_nil)) | exact s_parT (g_cons 7 sc_l_table.nd (g_cons 8 sc_l_table.nd g_nil)) (a_cons (e_fz (n_lc [("_law_head", 9)] sc_l_table.nd (i_any (e_var 5)) (blkOk_by (by kernel_rfl)) (fun _ _ _ _ _ => (g_nm 9 sc_l_table.nd)) (fun _ _ _ _ _ => ts_nil) (fun _ _ _ _ _ => (e_bin o_add e_int (e_call (c_l_draw M) hgd hr (a_cons (e_var 0) (a_cons e_int a_nil))))))) (a_cons e_dt0 a_nil)))
      (ss_cons (s_for (i_rng1 M.z_range (a_cons (e_bin o_add e_int (e_call (c_l_draw M) hgd hr (a_cons (e_var 0) (a_cons (e_var 2) a_nil)))) a_nil)) (g_nm 6 sc_l_table.nd) (ss_cons (s_put hu1 (e_var 8) (e_callTy (hv := bo_tuple) b_tuple M.z_tuple (a_cons (e_fz (n_lc [("_law_width", 10)] sc_l_table.nd (i_any (e_var 7)) (blkOk_by (by kernel_rfl)) (fun _ _ _ _ _ => (g_nm 10 sc_l_table.nd)) (fun _ _ _ _ _ => ts_nil) (fun _ _ _ _ _ => (e_ix (e_var 4) (e_call (c_l_draw M) hgd hr (a_cons (e_var 0) (a_cons (e_var 10) a_nil))))))) a_nil)) e_bl)
      ss_nil))
      (ss_cons (s_set 11 sc_l_table.nd (e_callB (hv := bo_min) (b_minD hu) M.z_min (a_cons (e_var 8) a_nil)))
      (ss_cons (s_for (i_rng1 M.z_range (a_cons (e_callB (hv := bo_len) b_len M.z_len (a_cons (e_var 5) a_nil)) a_nil)) (g_nm 6 sc_l_table.nd) (ss_cons (s_if (t_cmp (o_lt hu) (e_lenSet M.z_len M.z_set (e_fz (n_lock 8 (n_lc [("_law_entry", 12)] sc_l_table.nd (i_keys (e_var 8)) (blkOk_by (by kernel_rfl)) (fun _ _ _ _ _ => (g_nm 12 sc_l_table.nd)) (fun _ _ _ _ _ => ts_nil) (fun _ _ _ _ _ => (e_ix (e_var 12) (e_var 6))))))) e_int) (ss_cons (s_put hu1 (e_var 8) (e_bin o_add (e_bin o_add (e_slA (e_var 11) p_no (p_e (e_var 6))) (e_tup (a_cons (e_if (t_cmp (o_eq hu) (e_ix (e_var 11) (e_var 6)) e_str) e_str e_str) a_nil))) (e_slA (e_var 11) (p_e (e_bin o_add (e_var 6) e_int)) p_no)) e_bl)
      ss_nil) ss_nil)
      ss_nil))
      (ss_cons (s_ret (e_tup (a_cons (e_callTy (hv := bo_tuple) b_tuple M.z_tuple (a_cons (e_var 5) a_nil)) (a_cons (e_callTy (hv := bo_tuple) b_tuple M.z_tuple (a_cons (e_fz (n_callB (hv := bo_sorted) (b_sortedD hu) M.z_sorted (a_cons (e_var 8) a_nil))) a_nil)) a_nil))))
      ss_nil)))))))
theorem c_l_subset (M : Mo K mg) : CalG P w K mg base 2 "_law_subset" f_l_subset :=
  calG M.d_l_subset gc_ok sc_l_subset (d := b_l_subset) <| fun f cdv A outer s H E hgd hr => by
    have hu := hr.units
    have hu1 := hu_of hr
    have hu5 := hu5_of hr
    exact (ss_cons (s_set 2 sc_l_subset.nd (e_call (c_l_draw M) hgd hr (a_cons (e_var 0) (a_cons e_int a_nil))))
      (ss_cons (s_ret (e_callTy (hv := bo_tuple) b_tuple M.z_tuple (a_cons (e_fz (n_lc [("_law_part", 3)] sc_l_subset.nd (i_any (e_var 1)) (blkOk_by (by kernel_rfl)) (fun _ _ _ _ _ => (g_nm 3 sc_l_subset.nd)) (fun _ _ _ _ _ => (ts_one (L2.PW.pt (t_and (t_cmp o_gtI (e_var 2) e_int) (t_and1 (t_cmp (o_eq hu) (e_call (c_l_draw M) hgd hr (a_cons (e_var 0) (a_cons (e_bin o_add e_int (e_bin o_mul e_int (e_var 2))) a_nil))) e_int)))))) (fun _ _ _ _ _ => (e_var 3)))) a_nil)))
      ss_nil))
theorem c_l_pairs (M : Mo K mg) : CalG P w K mg base 1 "_law_pairs" f_l_pairs :=
  calG M.d_l_pairs gc_ok sc_l_pairs (d := b_l_pairs) <| fun f cdv A outer s H E hgd hr => by
    have hu := hr.units
    have hu1 := hu_of hr
    have hu5 := hu5_of hr
    exact (ss_cons (s_set 1 sc_l_pairs.nd e_dt0)
      (ss_cons (s_for (i_any (e_ix (e_var 0) e_int)) (g_nm 2 sc_l_pairs.nd) (ss_cons (s_expr (e_update hu (e_var 1) (a_cons (e_fz (n_lc [("_law_part", 3)] sc_l_pairs.nd (i_zipN M.z_zip (a_cons (e_ix (e_var 0) e_int) (a_cons (e_var 2) a_nil))) (blkOk_by (by kernel_rfl)) (fun _ _ _ _ _ => (g_nm 3 sc_l_pairs.nd)) (fun _ _ _ _ _ => ts_nil) (fun _ _ _ _ _ => (e_tup (a_cons (e_var 3) (a_cons e_bl a_nil)))))) a_nil)))
      ss_nil))
      (ss_cons (s_ret (e_callTy (hv := bo_tuple) b_tuple M.z_tuple (a_cons (e_fz (n_callB (hv := bo_sorted) (b_sortedD hu) M.z_sorted (a_cons (e_var 1) a_nil))) a_nil)))
      ss_nil)))
theorem c_l_odd (M : Mo K mg) : CalG P w K mg base 2 "_law_odd" f_l_odd :=
  calG M.d_l_odd gc_ok sc_l_odd (d := b_l_odd) <| fun f cdv A outer s H E hgd hr => by
    have hu := hr.units
    have hu1 := hu_of hr
    have hu5 := hu5_of hr
    exact (ss_cons (s_set 1 sc_l_odd.nd (e_fz (n_lst (a_cons e_non (a_cons e_bl (a_cons e_bl (a_cons e_int (a_cons (e_un o_neg e_int) (a_cons e_int (a_cons e_str (a_cons e_str (a_cons e_str (a_cons e_str (a_cons (e_tup a_nil) (a_cons (e_fz (n_lst a_nil)) (a_cons (e_tup (a_cons (e_tup a_nil) a_nil)) (a_cons (e_tup (a_cons e_str (a_cons e_str a_nil))) a_nil)))))))))))))))))
      (ss_cons (s_set 1 sc_l_odd.nd (e_bin o_add (e_var 1) (e_fz (n_lst (a_cons (e_tup (a_cons (e_tup (a_cons e_str (a_cons e_str a_nil))) a_nil)) (a_cons (e_bin o_pow e_int e_int) a_nil))))))
      (ss_cons (s_ret (e_ix (e_var 1) (e_call (c_l_draw M) hgd hr (a_cons (e_var 0) (a_cons e_int a_nil)))))
      ss_nil)))
theorem c_l_changed (M : Mo K mg) : ∀ n : Nat, CalG P w K mg base (2 + n) "_law_changed" (f_l_changed n)
  | 0 => calG_none M.d_l_changed
  | n + 1 => calG (k := 2 + n) M.d_l_changed gc_ok sc_l_changed (d := b_l_changed (f_l_changed n)) <| fun f cdv A outer s H E hgd hr => by
    have hu := hr.units
    have hu1 := hu_of hr
    have hu5 := hu5_of hr
    exact (have cself := c_l_changed M n
    (ss_cons (s_if (L2.PW.pt (t_and (t_val (e_isi (hv := bo_tuple) M.z_isinstance M.z_tuple (e_var 1))) (t_and (t_cmp (o_ne hu) (e_var 1) (e_tup a_nil)) (t_and1 (t_cmp o_gtI (e_call (hk := by omega) (c_l_draw M) hgd hr (a_cons (e_var 0) (a_cons e_int a_nil))) e_int))))) (ss_cons (s_set 2 sc_l_changed.nd (e_call (hk := by omega) (c_l_draw M) hgd hr (a_cons (e_var 0) (a_cons (e_callB (hv := bo_len) b_len M.z_len (a_cons (e_var 1) a_nil)) a_nil))))
      (ss_cons (s_ret (e_bin o_add (e_bin o_add (e_slA (e_var 1) p_no (p_e (e_var 2))) (e_tup (a_cons (e_call (hk := by omega) cself hgd hr (a_cons (e_var 0) (a_cons (e_ix (e_var 1) (e_var 2)) a_nil))) a_nil))) (e_slA (e_var 1) (p_e (e_bin o_add (e_var 2) e_int)) p_no)))
      ss_nil)) ss_nil)
      (ss_cons (s_set 3 sc_l_changed.nd (e_call (hk := by omega) (c_l_draw M) hgd hr (a_cons (e_var 0) (a_cons e_int a_nil))))
      (ss_cons (s_if (L2.PW.pt (t_and (t_val (e_isi (hv := bo_tuple) M.z_isinstance M.z_tuple (e_var 1))) (t_and1 (t_cmp (o_lt hu) (e_var 3) e_int)))) (ss_cons (s_set 4 sc_l_changed.nd (e_fz (n_lst (a_cons (e_fz (n_callTy (hv := bo_list) b_list M.z_list (a_cons (e_var 1) a_nil))) (a_cons (e_slA (e_var 1) (p_e e_int) p_no) (a_cons (e_slA (e_var 1) p_no (p_e (e_un o_neg e_int))) (a_cons (e_bin o_add (e_var 1) (e_slA (e_var 1) (p_e (e_un o_neg e_int)) p_no)) (a_cons (e_revT (e_var 1)) (a_cons (e_tup (a_cons (e_var 1) a_nil)) a_nil)))))))))
      (ss_cons (s_ret (e_ix (e_bin o_add (e_var 4) (e_fz (n_lst (a_cons (e_bin o_add (e_var 1) (e_tup (a_cons (e_call (hk := by omega) (c_l_odd M) hgd hr (a_cons (e_var 0) a_nil)) a_nil))) a_nil)))) (e_var 3)))
      ss_nil)) ss_nil)
      (ss_cons (s_if (L2.PW.pt (t_and (t_val (e_isi (hv := bo_str) M.z_isinstance M.z_str (e_var 1))) (t_and1 (t_cmp (o_lt hu) (e_var 3) e_int)))) (ss_cons (s_ret (e_ix (e_fz (n_lst (a_cons (e_bin o_add (e_var 1) e_str) (a_cons (e_slA (e_var 1) p_no (p_e (e_un o_neg e_int))) (a_cons (e_upper (e_var 1)) (a_cons (e_bin o_add (e_var 1) e_str) (a_cons (e_fz (n_lst (a_cons (e_var 1) a_nil))) (a_cons (e_bin o_add (e_var 1) e_str) a_nil)))))))) (e_var 3)))
      ss_nil) ss_nil)
      (ss_cons (s_if (L2.PW.pt (t_and (t_val (e_isi (hv := bo_int) M.z_isinstance M.z_int (e_var 1))) (t_and1 (t_cmp (o_lt hu) (e_var 3) e_int)))) (ss_cons (s_ret (e_ix (e_fz (n_lst (a_cons (e_bin o_add (e_var 1) e_int) (a_cons (e_bin o_sub (e_var 1) e_int) (a_cons (e_cmp (o_eq hu) (e_var 1) e_int) (a_cons (e_callTy (hv := bo_str) b_str M.z_str (a_cons (e_var 1) a_nil)) (a_cons (e_fz (n_lst (a_cons (e_var 1) a_nil))) a_nil))))))) (e_var 3)))
      ss_nil) ss_nil)
      (ss_cons (s_ret (e_call (hk := by omega) (c_l_odd M) hgd hr (a_cons (e_var 0) a_nil)))
      ss_nil)))))))
theorem c_l_is_number (M : Mo K mg) : CalG P w K mg base 1 "_law_is_number" f_l_is_number :=
  calG M.d_l_is_number gc_ok sc_l_is_number (d := b_l_is_number) <| fun f cdv A outer s H E hgd hr => by
    have hu := hr.units
    have hu1 := hu_of hr
    have hu5 := hu5_of hr
    exact (ss_cons (s_ret (e_and (e_isi (hv := bo_int) M.z_isinstance M.z_int (e_var 0)) (e_and (e_not (e_isi (hv := bo_bool) M.z_isinstance M.z_bool (e_var 0))) (e_one (e_cmp o_geI (e_var 0) e_int)))))
      ss_nil)
theorem c_l_is_name (M : Mo K mg) : CalG P w K mg base 1 "_law_is_name" f_l_is_name :=
  calG M.d_l_is_name gc_ok sc_l_is_name (d := b_l_is_name) <| fun f cdv A outer s H E hgd hr => by
    have hu := hr.units
    have hu1 := hu_of hr
    have hu5 := hu5_of hr
    exact (ss_cons (s_ret (e_and (e_isi (hv := bo_str) M.z_isinstance M.z_str (e_var 0)) (e_and (e_chain (o_lt hu) (o_lt hu) e_int (e_callB (hv := bo_len) b_len M.z_len (a_cons (e_var 0) a_nil)) e_int) (e_one (e_cmp (o_eq hu) (e_fz (n_lc [("_law_sign", 1)] sc_l_is_name.nd (i_any (e_var 0)) (blkOk_by (by kernel_rfl)) (fun _ _ _ _ _ => (g_nm 1 sc_l_is_name.nd)) (fun _ _ _ _ _ => (ts_one (t_not (t_chain o_leS o_leS e_str (e_var 1) e_str)))) (fun _ _ _ _ _ => (e_var 1)))) (e_fz (n_lst a_nil)))))))
      ss_nil)
theorem c_l_is_pair (M : Mo K mg) : CalG P w K mg base 2 "_law_is_pair" f_l_is_pair :=
  calG M.d_l_is_pair gc_ok sc_l_is_pair (d := b_l_is_pair) <| fun f cdv A outer s H E hgd hr => by
    have hu := hr.units
    have hu1 := hu_of hr
    have hu5 := hu5_of hr
    exact (ss_cons (s_ret (e_and (e_isi (hv := bo_tuple) M.z_isinstance M.z_tuple (e_var 0)) (e_and (e_cmp (o_eq hu) (e_callB (hv := bo_len) b_len M.z_len (a_cons (e_var 0) a_nil)) e_int) (e_and (e_call (c_l_is_name M) hgd hr (a_cons (e_ix (e_var 0) e_int) a_nil)) (e_one (e_call (c_l_is_name M) hgd hr (a_cons (e_ix (e_var 0) e_int) a_nil)))))))
      ss_nil)
theorem tabC_l_are_l_is_pair (M : Mo K mg) : ∀ q ∈ tab_l_are_l_is_pair, CalG P w K mg base 2 q.1 q.2 := fun q hq => by
  cases List.mem_singleton.mp hq; exact c_l_is_pair M
theorem tabD_l_are_l_is_pair (M : Mo K mg) : ∀ q ∈ tab_l_are_l_is_pair, ∃ st ps, DefG K mg q.1 st ps := fun q hq => by
  cases List.mem_singleton.mp hq; exact ⟨_, _, M.d_l_is_pair⟩
theorem c_l_are_l_is_pair (M : Mo K mg) : CalG P w K mg base 3 "_law_are" f_l_are_l_is_pair :=
  calG M.d_l_are gc_ok sc_l_are (d := b_l_are_l_is_pair) <| fun f cdv A outer s H E hgd hr => by
    have hu := hr.units
    have hu1 := hu_of hr
    have hu5 := hu5_of hr
    exact (ss_cons (s_ret (e_and (e_isi (hv := bo_tuple) M.z_isinstance M.z_tuple (e_var 1)) (e_one (e_cmp (o_eq hu) (e_fz (n_lc [("_law_part", 2)] sc_l_are.nd (i_any (e_var 1)) (blkOk_by (by kernel_rfl)) (fun _ _ _ _ _ => (g_nm 2 sc_l_are.nd)) (fun _ _ _ _ _ => (ts_one (t_not (t_val (e_heldT 0 (tabC_l_are_l_is_pair M) (tabD_l_are_l_is_pair M) hgd hr (a_cons (e_var 2) a_nil)))))) (fun _ _ _ _ _ => (e_var 2)))) (e_fz (n_lst a_nil))))))
      ss_nil)
theorem c_l_ascends (M : Mo K mg) : CalG P w K mg base 1 "_law_ascends" f_l_ascends :=
  calG M.d_l_ascends gc_ok sc_l_ascends (d := b_l_ascends) <| fun f cdv A outer s H E hgd hr => by
    have hu := hr.units
    have hu1 := hu_of hr
    have hu5 := hu5_of hr
    exact (ss_cons (s_ret (e_cmp (o_eq hu) (e_fz (n_lc [("_law_k", 1)] sc_l_ascends.nd (i_rng2 M.z_range (a_cons e_int (a_cons (e_callB (hv := bo_len) b_len M.z_len (a_cons (e_var 0) a_nil)) a_nil))) (blkOk_by (by kernel_rfl)) (fun _ _ _ _ _ => (g_nm 1 sc_l_ascends.nd)) (fun _ _ _ _ _ => (ts_one (t_not (t_cmp (o_lt hu) (e_ix (e_var 0) (e_bin o_sub (e_var 1) e_int)) (e_ix (e_var 0) (e_var 1)))))) (fun _ _ _ _ _ => (e_var 1)))) (e_fz (n_lst a_nil))))
      ss_nil)
theorem c_l_is_scope (M : Mo K mg) : CalG P w K mg base 4 "_law_is_scope" f_l_is_scope :=
  calG M.d_l_is_scope gc_ok sc_l_is_scope (d := b_l_is_scope) <| fun f cdv A outer s H E hgd hr => by
    have hu := hr.units
    have hu1 := hu_of hr
    have hu5 := hu5_of hr
    exact (ss_cons (s_ret (e_and (e_call (c_l_are_l_is_pair M) hgd hr (a_cons (e_defG M.d_l_is_pair) (a_cons (e_var 0) a_nil))) (e_one (e_call (c_l_ascends M) hgd hr (a_cons (e_var 0) a_nil)))))
      ss_nil)
theorem c_is_number (M : Mo K mg) : CalG P w K mg base 1 "is_number" f_is_number :=
  calG M.d_is_number gc_ok sc_is_number (d := b_is_number) <| fun f cdv A outer s H E hgd hr => by
    have hu := hr.units
    have hu1 := hu_of hr
    have hu5 := hu5_of hr
    exact (ss_cons (s_ret (e_and (e_isi (hv := bo_int) M.z_isinstance M.z_int (e_var 0)) (e_and (e_not (e_isi (hv := bo_bool) M.z_isinstance M.z_bool (e_var 0))) (e_one (e_cmp o_geI (e_var 0) e_int)))))
      ss_nil)
theorem c_is_name (M : Mo K mg) : CalG P w K mg base 1 "is_name" f_is_name :=
  calG M.d_is_name gc_ok sc_is_name (d := b_is_name) <| fun f cdv A outer s H E hgd hr => by
    have hu := hr.units
    have hu1 := hu_of hr
    have hu5 := hu5_of hr
    exact (ss_cons (s_if (L2.PW.pt (t_or (t_not (t_val (e_isi (hv := bo_str) M.z_isinstance M.z_str (e_var 0)))) (t_or1 (t_not (t_chain o_leI o_leI e_int (e_callB (hv := bo_len) b_len M.z_len (a_cons (e_var 0) a_nil)) (e_globI M.m_LONGEST)))))) (ss_cons (s_ret e_bl)
      ss_nil) ss_nil)
      (ss_cons (s_ret (e_callB (hv := bo_all) b_all M.z_all (a_cons (e_fz (n_lc [("letter", 1)] sc_is_name.nd (i_any (e_var 0)) (blkOk_by (by kernel_rfl)) (fun _ _ _ _ _ => (g_nm 1 sc_is_name.nd)) (fun _ _ _ _ _ => ts_nil) (fun _ _ _ _ _ => (e_cmp (o_in hu5) (e_var 1) (e_globS M.m_LETTERS))))) a_nil)))
      ss_nil))
theorem c_are_names (M : Mo K mg) : CalG P w K mg base 2 "are_names" f_are_names :=
  calG M.d_are_names gc_ok sc_are_names (d := b_are_names) <| fun f cdv A outer s H E hgd hr => by
    have hu := hr.units
    have hu1 := hu_of hr
    have hu5 := hu5_of hr
    exact (ss_cons (s_ret (e_and (e_isi (hv := bo_tuple) M.z_isinstance M.z_tuple (e_var 0)) (e_one (e_callB (hv := bo_all) b_all M.z_all (a_cons (e_fz (n_lc [("part", 1)] sc_are_names.nd (i_any (e_var 0)) (blkOk_by (by kernel_rfl)) (fun _ _ _ _ _ => (g_nm 1 sc_are_names.nd)) (fun _ _ _ _ _ => ts_nil) (fun _ _ _ _ _ => (e_call (c_is_name M) hgd hr (a_cons (e_var 1) a_nil))))) a_nil)))))
      ss_nil)
theorem c_is_pair (M : Mo K mg) : CalG P w K mg base 3 "is_pair" f_is_pair :=
  calG M.d_is_pair gc_ok sc_is_pair (d := b_is_pair) <| fun f cdv A outer s H E hgd hr => by
    have hu := hr.units
    have hu1 := hu_of hr
    have hu5 := hu5_of hr
    exact (ss_cons (s_ret (e_and (e_call (c_are_names M) hgd hr (a_cons (e_var 0) a_nil)) (e_one (e_cmp (o_eq hu) (e_callB (hv := bo_len) b_len M.z_len (a_cons (e_var 0) a_nil)) e_int))))
      ss_nil)
theorem c_are_pairs (M : Mo K mg) : CalG P w K mg base 4 "are_pairs" f_are_pairs :=
  calG M.d_are_pairs gc_ok sc_are_pairs (d := b_are_pairs) <| fun f cdv A outer s H E hgd hr => by
    have hu := hr.units
    have hu1 := hu_of hr
    have hu5 := hu5_of hr
    exact (ss_cons (s_ret (e_and (e_isi (hv := bo_tuple) M.z_isinstance M.z_tuple (e_var 0)) (e_one (e_callB (hv := bo_all) b_all M.z_all (a_cons (e_fz (n_lc [("part", 1)] sc_are_pairs.nd (i_any (e_var 0)) (blkOk_by (by kernel_rfl)) (fun _ _ _ _ _ => (g_nm 1 sc_are_pairs.nd)) (fun _ _ _ _ _ => ts_nil) (fun _ _ _ _ _ => (e_call (c_is_pair M) hgd hr (a_cons (e_var 1) a_nil))))) a_nil)))))
      ss_nil)
theorem c_are_ascending (M : Mo K mg) : CalG P w K mg base 1 "are_ascending" f_are_ascending :=
  calG M.d_are_ascending gc_ok sc_are_ascending (d := b_are_ascending) <| fun f cdv A outer s H E hgd hr => by
    have hu := hr.units
    have hu1 := hu_of hr
    have hu5 := hu5_of hr
    exact (ss_cons (s_ret (e_callB (hv := bo_all) b_all M.z_all (a_cons (e_fz (n_lc [("first", 1), ("second", 2)] sc_are_ascending.nd (i_zipT M.z_zip (a_cons (e_var 0) (a_cons (e_slA (e_var 0) (p_e e_int) p_no) a_nil))) (blkOk_by (by kernel_rfl)) (fun _ _ _ _ _ => (g_tp (g_cons 1 sc_are_ascending.nd (g_cons 2 sc_are_ascending.nd g_nil)))) (fun _ _ _ _ _ => ts_nil) (fun _ _ _ _ _ => (e_cmp (o_lt hu) (e_var 1) (e_var 2))))) a_nil)))
      ss_nil)
theorem c_is_scope (M : Mo K mg) : CalG P w K mg base 5 "is_scope" f_is_scope :=
  calG M.d_is_scope gc_ok sc_is_scope (d := b_is_scope) <| fun f cdv A outer s H E hgd hr => by
    have hu := hr.units
    have hu1 := hu_of hr
    have hu5 := hu5_of hr
    exact (ss_cons (s_ret (e_and (e_call (c_are_pairs M) hgd hr (a_cons (e_var 0) a_nil)) (e_one (e_call (c_are_ascending M) hgd hr (a_cons (e_var 0) a_nil)))))
      ss_nil)
theorem c_is_coin (M : Mo K mg) : CalG P w K mg base 6 "is_coin" f_is_coin :=
  calG M.d_is_coin gc_ok sc_is_coin (d := b_is_coin) <| fun f cdv A outer s H E hgd hr => by
    have hu := hr.units
    have hu1 := hu_of hr
    have hu5 := hu5_of hr
    exact (ss_cons (s_if (L2.PW.pt (t_or (t_not (t_val (e_isi (hv := bo_tuple) M.z_isinstance M.z_tuple (e_var 0)))) (t_or1 (t_cmp (o_ne hu) (e_callB (hv := bo_len) b_len M.z_len (a_cons (e_var 0) a_nil)) e_int)))) (ss_cons (s_ret e_bl)
      ss_nil) ss_nil)
      (ss_cons (s_asg (e_var 0) (g_tp (g_cons 1 sc_is_coin.nd (g_cons 2 sc_is_coin.nd g_nil))))
      (ss_cons (s_ret (e_and (e_call (c_is_number M) hgd hr (a_cons (e_var 1) a_nil)) (e_one (e_call (c_is_scope M) hgd hr (a_cons (e_var 2) a_nil)))))
      ss_nil)))
theorem c_l_is_coin (M : Mo K mg) : CalG P w K mg base 5 "_law_is_coin" f_l_is_coin :=
  calG M.d_l_is_coin gc_ok sc_l_is_coin (d := b_l_is_coin) <| fun f cdv A outer s H E hgd hr => by
    have hu := hr.units
    have hu1 := hu_of hr
    have hu5 := hu5_of hr
    exact (ss_cons (s_ret (e_and (e_isi (hv := bo_tuple) M.z_isinstance M.z_tuple (e_var 0)) (e_and (e_cmp (o_eq hu) (e_callB (hv := bo_len) b_len M.z_len (a_cons (e_var 0) a_nil)) e_int) (e_and (e_call (c_l_is_number M) hgd hr (a_cons (e_ix (e_var 0) e_int) a_nil)) (e_one (e_call (c_l_is_scope M) hgd hr (a_cons (e_ix (e_var 0) e_int) a_nil)))))))
      ss_nil)
theorem tabC_l_are_l_is_coin (M : Mo K mg) : ∀ q ∈ tab_l_are_l_is_coin, CalG P w K mg base 5 q.1 q.2 := fun q hq => by
  cases List.mem_singleton.mp hq; exact c_l_is_coin M
theorem tabD_l_are_l_is_coin (M : Mo K mg) : ∀ q ∈ tab_l_are_l_is_coin, ∃ st ps, DefG K mg q.1 st ps := fun q hq => by
  cases List.mem_singleton.mp hq; exact ⟨_, _, M.d_l_is_coin⟩
theorem c_l_are_l_is_coin (M : Mo K mg) : CalG P w K mg base 6 "_law_are" f_l_are_l_is_coin :=
  calG M.d_l_are gc_ok sc_l_are (d := b_l_are_l_is_coin) <| fun f cdv A outer s H E hgd hr => by
    have hu := hr.units
    have hu1 := hu_of hr
    have hu5 := hu5_of hr
    exact (ss_cons (s_ret (e_and (e_isi (hv := bo_tuple) M.z_isinstance M.z_tuple (e_var 1)) (e_one (e_cmp (o_eq hu) (e_fz (n_lc [("_law_part", 2)] sc_l_are.nd (i_any (e_var 1)) (blkOk_by (by kernel_rfl)) (fun _ _ _ _ _ => (g_nm 2 sc_l_are.nd)) (fun _ _ _ _ _ => (ts_one (t_not (t_val (e_heldT 0 (tabC_l_are_l_is_coin M) (tabD_l_are_l_is_coin M) hgd hr (a_cons (e_var 2) a_nil)))))) (fun _ _ _ _ _ => (e_var 2)))) (e_fz (n_lst a_nil))))))
      ss_nil)
theorem c_l_are_coins (M : Mo K mg) : CalG P w K mg base 7 "_law_are_coins" f_l_are_coins :=
  calG M.d_l_are_coins gc_ok sc_l_are_coins (d := b_l_are_coins) <| fun f cdv A outer s H E hgd hr => by
    have hu := hr.units
    have hu1 := hu_of hr
    have hu5 := hu5_of hr
    exact (ss_cons (s_ret (e_and (e_call (c_l_are_l_is_coin M) hgd hr (a_cons (e_defG M.d_l_is_coin) (a_cons (e_var 0) a_nil))) (e_one (e_call (c_l_ascends M) hgd hr (a_cons (e_fz (n_lc [("_law_part", 1)] sc_l_are_coins.nd (i_any (e_var 0)) (blkOk_by (by kernel_rfl)) (fun _ _ _ _ _ => (g_nm 1 sc_l_are_coins.nd)) (fun _ _ _ _ _ => ts_nil) (fun _ _ _ _ _ => (e_ix (e_var 1) e_int)))) a_nil)))))
      ss_nil)
theorem tabC_l_are_l_is_name (M : Mo K mg) : ∀ q ∈ tab_l_are_l_is_name, CalG P w K mg base 1 q.1 q.2 := fun q hq => by
  cases List.mem_singleton.mp hq; exact c_l_is_name M
theorem tabD_l_are_l_is_name (M : Mo K mg) : ∀ q ∈ tab_l_are_l_is_name, ∃ st ps, DefG K mg q.1 st ps := fun q hq => by
  cases List.mem_singleton.mp hq; exact ⟨_, _, M.d_l_is_name⟩
theorem c_l_are_l_is_name (M : Mo K mg) : CalG P w K mg base 2 "_law_are" f_l_are_l_is_name :=
  calG M.d_l_are gc_ok sc_l_are (d := b_l_are_l_is_name) <| fun f cdv A outer s H E hgd hr => by
    have hu := hr.units
    have hu1 := hu_of hr
    have hu5 := hu5_of hr
    exact (ss_cons (s_ret (e_and (e_isi (hv := bo_tuple) M.z_isinstance M.z_tuple (e_var 1)) (e_one (e_cmp (o_eq hu) (e_fz (n_lc [("_law_part", 2)] sc_l_are.nd (i_any (e_var 1)) (blkOk_by (by kernel_rfl)) (fun _ _ _ _ _ => (g_nm 2 sc_l_are.nd)) (fun _ _ _ _ _ => (ts_one (t_not (t_val (e_heldT 0 (tabC_l_are_l_is_name M) (tabD_l_are_l_is_name M) hgd hr (a_cons (e_var 2) a_nil)))))) (fun _ _ _ _ _ => (e_var 2)))) (e_fz (n_lst a_nil))))))
      ss_nil)
theorem c_l_are_names (M : Mo K mg) : CalG P w K mg base 3 "_law_are_names" f_l_are_names :=
  calG M.d_l_are_names gc_ok sc_l_are_names (d := b_l_are_names) <| fun f cdv A outer s H E hgd hr => by
    have hu := hr.units
    have hu1 := hu_of hr
    have hu5 := hu5_of hr
    exact (ss_cons (s_ret (e_call (c_l_are_l_is_name M) hgd hr (a_cons (e_defG M.d_l_is_name) (a_cons (e_var 0) a_nil))))
      ss_nil)
theorem tabC_l_are_l_are_names (M : Mo K mg) : ∀ q ∈ tab_l_are_l_are_names, CalG P w K mg base 3 q.1 q.2 := fun q hq => by
  cases List.mem_singleton.mp hq; exact c_l_are_names M
theorem tabD_l_are_l_are_names (M : Mo K mg) : ∀ q ∈ tab_l_are_l_are_names, ∃ st ps, DefG K mg q.1 st ps := fun q hq => by
  cases List.mem_singleton.mp hq; exact ⟨_, _, M.d_l_are_names⟩
theorem c_l_are_l_are_names (M : Mo K mg) : CalG P w K mg base 4 "_law_are" f_l_are_l_are_names :=
  calG M.d_l_are gc_ok sc_l_are (d := b_l_are_l_are_names) <| fun f cdv A outer s H E hgd hr => by
    have hu := hr.units
    have hu1 := hu_of hr
    have hu5 := hu5_of hr
    exact (ss_cons (s_ret (e_and (e_isi (hv := bo_tuple) M.z_isinstance M.z_tuple (e_var 1)) (e_one (e_cmp (o_eq hu) (e_fz (n_lc [("_law_part", 2)] sc_l_are.nd (i_any (e_var 1)) (blkOk_by (by kernel_rfl)) (fun _ _ _ _ _ => (g_nm 2 sc_l_are.nd)) (fun _ _ _ _ _ => (ts_one (t_not (t_val (e_heldT 0 (tabC_l_are_l_are_names M) (tabD_l_are_l_are_names M) hgd hr (a_cons (e_var 2) a_nil)))))) (fun _ _ _ _ _ => (e_var 2)))) (e_fz (n_lst a_nil))))))
      ss_nil)
theorem c_l_is_shape (M : Mo K mg) : CalG P w K mg base 5 "_law_is_shape" f_l_is_shape :=
  calG M.d_l_is_shape gc_ok sc_l_is_shape (d := b_l_is_shape) <| fun f cdv A outer s H E hgd hr => by
    have hu := hr.units
    have hu1 := hu_of hr
    have hu5 := hu5_of hr
    exact (ss_cons (s_if (L2.PW.pt (t_or (t_not (t_val (e_isi (hv := bo_tuple) M.z_isinstance M.z_tuple (e_var 0)))) (t_or1 (t_cmp (o_ne hu) (e_callB (hv := bo_len) b_len M.z_len (a_cons (e_var 0) a_nil)) e_int)))) (ss_cons (s_ret e_bl)
      ss_nil) ss_nil)
      (ss_cons (s_ret (e_and (e_call (c_l_are_names M) hgd hr (a_cons (e_ix (e_var 0) e_int) a_nil)) (e_one (e_call (c_l_are_l_are_names M) hgd hr (a_cons (e_defG M.d_l_are_names) (a_cons (e_ix (e_var 0) e_int) a_nil))))))
      ss_nil))
theorem c_are_coins (M : Mo K mg) : CalG P w K mg base 7 "are_coins" f_are_coins :=
  calG M.d_are_coins gc_ok sc_are_coins (d := b_are_coins) <| fun f cdv A outer s H E hgd hr => by
    have hu := hr.units
    have hu1 := hu_of hr
    have hu5 := hu5_of hr
    exact (ss_cons (s_if (L2.PW.pt (t_or (t_not (t_val (e_isi (hv := bo_tuple) M.z_isinstance M.z_tuple (e_var 0)))) (t_or1 (t_not (t_val (e_callB (hv := bo_all) b_all M.z_all (a_cons (e_fz (n_lc [("coin", 1)] sc_are_coins.nd (i_any (e_var 0)) (blkOk_by (by kernel_rfl)) (fun _ _ _ _ _ => (g_nm 1 sc_are_coins.nd)) (fun _ _ _ _ _ => ts_nil) (fun _ _ _ _ _ => (e_call (c_is_coin M) hgd hr (a_cons (e_var 1) a_nil))))) a_nil))))))) (ss_cons (s_ret e_bl)
      ss_nil) ss_nil)
      (ss_cons (s_ret (e_call (c_are_ascending M) hgd hr (a_cons (e_fz (n_lc [("number", 2), ("scope", 3)] sc_are_coins.nd (i_any (e_var 0)) (blkOk_by (by kernel_rfl)) (fun _ _ _ _ _ => (g_tp (g_cons 2 sc_are_coins.nd (g_cons 3 sc_are_coins.nd g_nil)))) (fun _ _ _ _ _ => ts_nil) (fun _ _ _ _ _ => (e_var 2)))) a_nil)))
      ss_nil))
theorem c_is_answer (M : Mo K mg) : CalG P w K mg base 1 "is_answer" f_is_answer :=
  calG M.d_is_answer gc_ok sc_is_answer (d := b_is_answer) <| fun f cdv A outer s H E hgd hr => by
    have hu := hr.units
    have hu1 := hu_of hr
    have hu5 := hu5_of hr
    exact (ss_cons (s_ret (e_and (e_isi (hv := bo_str) M.z_isinstance M.z_str (e_var 0)) (e_one (e_cmp (o_in hu5) (e_var 0) (e_tup (a_cons e_str (a_cons e_str a_nil)))))))
      ss_nil)
theorem c_is_table_shape (M : Mo K mg) : CalG P w K mg base 3 "is_table_shape" f_is_table_shape :=
  calG M.d_is_table_shape gc_ok sc_is_table_shape (d := b_is_table_shape) <| fun f cdv A outer s H E hgd hr => by
    have hu := hr.units
    have hu1 := hu_of hr
    have hu5 := hu5_of hr
    exact (ss_cons (s_if (L2.PW.pt (t_or (t_not (t_val (e_isi (hv := bo_tuple) M.z_isinstance M.z_tuple (e_var 0)))) (t_or1 (t_cmp (o_ne hu) (e_callB (hv := bo_len) b_len M.z_len (a_cons (e_var 0) a_nil)) e_int)))) (ss_cons (s_ret e_bl)
      ss_nil) ss_nil)
      (ss_cons (s_asg (e_var 0) (g_tp (g_cons 1 sc_is_table_shape.nd (g_cons 2 sc_is_table_shape.nd g_nil))))
      (ss_cons (s_ret (e_and (e_call (c_are_names M) hgd hr (a_cons (e_var 1) a_nil)) (e_and (e_isi (hv := bo_tuple) M.z_isinstance M.z_tuple (e_var 2)) (e_one (e_callB (hv := bo_all) b_all M.z_all (a_cons (e_fz (n_lc [("row", 3)] sc_is_table_shape.nd (i_any (e_var 2)) (blkOk_by (by kernel_rfl)) (fun _ _ _ _ _ => (g_nm 3 sc_is_table_shape.nd)) (fun _ _ _ _ _ => ts_nil) (fun _ _ _ _ _ => (e_call (c_are_names M) hgd hr (a_cons (e_var 3) a_nil))))) a_nil))))))
      ss_nil)))
theorem g_law {f : Addr} {fd : FuncData} (M : Mo K mg) (F : Fun K "law" "law" st_law f fd) : FnG P w K mg base CX0 15 f fd ["_law_script"] (spF K mg f_law) :=
  mk_fn (N := ["_law_script", "_law_reader_here", "_law_values", "_law_turn", "_law_grid", "_law_gone", "_law_coins_now", "_law_k", "_law_value", "_law_once", "_law_saved", "_law_want", "_law_got"]) (ps := ["_law_script"]) (d := b_law) gc_ok F sc_law <| fun cdv A outer s H E hgd hr => by
    have hu := hr.units
    have hu1 := hu_of hr
    have hu5 := hu5_of hr
    exact (ss_cons (s_set 1 sc_law.nd (e_call (c_l_reader M) hgd hr (a_cons (e_var 0) a_nil)))
      (ss_cons (s_set 2 sc_law.nd (e_bin o_add (e_call0 (c_l_fixed_values M) hgd hr) (e_call0 (c_l_long_values M) hgd hr)))
      (ss_cons (s_for (i_rng1 M.z_range (a_cons e_int a_nil)) (g_nm 3 sc_law.nd) (ss_cons (s_set 4 sc_law.nd (e_call (c_l_table M) hgd hr (a_cons (e_var 1) (a_cons e_int (a_cons e_int a_nil)))))
      (ss_cons (s_set 5 sc_law.nd (e_call (c_l_subset M) hgd hr (a_cons (e_var 1) (a_cons (e_call (c_l_pairs M) hgd hr (a_cons (e_var 4) a_nil)) a_nil))))
      (ss_cons (s_set 6 sc_law.nd (e_callTy (hv := bo_tuple) b_tuple M.z_tuple (a_cons (e_fz (n_lc [("_law_k", 7)] sc_law.nd (i_rng1 M.z_range (a_cons e_int a_nil)) (blkOk_by (by kernel_rfl)) (fun _ _ _ _ _ => (g_nm 7 sc_law.nd)) (fun _ _ _ _ _ => ts_nil) (fun _ _ _ _ _ => (e_tup (a_cons (e_bin o_add (e_bin o_mul e_int (e_var 7)) (e_call (c_l_draw M) hgd hr (a_cons (e_var 1) (a_cons e_int a_nil)))) (a_cons (e_call (c_l_subset M) hgd hr (a_cons (e_var 1) (a_cons (e_call (c_l_pairs M) hgd hr (a_cons (e_var 4) a_nil)) a_nil))) a_nil)))))) a_nil)))
      (ss_cons (s_for (i_any (e_tup (a_cons (e_var 4) (a_cons (e_var 5) (a_cons (e_var 6) (a_cons (e_ix (e_ix (e_var 4) e_int) e_int) (a_cons (e_slA (e_var 5) p_no (p_e e_int)) (a_cons (e_ix (e_var 6) e_int) a_nil)))))))) (g_nm 8 sc_law.nd) (ss_cons (s_set 9 sc_law.nd (e_call (c_l_changed M 12) hgd hr (a_cons (e_var 1) (a_cons (e_var 8) a_nil))))
      (ss_cons (s_set 2 sc_law.nd (e_bin o_add (e_var 2) (e_fz (n_lst (a_cons (e_var 8) (a_cons (e_var 9) (a_cons (e_call (c_l_changed M 12) hgd hr (a_cons (e_var 1) (a_cons (e_var 9) a_nil))) (a_cons (e_fz (n_callTy (hv := bo_list) b_list M.z_list (a_cons (e_var 8) a_nil))) (a_cons (e_revT (e_var 8)) a_nil)))))))))
      ss_nil)))
      ss_nil)))))
      (ss_cons (s_for (i_any (e_var 2)) (g_nm 8 sc_law.nd) (ss_cons (s_set 10 sc_law.nd (e_callB (hv := bo_repr) (b_repr hgd hu) M.z_repr (a_cons (e_var 8) a_nil)))
      (ss_cons (s_set 11 sc_law.nd (e_fz (n_lst (a_cons (e_call (c_l_is_number M) hgd hr (a_cons (e_var 8) a_nil)) (a_cons (e_call (c_l_is_name M) hgd hr (a_cons (e_var 8) a_nil)) (a_cons (e_call (c_l_is_pair M) hgd hr (a_cons (e_var 8) a_nil)) (a_cons (e_call (c_l_is_scope M) hgd hr (a_cons (e_var 8) a_nil)) a_nil)))))))
      (ss_cons (s_set 11 sc_law.nd (e_bin o_add (e_var 11) (e_fz (n_lst (a_cons (e_call (c_l_is_coin M) hgd hr (a_cons (e_var 8) a_nil)) (a_cons (e_call (c_l_are_coins M) hgd hr (a_cons (e_var 8) a_nil)) (a_cons (e_cmp (o_in hu5) (e_var 8) (e_tup (a_cons e_str (a_cons e_str a_nil)))) a_nil)))))))
      (ss_cons (s_set 11 sc_law.nd (e_bin o_add (e_var 11) (e_fz (n_lst (a_cons (e_call (c_l_is_shape M) hgd hr (a_cons (e_var 8) a_nil)) a_nil)))))
      (ss_cons (s_set 12 sc_law.nd (e_fz (n_lst (a_cons (e_call (c_is_number M) hgd hr (a_cons (e_var 8) a_nil)) (a_cons (e_call (c_is_name M) hgd hr (a_cons (e_var 8) a_nil)) (a_cons (e_call (c_is_pair M) hgd hr (a_cons (e_var 8) a_nil)) (a_cons (e_call (c_is_scope M) hgd hr (a_cons (e_var 8) a_nil)) (a_cons (e_call (c_is_coin M) hgd hr (a_cons (e_var 8) a_nil)) a_nil))))))))
      (ss_cons (s_set 12 sc_law.nd (e_bin o_add (e_var 12) (e_fz (n_lst (a_cons (e_call (c_are_coins M) hgd hr (a_cons (e_var 8) a_nil)) a_nil)))))
      (ss_cons (s_if (L2.PW.pt (t_or (t_cmp (o_ne hu) (e_callB (hv := bo_repr) (b_repr hgd hu) M.z_repr (a_cons (e_bin o_add (e_var 12) (e_fz (n_lst (a_cons (e_call (c_is_answer M) hgd hr (a_cons (e_var 8) a_nil)) (a_cons (e_call (c_is_table_shape M) hgd hr (a_cons (e_var 8) a_nil)) a_nil))))) a_nil)) (e_callB (hv := bo_repr) (b_repr hgd hu) M.z_repr (a_cons (e_var 11) a_nil))) (t_or1 (t_cmp (o_ne hu) (e_callB (hv := bo_repr) (b_repr hgd hu) M.z_repr (a_cons (e_var 8) a_nil)) (e_var 10))))) (ss_cons (s_ret e_bl)
      ss_nil) ss_nil)
      ss_nil))))))))
      (ss_cons (s_ret e_bl)
      ss_nil)))))
end
end LK01
end

section
/-! part LM01a -/
set_option Elab.async false
set_option linter.all false
set_option maxRecDepth 100000
set_option maxHeartbeats 1000000
/-! LM01a: what the checks answer. -/
open CL
open PySem PySem.Spec PyProof.Rows L2
namespace LK01
theorem Ret_gcd (k : Nat) (x : PyData) (S : So) (P : W → So → Prop) : Ret (gc k (.d x) S) P ↔ P (.d x) (S.take k) := Iff.rfl
abbrev Gv (x : PyData) : Prop := Gd 200000 40 x
/-! ### what is meant -/
def numB : PyData → Bool
  | .int i => decide (0 ≤ i)
  | _ => false
def lowB (c : Nat) : Bool := decide (97 ≤ c) && decide (c ≤ 122)
def nameB : PyData → Bool
  | .str z => decide (1 ≤ z.length) && decide (z.length ≤ 8) && z.cps.toList.all lowB
  | _ => false
def namesB : PyData → Bool
  | .tuple xs => xs.all nameB
  | _ => false
def pairB : PyData → Bool
  | .tuple [a, b] => nameB a && nameB b
  | _ => false
def pairsB : PyData → Bool
  | .tuple xs => xs.all pairB
  | _ => false
def ascB : List PyData → Bool
  | x :: y :: r => ltD x y && ascB (y :: r)
  | _ => true
def scopeB : PyData → Bool
  | .tuple xs => xs.all pairB && ascB xs
  | _ => false
def coinB : PyData → Bool
  | .tuple [n, s] => numB n && scopeB s
  | _ => false
def headD : PyData → PyData
  | .tuple (x :: _) => x
  | _ => .none
def coinsB : PyData → Bool
  | .tuple xs => xs.all coinB && ascB (xs.map headD)
  | _ => false
def answerB : PyData → Bool
  | .str z => ("yes" : Str) == z || ("no" : Str) == z
  | _ => false
def shapeB : PyData → Bool
  | .tuple [i, .tuple rs] => namesB i && rs.all namesB
  | _ => false
theorem low_in : ∀ c, c < 128 → inS ⟨#[c]⟩ ("abcdefghijklmnopqrstuvwxyz" : Str) = lowB c := by
  have : (List.range 128).all (fun c => inS ⟨#[c]⟩ ("abcdefghijklmnopqrstuvwxyz" : Str) == lowB c) = true := by decide +kernel
  intro c hc
  exact eq_of_beq (List.all_eq_true.mp this c (List.mem_range.mpr hc))
theorem is_number_ok {x : PyData} (S : So) (h : Gv x) : f_is_number [.d x] S = some (.ok (.d (.bool (numB x))) S) := by
  refine Ret.eq (Ret_fnB rfl ?_)
  have hp := pl_of x h.ok
  unfold b_is_number
  simp only [RetS_cons, RetS_nil, RetS_set, RetS_drop, RetS_ret, RetS_if, RetS_asg, RetS_par, RetS_put, RetS_nx, RetS_rt, Ret_dFn, Ret_dCons, Ret_dNil, Ret_dBin, Ret_dUn, Ret_dCall, Ret_dCallN, Ret_dC, Ret_dG, Ret_dVar, Ret_dIf, Ret_dFz, Ret_dNew, Ret_dLst, Ret_dTup, Ret_dB, Ret_dAndT, Ret_dOrT, Ret_dNotT, Ret_dAnd, Ret_dOr, Ret_dNot, Ret_dIsi, Ret_dChain, Ret_dGet, Ret_dD0, Ret_dNoP, Ret_dPt, Ret_dSlA, Ret_dMeth, Ret_dAny, Ret_dLenSet, Ret_dZip, Ret_dZipL, Ret_dKeys, Ret_dRng1, Ret_dRng2, Ret_dLc, RetS_for, Ret_ok, startW, List.map_cons, List.map_nil, List.length_cons, List.length_nil, List.cons_append, List.nil_append, List.replicate, Nat.sub_self, Nat.reduceSub, Nat.reduceAdd, List.getElem?_cons_zero, List.getElem?_cons_succ, List.set_cons_zero, List.set_cons_succ, Option.some.injEq, exists_eq_left', rd_d, on2_d, on1_d, c1_d, bOf_b, exists_eq_left, Option.map_some, Option.bind_some, W.d.injEq, Ret_gcd, List.take_length, dIx, wipeW]
  cases x <;> simp [isiP, numB, i2, geI, Ret_gcd] at *
  exact absurd hp (by simp [plD])
theorem small_str {z : Str} {b d : Nat} (h : Gd b d (.str z)) (hb : b ≤ 16777216) : small z.length = true := by
  have h1 := h.bulk
  simp only [PyData.bulk] at h1
  exact decide_eq_true (by show z.cps.size ≤ _; omega)
theorem small_of {n m : Nat} (h : n ≤ m) (hm : m ≤ 16777216 := by decide) : small n = true := decide_eq_true (Nat.le_trans h hm)
theorem bools_map (f : PyData → Bool) : ∀ xs : List PyData, bools (xs.map fun x => .bool (f x)) = some (xs.map f)
  | [] => rfl
  | x :: xs => by simp [bools, bools_map f xs]
theorem sign_of {z : Str} (h : signOk z = true) : ∀ x ∈ CL.signs z, ∃ c, c < 128 ∧ x = .str ⟨#[c]⟩ := fun x hx => by
  unfold CL.signs at hx
  obtain ⟨c, hc, rfl⟩ := List.mem_map.mp hx
  exact ⟨c, signs_lt h c hc, rfl⟩
def lowD : PyData → Bool
  | .str z => z.cps.toList.all lowB
  | _ => false
theorem lowD_signs (z : Str) : ((CL.signs z).all fun a => lowD a) = z.cps.all lowB := by
  unfold CL.signs
  rw [List.all_map, ← Array.all_toList]
  congr 1
  funext c
  simp [lowD, Function.comp]
theorem is_name_ok {x : PyData} (S : So) (h : Gv x) : f_is_name [.d x] S = some (.ok (.d (.bool (nameB x))) S) := by
  refine Ret.eq (Ret_fnB rfl ?_)
  have hp := pl_of x h.ok
  unfold b_is_name
  simp only [RetS_cons, RetS_nil, RetS_set, RetS_drop, RetS_ret, RetS_if, RetS_asg, RetS_par, RetS_put, RetS_nx, RetS_rt, Ret_dFn, Ret_dCons, Ret_dNil, Ret_dBin, Ret_dUn, Ret_dCall, Ret_dCallN, Ret_dC, Ret_dG, Ret_dVar, Ret_dIf, Ret_dFz, Ret_dNew, Ret_dLst, Ret_dTup, Ret_dB, Ret_dAndT, Ret_dOrT, Ret_dNotT, Ret_dAnd, Ret_dOr, Ret_dNot, Ret_dIsi, Ret_dChain, Ret_dGet, Ret_dD0, Ret_dNoP, Ret_dPt, Ret_dSlA, Ret_dMeth, Ret_dAny, Ret_dLenSet, Ret_dZip, Ret_dZipL, Ret_dKeys, Ret_dRng1, Ret_dRng2, Ret_dLc, RetS_for, Ret_ok, startW, List.map_cons, List.map_nil, List.length_cons, List.length_nil, List.cons_append, List.nil_append, List.replicate, Nat.sub_self, Nat.reduceSub, Nat.reduceAdd, List.getElem?_cons_zero, List.getElem?_cons_succ, List.set_cons_zero, List.set_cons_succ, Option.some.injEq, exists_eq_left', rd_d, on2_d, on1_d, c1_d, bOf_b, exists_eq_left, Option.map_some, Option.bind_some, W.d.injEq, Ret_gcd, List.take_length, dIx, wipeW]
  cases x with
  | str z =>
    have hz := small_str h (by decide)
    by_cases h1 : (1 : Int) ≤ (z.length : Int)
    · by_cases h2 : (z.length : Int) ≤ 8
      · simp [isiP, lenP, hz, i2, leI, anyW, h1, h2, Ret_gcd]
        refine Ret.of (lc_pure (fun _ => true) (fun x => .bool (lowD x)) _ _ fun x hx => ?_) ?_
        · obtain ⟨c, hc, rfl⟩ := sign_of (by simpa [okd] using h.ok) x hx
          refine ⟨_, rfl, ⟨rfl, rfl⟩, fun _ => ?_⟩
          simp only [RetS_cons, RetS_nil, RetS_set, RetS_drop, RetS_ret, RetS_if, RetS_asg, RetS_par, RetS_put, RetS_nx, RetS_rt, Ret_dFn, Ret_dCons, Ret_dNil, Ret_dBin, Ret_dUn, Ret_dCall, Ret_dCallN, Ret_dC, Ret_dG, Ret_dVar, Ret_dIf, Ret_dFz, Ret_dNew, Ret_dLst, Ret_dTup, Ret_dB, Ret_dAndT, Ret_dOrT, Ret_dNotT, Ret_dAnd, Ret_dOr, Ret_dNot, Ret_dIsi, Ret_dChain, Ret_dGet, Ret_dD0, Ret_dNoP, Ret_dPt, Ret_dSlA, Ret_dMeth, Ret_dAny, Ret_dLenSet, Ret_dZip, Ret_dZipL, Ret_dKeys, Ret_dRng1, Ret_dRng2, Ret_dLc, RetS_for, Ret_ok, startW, List.map_cons, List.map_nil, List.length_cons, List.length_nil, List.cons_append, List.nil_append, List.replicate, Nat.sub_self, Nat.reduceSub, Nat.reduceAdd, List.getElem?_cons_zero, List.getElem?_cons_succ, List.set_cons_zero, List.set_cons_succ, Option.some.injEq, exists_eq_left', rd_d, on2_d, on1_d, c1_d, bOf_b, exists_eq_left, Option.map_some, Option.bind_some, W.d.injEq, Ret_gcd, List.take_length, dIx, wipeW]
          simp [wipeW, inP, low_in c hc, lowD]
        · have n1 : 1 ≤ z.length := by omega
          have n2 : z.length ≤ 8 := by omega
          simp [allP, bools_map, lowD_signs, Ret_gcd, nameB, n1, n2]
      · simp [isiP, lenP, hz, i2, leI, anyW, h1, h2, Ret_gcd, nameB]
        omega
    · simp [isiP, lenP, hz, i2, leI, anyW, h1, Ret_gcd, nameB]
      omega
  | dict _ => simp [plD] at hp
  | _ => simp [isiP, nameB, Ret_gcd]
theorem allB_map (f : PyData → Bool) (xs : List PyData) : (xs.map f).all id = xs.all f := by rw [List.all_map]; rfl
/-- all([f(part) for part in xs]) -/
theorem lc_all {vs : List Nat} {σ : En} {i : Nat} {e : DE} {all xs : List PyData} {S : So} (f : PyData → Bool) (h : ∀ x ∈ xs, Ret (e ((wipeW σ vs).set i (some (.d x))) S) fun w T => w = .d (.bool (f x)) ∧ T = S) {P : List PyData → So → Prop} (q : P (xs.map fun x => .bool (f x)) S) :
    Ret (lcGo none all vs σ (.nm i) dYes e xs [] S) P := by
  refine Ret.of (lc_pure (fun _ => true) (fun x => .bool (f x)) _ _ fun x hx => ⟨_, rfl, ⟨rfl, rfl⟩, fun _ => h x hx⟩) ?_
  rw [List.filter_eq_self.mpr fun _ _ => rfl]
  simpa using q
theorem are_names_ok {x : PyData} (S : So) (h : Gv x) : f_are_names [.d x] S = some (.ok (.d (.bool (namesB x))) S) := by
  refine Ret.eq (Ret_fnB rfl ?_)
  have hp := pl_of x h.ok
  unfold b_are_names
  simp only [RetS_cons, RetS_nil, RetS_set, RetS_drop, RetS_ret, RetS_if, RetS_asg, RetS_par, RetS_put, RetS_nx, RetS_rt, Ret_dFn, Ret_dCons, Ret_dNil, Ret_dBin, Ret_dUn, Ret_dCall, Ret_dCallN, Ret_dC, Ret_dG, Ret_dVar, Ret_dIf, Ret_dFz, Ret_dNew, Ret_dLst, Ret_dTup, Ret_dB, Ret_dAndT, Ret_dOrT, Ret_dNotT, Ret_dAnd, Ret_dOr, Ret_dNot, Ret_dIsi, Ret_dChain, Ret_dGet, Ret_dD0, Ret_dNoP, Ret_dPt, Ret_dSlA, Ret_dMeth, Ret_dAny, Ret_dLenSet, Ret_dZip, Ret_dZipL, Ret_dKeys, Ret_dRng1, Ret_dRng2, Ret_dLc, RetS_for, Ret_ok, startW, List.map_cons, List.map_nil, List.length_cons, List.length_nil, List.cons_append, List.nil_append, List.replicate, Nat.sub_self, Nat.reduceSub, Nat.reduceAdd, List.getElem?_cons_zero, List.getElem?_cons_succ, List.set_cons_zero, List.set_cons_succ, Option.some.injEq, exists_eq_left', rd_d, on2_d, on1_d, c1_d, bOf_b, exists_eq_left, Option.map_some, Option.bind_some, W.d.injEq, Ret_gcd, List.take_length, dIx, wipeW]
  cases x with
  | tuple xs =>
    have hm := h.ofTuple
    simp [isiP, anyW, Ret_gcd]
    refine lc_all nameB (fun x hx => ?_) ?_
    · simp only [RetS_cons, RetS_nil, RetS_set, RetS_drop, RetS_ret, RetS_if, RetS_asg, RetS_par, RetS_put, RetS_nx, RetS_rt, Ret_dFn, Ret_dCons, Ret_dNil, Ret_dBin, Ret_dUn, Ret_dCall, Ret_dCallN, Ret_dC, Ret_dG, Ret_dVar, Ret_dIf, Ret_dFz, Ret_dNew, Ret_dLst, Ret_dTup, Ret_dB, Ret_dAndT, Ret_dOrT, Ret_dNotT, Ret_dAnd, Ret_dOr, Ret_dNot, Ret_dIsi, Ret_dChain, Ret_dGet, Ret_dD0, Ret_dNoP, Ret_dPt, Ret_dSlA, Ret_dMeth, Ret_dAny, Ret_dLenSet, Ret_dZip, Ret_dZipL, Ret_dKeys, Ret_dRng1, Ret_dRng2, Ret_dLc, RetS_for, Ret_ok, startW, List.map_cons, List.map_nil, List.length_cons, List.length_nil, List.cons_append, List.nil_append, List.replicate, Nat.sub_self, Nat.reduceSub, Nat.reduceAdd, List.getElem?_cons_zero, List.getElem?_cons_succ, List.set_cons_zero, List.set_cons_succ, Option.some.injEq, exists_eq_left', rd_d, on2_d, on1_d, c1_d, bOf_b, exists_eq_left, Option.map_some, Option.bind_some, W.d.injEq, Ret_gcd, List.take_length, dIx, wipeW]
      simp [wipeW, is_name_ok S ((hm.mem hx).mono (Nat.le_refl _) (by decide))]
    · simp [allP, bools_map, allB_map, Ret_gcd, namesB]
  | dict _ => simp [plD] at hp
  | _ => simp [isiP, namesB, Ret_gcd]
theorem is_pair_ok {x : PyData} (S : So) (h : Gv x) : f_is_pair [.d x] S = some (.ok (.d (.bool (pairB x))) S) := by
  refine Ret.eq (Ret_fnB rfl ?_)
  unfold b_is_pair
  simp only [RetS_cons, RetS_nil, RetS_set, RetS_drop, RetS_ret, RetS_if, RetS_asg, RetS_par, RetS_put, RetS_nx, RetS_rt, Ret_dFn, Ret_dCons, Ret_dNil, Ret_dBin, Ret_dUn, Ret_dCall, Ret_dCallN, Ret_dC, Ret_dG, Ret_dVar, Ret_dIf, Ret_dFz, Ret_dNew, Ret_dLst, Ret_dTup, Ret_dB, Ret_dAndT, Ret_dOrT, Ret_dNotT, Ret_dAnd, Ret_dOr, Ret_dNot, Ret_dIsi, Ret_dChain, Ret_dGet, Ret_dD0, Ret_dNoP, Ret_dPt, Ret_dSlA, Ret_dMeth, Ret_dAny, Ret_dLenSet, Ret_dZip, Ret_dZipL, Ret_dKeys, Ret_dRng1, Ret_dRng2, Ret_dLc, RetS_for, Ret_ok, startW, List.map_cons, List.map_nil, List.length_cons, List.length_nil, List.cons_append, List.nil_append, List.replicate, Nat.sub_self, Nat.reduceSub, Nat.reduceAdd, List.getElem?_cons_zero, List.getElem?_cons_succ, List.set_cons_zero, List.set_cons_succ, Option.some.injEq, exists_eq_left', rd_d, on2_d, on1_d, c1_d, bOf_b, exists_eq_left, Option.map_some, Option.bind_some, W.d.injEq, Ret_gcd, List.take_length, dIx, wipeW]
  simp [are_names_ok S h]
  match x with
  | .tuple [] => simp [namesB, lenP, eqP, okD, SeqAt.shaped, PyData.canLay0, PyData.depth, PyData.eqv, pairB, Ret_gcd]
  | .tuple [a] => cases hn : nameB a <;> simp [namesB, hn, lenP, eqP, okD, SeqAt.shaped, PyData.canLay0, PyData.depth, PyData.eqv, pairB, Ret_gcd]
  | .tuple [a, b] => cases hn : nameB a <;> cases hb : nameB b <;> simp [namesB, hn, hb, lenP, eqP, okD, SeqAt.shaped, PyData.canLay0, PyData.depth, PyData.eqv, pairB, Ret_gcd]
  | .tuple (a :: b :: c :: r) =>
    cases hn : (a :: b :: c :: r).all nameB <;> simp [namesB, hn, lenP, eqP, okD, SeqAt.shaped, PyData.canLay0, PyData.depth, PyData.eqv, pairB, Ret_gcd]
    omega
  | .none | .bool _ | .int _ | .str _ | .list _ | .dict _ => simp [namesB, pairB, Ret_gcd]
theorem are_pairs_ok {x : PyData} (S : So) (h : Gv x) : f_are_pairs [.d x] S = some (.ok (.d (.bool (pairsB x))) S) := by
  refine Ret.eq (Ret_fnB rfl ?_)
  have hp := pl_of x h.ok
  unfold b_are_pairs
  simp only [RetS_cons, RetS_nil, RetS_set, RetS_drop, RetS_ret, RetS_if, RetS_asg, RetS_par, RetS_put, RetS_nx, RetS_rt, Ret_dFn, Ret_dCons, Ret_dNil, Ret_dBin, Ret_dUn, Ret_dCall, Ret_dCallN, Ret_dC, Ret_dG, Ret_dVar, Ret_dIf, Ret_dFz, Ret_dNew, Ret_dLst, Ret_dTup, Ret_dB, Ret_dAndT, Ret_dOrT, Ret_dNotT, Ret_dAnd, Ret_dOr, Ret_dNot, Ret_dIsi, Ret_dChain, Ret_dGet, Ret_dD0, Ret_dNoP, Ret_dPt, Ret_dSlA, Ret_dMeth, Ret_dAny, Ret_dLenSet, Ret_dZip, Ret_dZipL, Ret_dKeys, Ret_dRng1, Ret_dRng2, Ret_dLc, RetS_for, Ret_ok, startW, List.map_cons, List.map_nil, List.length_cons, List.length_nil, List.cons_append, List.nil_append, List.replicate, Nat.sub_self, Nat.reduceSub, Nat.reduceAdd, List.getElem?_cons_zero, List.getElem?_cons_succ, List.set_cons_zero, List.set_cons_succ, Option.some.injEq, exists_eq_left', rd_d, on2_d, on1_d, c1_d, bOf_b, exists_eq_left, Option.map_some, Option.bind_some, W.d.injEq, Ret_gcd, List.take_length, dIx, wipeW]
  cases x with
  | tuple xs =>
    have hm := h.ofTuple
    simp [isiP, anyW, Ret_gcd]
    refine lc_all pairB (fun x hx => ?_) ?_
    · simp only [RetS_cons, RetS_nil, RetS_set, RetS_drop, RetS_ret, RetS_if, RetS_asg, RetS_par, RetS_put, RetS_nx, RetS_rt, Ret_dFn, Ret_dCons, Ret_dNil, Ret_dBin, Ret_dUn, Ret_dCall, Ret_dCallN, Ret_dC, Ret_dG, Ret_dVar, Ret_dIf, Ret_dFz, Ret_dNew, Ret_dLst, Ret_dTup, Ret_dB, Ret_dAndT, Ret_dOrT, Ret_dNotT, Ret_dAnd, Ret_dOr, Ret_dNot, Ret_dIsi, Ret_dChain, Ret_dGet, Ret_dD0, Ret_dNoP, Ret_dPt, Ret_dSlA, Ret_dMeth, Ret_dAny, Ret_dLenSet, Ret_dZip, Ret_dZipL, Ret_dKeys, Ret_dRng1, Ret_dRng2, Ret_dLc, RetS_for, Ret_ok, startW, List.map_cons, List.map_nil, List.length_cons, List.length_nil, List.cons_append, List.nil_append, List.replicate, Nat.sub_self, Nat.reduceSub, Nat.reduceAdd, List.getElem?_cons_zero, List.getElem?_cons_succ, List.set_cons_zero, List.set_cons_succ, Option.some.injEq, exists_eq_left', rd_d, on2_d, on1_d, c1_d, bOf_b, exists_eq_left, Option.map_some, Option.bind_some, W.d.injEq, Ret_gcd, List.take_length, dIx, wipeW]
      simp [wipeW, is_pair_ok S ((hm.mem hx).mono (Nat.le_refl _) (by decide))]
    · simp [allP, bools_map, allB_map, Ret_gcd, pairsB]
  | dict _ => simp [plD] at hp
  | _ => simp [isiP, pairsB, Ret_gcd]
/-- all of two neighbours -/
def pairsOf : List PyData → List (PyData × PyData)
  | x :: y :: r => (x, y) :: pairsOf (y :: r)
  | _ => []
theorem zip_tail : ∀ xs : List PyData, List.zip xs (xs.drop 1) = pairsOf xs
  | [] => rfl
  | [x] => rfl
  | x :: y :: r => by
    have := zip_tail (y :: r)
    simp only [List.drop_succ_cons, List.drop_zero] at this ⊢
    rw [List.zip_cons_cons, this]; rfl
theorem asc_pairs : ∀ xs : List PyData, ascB xs = (pairsOf xs).all fun p => ltD p.1 p.2
  | [] => rfl
  | [x] => rfl
  | x :: y :: r => by simp [ascB, pairsOf, asc_pairs (y :: r)]
/-- comparable -/
def Cmp (x y : PyData) : Prop := PySem.W.alike x y = true ∧ x ≠ .none ∧ x.depth ≤ 60
theorem ltP_of {x y : PyData} (h : Cmp x y) : ltP x y = some (.bool (ltD x y)) := by
  obtain ⟨h1, h2, h3⟩ := h
  unfold ltP
  rw [if_pos ⟨h1, by cases x <;> simp [eqD] at *, decide_eq_true h3⟩]
theorem cut_one (xs : List PyData) : cutG xs (some 1) none = xs.drop 1 := by
  unfold cutG
  have e : HT.sIx xs.length 0 (some 1) = min 1 xs.length := HT.sIx_nat xs.length 0 1
  rw [e, HT.sIx_none]
  cases xs with
  | nil => rfl
  | cons x r =>
    have e2 : min 1 (x :: r).length = 1 := by simp
    rw [e2]
    simp
theorem pairsOf_mem : ∀ {xs : List PyData} {p : PyData × PyData}, p ∈ pairsOf xs → p.1 ∈ xs ∧ p.2 ∈ xs
  | x :: y :: r, p, h => by
    rcases List.mem_cons.mp h with e | h
    · subst e; exact ⟨by simp, by simp⟩
    · obtain ⟨h1, h2⟩ := pairsOf_mem h
      exact ⟨List.mem_cons_of_mem _ h1, List.mem_cons_of_mem _ h2⟩
def ltPair : PyData → Bool
  | .tuple [x, y] => ltD x y
  | _ => false
theorem are_ascending_ok {xs : List PyData} (k : List PyData → PyData) (hk : k = .tuple ∨ k = .list) (S : So) (h : ∀ x ∈ xs, ∀ y ∈ xs, Cmp x y) : f_are_ascending [.d (k xs)] S = some (.ok (.d (.bool (ascB xs))) S) := by
  refine Ret.eq (Ret_fnB rfl ?_)
  unfold b_are_ascending
  simp only [RetS_cons, RetS_nil, RetS_set, RetS_drop, RetS_ret, RetS_if, RetS_asg, RetS_par, RetS_put, RetS_nx, RetS_rt, Ret_dFn, Ret_dCons, Ret_dNil, Ret_dBin, Ret_dUn, Ret_dCall, Ret_dCallN, Ret_dC, Ret_dG, Ret_dVar, Ret_dIf, Ret_dFz, Ret_dNew, Ret_dLst, Ret_dTup, Ret_dB, Ret_dAndT, Ret_dOrT, Ret_dNotT, Ret_dAnd, Ret_dOr, Ret_dNot, Ret_dIsi, Ret_dChain, Ret_dGet, Ret_dD0, Ret_dNoP, Ret_dPt, Ret_dSlA, Ret_dMeth, Ret_dAny, Ret_dLenSet, Ret_dZip, Ret_dZipL, Ret_dKeys, Ret_dRng1, Ret_dRng2, Ret_dLc, RetS_for, Ret_ok, startW, List.map_cons, List.map_nil, List.length_cons, List.length_nil, List.cons_append, List.nil_append, List.replicate, Nat.sub_self, Nat.reduceSub, Nat.reduceAdd, List.getElem?_cons_zero, List.getElem?_cons_succ, List.set_cons_zero, List.set_cons_succ, Option.some.injEq, exists_eq_left', rd_d, on2_d, on1_d, c1_d, bOf_b, exists_eq_left, Option.map_some, Option.bind_some, W.d.injEq, Ret_gcd, List.take_length, dIx, wipeW]
  have key : Ret (lcGo none (zipD xs (xs.drop 1)) [1, 2] [some (W.d (k xs)), none, none] (.tp [1, 2]) dYes (dBin (on2 ltP) (dVar 1) (dVar 2)) (zipD xs (xs.drop 1)) [] S)
      fun ys T => ys = (zipD xs (xs.drop 1)).map (fun x => .bool (ltPair x)) ∧ T = S := by
    refine Ret.of (lc_pure (fun _ => true) (fun x => .bool (ltPair x)) _ _ fun x hx => ?_) ⟨by rw [List.filter_eq_self.mpr fun _ _ => rfl]; rfl, rfl⟩
    unfold zipD at hx
    rw [zip_tail] at hx
    obtain ⟨p, hp, rfl⟩ := List.mem_map.mp hx
    obtain ⟨m1, m2⟩ := pairsOf_mem hp
    refine ⟨_, rfl, ⟨rfl, rfl⟩, fun _ => ?_⟩
    simp only [RetS_cons, RetS_nil, RetS_set, RetS_drop, RetS_ret, RetS_if, RetS_asg, RetS_par, RetS_put, RetS_nx, RetS_rt, Ret_dFn, Ret_dCons, Ret_dNil, Ret_dBin, Ret_dUn, Ret_dCall, Ret_dCallN, Ret_dC, Ret_dG, Ret_dVar, Ret_dIf, Ret_dFz, Ret_dNew, Ret_dLst, Ret_dTup, Ret_dB, Ret_dAndT, Ret_dOrT, Ret_dNotT, Ret_dAnd, Ret_dOr, Ret_dNot, Ret_dIsi, Ret_dChain, Ret_dGet, Ret_dD0, Ret_dNoP, Ret_dPt, Ret_dSlA, Ret_dMeth, Ret_dAny, Ret_dLenSet, Ret_dZip, Ret_dZipL, Ret_dKeys, Ret_dRng1, Ret_dRng2, Ret_dLc, RetS_for, Ret_ok, startW, List.map_cons, List.map_nil, List.length_cons, List.length_nil, List.cons_append, List.nil_append, List.replicate, Nat.sub_self, Nat.reduceSub, Nat.reduceAdd, List.getElem?_cons_zero, List.getElem?_cons_succ, List.set_cons_zero, List.set_cons_succ, Option.some.injEq, exists_eq_left', rd_d, on2_d, on1_d, c1_d, bOf_b, exists_eq_left, Option.map_some, Option.bind_some, W.d.injEq, Ret_gcd, List.take_length, dIx, wipeW]
    simp [wipeW, setW, ltP_of (h _ m1 _ m2), ltPair]
  have fin : ((zipD xs (xs.drop 1)).map ltPair).all id = ascB xs := by
    unfold zipD
    rw [zip_tail, asc_pairs, List.map_map, List.all_map]
    rfl
  rcases hk with e | e <;> subst e
  · simp [intW, cutA, cut_one, zipWL]
    rw [← List.drop_one]
    refine key.mono fun ys T ⟨e1, e2⟩ => ?_
    subst e1; subst e2
    simp [allP, bools_map, fin, Ret_gcd]
    simpa using fin
  · simp [intW, cutA, cut_one, zipWL]
    rw [← List.drop_one]
    refine key.mono fun ys T ⟨e1, e2⟩ => ?_
    subst e1; subst e2
    simp [allP, bools_map, fin, Ret_gcd]
    simpa using fin
theorem cmp_pair {x y : PyData} (hx : pairB x = true) (hy : pairB y = true) : Cmp x y := by
  match x, y, hx, hy with
  | .tuple [.str a, .str b], .tuple [.str c, .str d], _, _ => exact ⟨by simp [PySem.W.alike, PySem.W.alikeAll], by simp, by simp [PyData.depth, PyData.depthAll]⟩
  | .tuple [.str a, .none], _, h, _ | .tuple [.str a, .bool _], _, h, _ | .tuple [.str a, .int _], _, h, _ | .tuple [.str a, .list _], _, h, _ | .tuple [.str a, .tuple _], _, h, _ | .tuple [.str a, .dict _], _, h, _ => simp [pairB, nameB] at h
  | .tuple [.none, _], _, h, _ | .tuple [.bool _, _], _, h, _ | .tuple [.int _, _], _, h, _ | .tuple [.list _, _], _, h, _ | .tuple [.tuple _, _], _, h, _ | .tuple [.dict _, _], _, h, _ => simp [pairB, nameB] at h
  | _, .tuple [.str a, .none], _, h | _, .tuple [.str a, .bool _], _, h | _, .tuple [.str a, .int _], _, h | _, .tuple [.str a, .list _], _, h | _, .tuple [.str a, .tuple _], _, h | _, .tuple [.str a, .dict _], _, h => simp [pairB, nameB] at h
  | _, .tuple [.none, _], _, h | _, .tuple [.bool _, _], _, h | _, .tuple [.int _, _], _, h | _, .tuple [.list _, _], _, h | _, .tuple [.tuple _, _], _, h | _, .tuple [.dict _, _], _, h => simp [pairB, nameB] at h
  | .none, _, h, _ | .bool _, _, h, _ | .int _, _, h, _ | .str _, _, h, _ | .list _, _, h, _ | .dict _, _, h, _ => simp [pairB] at h
  | .tuple [], _, h, _ | .tuple [_], _, h, _ | .tuple (_ :: _ :: _ :: _), _, h, _ => simp [pairB] at h
  | _, .none, _, h | _, .bool _, _, h | _, .int _, _, h | _, .str _, _, h | _, .list _, _, h | _, .dict _, _, h => simp [pairB] at h
  | _, .tuple [], _, h | _, .tuple [_], _, h | _, .tuple (_ :: _ :: _ :: _), _, h => simp [pairB] at h
theorem is_scope_ok {x : PyData} (S : So) (h : Gv x) : f_is_scope [.d x] S = some (.ok (.d (.bool (scopeB x))) S) := by
  refine Ret.eq (Ret_fnB rfl ?_)
  unfold b_is_scope
  simp only [RetS_cons, RetS_nil, RetS_set, RetS_drop, RetS_ret, RetS_if, RetS_asg, RetS_par, RetS_put, RetS_nx, RetS_rt, Ret_dFn, Ret_dCons, Ret_dNil, Ret_dBin, Ret_dUn, Ret_dCall, Ret_dCallN, Ret_dC, Ret_dG, Ret_dVar, Ret_dIf, Ret_dFz, Ret_dNew, Ret_dLst, Ret_dTup, Ret_dB, Ret_dAndT, Ret_dOrT, Ret_dNotT, Ret_dAnd, Ret_dOr, Ret_dNot, Ret_dIsi, Ret_dChain, Ret_dGet, Ret_dD0, Ret_dNoP, Ret_dPt, Ret_dSlA, Ret_dMeth, Ret_dAny, Ret_dLenSet, Ret_dZip, Ret_dZipL, Ret_dKeys, Ret_dRng1, Ret_dRng2, Ret_dLc, RetS_for, Ret_ok, startW, List.map_cons, List.map_nil, List.length_cons, List.length_nil, List.cons_append, List.nil_append, List.replicate, Nat.sub_self, Nat.reduceSub, Nat.reduceAdd, List.getElem?_cons_zero, List.getElem?_cons_succ, List.set_cons_zero, List.set_cons_succ, Option.some.injEq, exists_eq_left', rd_d, on2_d, on1_d, c1_d, bOf_b, exists_eq_left, Option.map_some, Option.bind_some, W.d.injEq, Ret_gcd, List.take_length, dIx, wipeW]
  simp [are_pairs_ok S h]
  match x with
  | .tuple xs =>
    cases hp : xs.all pairB with
    | true =>
      have hc : ∀ x ∈ xs, ∀ y ∈ xs, Cmp x y := fun x hx y hy => cmp_pair (List.all_eq_true.mp hp x hx) (List.all_eq_true.mp hp y hy)
      simp [pairsB, hp, are_ascending_ok .tuple (.inl rfl) S hc, scopeB, Ret_gcd]
    | false => simp [pairsB, hp, scopeB, Ret_gcd]
  | .none | .bool _ | .int _ | .str _ | .list _ | .dict _ => simp [pairsB, scopeB, Ret_gcd]
theorem eqv_two {n : Int} : eqP (.int n) (.int 2) = some (.bool (decide (n = 2))) ∧ neP (.int n) (.int 2) = some (.bool (!decide (n = 2))) := by
  simp [eqP, neP, okD, SeqAt.shaped, PyData.canLay0, PyData.depth, PyData.eqv]
  constructor <;> (by_cases h : n = 2 <;> simp [h])
theorem is_coin_ok {x : PyData} (S : So) (h : Gv x) : f_is_coin [.d x] S = some (.ok (.d (.bool (coinB x))) S) := by
  refine Ret.eq (Ret_fnB rfl ?_)
  have hp := pl_of x h.ok
  unfold b_is_coin
  simp only [RetS_cons, RetS_nil, RetS_set, RetS_drop, RetS_ret, RetS_if, RetS_asg, RetS_par, RetS_put, RetS_nx, RetS_rt, Ret_dFn, Ret_dCons, Ret_dNil, Ret_dBin, Ret_dUn, Ret_dCall, Ret_dCallN, Ret_dC, Ret_dG, Ret_dVar, Ret_dIf, Ret_dFz, Ret_dNew, Ret_dLst, Ret_dTup, Ret_dB, Ret_dAndT, Ret_dOrT, Ret_dNotT, Ret_dAnd, Ret_dOr, Ret_dNot, Ret_dIsi, Ret_dChain, Ret_dGet, Ret_dD0, Ret_dNoP, Ret_dPt, Ret_dSlA, Ret_dMeth, Ret_dAny, Ret_dLenSet, Ret_dZip, Ret_dZipL, Ret_dKeys, Ret_dRng1, Ret_dRng2, Ret_dLc, RetS_for, Ret_ok, startW, List.map_cons, List.map_nil, List.length_cons, List.length_nil, List.cons_append, List.nil_append, List.replicate, Nat.sub_self, Nat.reduceSub, Nat.reduceAdd, List.getElem?_cons_zero, List.getElem?_cons_succ, List.set_cons_zero, List.set_cons_succ, Option.some.injEq, exists_eq_left', rd_d, on2_d, on1_d, c1_d, bOf_b, exists_eq_left, Option.map_some, Option.bind_some, W.d.injEq, Ret_gcd, List.take_length, dIx, wipeW]
  match x with
  | .tuple [] => simp [isiP, lenP, eqv_two, coinB, Ret_gcd]
  | .tuple [a] => simp [isiP, lenP, eqv_two, coinB, Ret_gcd]
  | .tuple [a, b] =>
    have hm := h.ofTuple
    have ga := (hm.mem (x := a) (by simp)).mono (Nat.le_refl _) (show 40 - 1 ≤ 40 by decide)
    have gb := (hm.mem (x := b) (by simp)).mono (Nat.le_refl _) (show 40 - 1 ≤ 40 by decide)
    cases hn : numB a <;> simp [isiP, lenP, eqv_two, bindT, setW, is_number_ok S ga, is_scope_ok S gb, hn, coinB, Ret_gcd]
  | .tuple (a :: b :: c :: r) =>
    have e : decide ((r.length : Int) + 1 + 1 + 1 = 2) = false := decide_eq_false (by omega)
    simp [isiP, lenP, eqv_two, e, coinB, Ret_gcd]
  | .dict _ => simp [plD] at hp
  | .none | .bool _ | .int _ | .str _ | .list _ => simp [isiP, coinB, Ret_gcd]
theorem cmp_int (a b : Int) : Cmp (.int a) (.int b) := ⟨by simp [PySem.W.alike], by simp, by simp [PyData.depth]⟩
theorem coin_head {x : PyData} (h : coinB x = true) : ∃ n s, x = .tuple [.int n, s] := by
  match x, h with
  | .tuple [.int n, s], _ => exact ⟨n, s, rfl⟩
  | .tuple [.none, _], h | .tuple [.bool _, _], h | .tuple [.str _, _], h | .tuple [.list _, _], h | .tuple [.tuple _, _], h | .tuple [.dict _, _], h => simp [coinB, numB] at h
  | .none, h | .bool _, h | .int _, h | .str _, h | .list _, h | .dict _, h | .tuple [], h | .tuple [_], h | .tuple (_ :: _ :: _ :: _), h => simp [coinB] at h
theorem are_coins_ok {x : PyData} (S : So) (h : Gv x) : f_are_coins [.d x] S = some (.ok (.d (.bool (coinsB x))) S) := by
  refine Ret.eq (Ret_fnB rfl ?_)
  have hp := pl_of x h.ok
  unfold b_are_coins
  simp only [RetS_cons, RetS_nil, RetS_set, RetS_drop, RetS_ret, RetS_if, RetS_asg, RetS_par, RetS_put, RetS_nx, RetS_rt, Ret_dFn, Ret_dCons, Ret_dNil, Ret_dBin, Ret_dUn, Ret_dCall, Ret_dCallN, Ret_dC, Ret_dG, Ret_dVar, Ret_dIf, Ret_dFz, Ret_dNew, Ret_dLst, Ret_dTup, Ret_dB, Ret_dAndT, Ret_dOrT, Ret_dNotT, Ret_dAnd, Ret_dOr, Ret_dNot, Ret_dIsi, Ret_dChain, Ret_dGet, Ret_dD0, Ret_dNoP, Ret_dPt, Ret_dSlA, Ret_dMeth, Ret_dAny, Ret_dLenSet, Ret_dZip, Ret_dZipL, Ret_dKeys, Ret_dRng1, Ret_dRng2, Ret_dLc, RetS_for, Ret_ok, startW, List.map_cons, List.map_nil, List.length_cons, List.length_nil, List.cons_append, List.nil_append, List.replicate, Nat.sub_self, Nat.reduceSub, Nat.reduceAdd, List.getElem?_cons_zero, List.getElem?_cons_succ, List.set_cons_zero, List.set_cons_succ, Option.some.injEq, exists_eq_left', rd_d, on2_d, on1_d, c1_d, bOf_b, exists_eq_left, Option.map_some, Option.bind_some, W.d.injEq, Ret_gcd, List.take_length, dIx, wipeW]
  cases x with
  | tuple xs =>
    have hm := h.ofTuple
    simp [isiP, anyW, Ret_gcd]
    refine lc_all coinB (fun x hx => ?_) ?_
    · simp only [RetS_cons, RetS_nil, RetS_set, RetS_drop, RetS_ret, RetS_if, RetS_asg, RetS_par, RetS_put, RetS_nx, RetS_rt, Ret_dFn, Ret_dCons, Ret_dNil, Ret_dBin, Ret_dUn, Ret_dCall, Ret_dCallN, Ret_dC, Ret_dG, Ret_dVar, Ret_dIf, Ret_dFz, Ret_dNew, Ret_dLst, Ret_dTup, Ret_dB, Ret_dAndT, Ret_dOrT, Ret_dNotT, Ret_dAnd, Ret_dOr, Ret_dNot, Ret_dIsi, Ret_dChain, Ret_dGet, Ret_dD0, Ret_dNoP, Ret_dPt, Ret_dSlA, Ret_dMeth, Ret_dAny, Ret_dLenSet, Ret_dZip, Ret_dZipL, Ret_dKeys, Ret_dRng1, Ret_dRng2, Ret_dLc, RetS_for, Ret_ok, startW, List.map_cons, List.map_nil, List.length_cons, List.length_nil, List.cons_append, List.nil_append, List.replicate, Nat.sub_self, Nat.reduceSub, Nat.reduceAdd, List.getElem?_cons_zero, List.getElem?_cons_succ, List.set_cons_zero, List.set_cons_succ, Option.some.injEq, exists_eq_left', rd_d, on2_d, on1_d, c1_d, bOf_b, exists_eq_left, Option.map_some, Option.bind_some, W.d.injEq, Ret_gcd, List.take_length, dIx, wipeW]
      simp [wipeW, is_coin_ok S ((hm.mem hx).mono (Nat.le_refl _) (by decide))]
    · cases hc : xs.all coinB with
      | false => simp [allP, bools_map, allB_map, hc, Ret_gcd, coinsB]
      | true =>
        simp [allP, bools_map, allB_map, hc, Ret_gcd, coinsB]
        refine Ret.of (lc_pure (fun _ => true) headD _ _ fun x hx => ?_) ?_
        · obtain ⟨n, s, rfl⟩ := coin_head (List.all_eq_true.mp hc x hx)
          refine ⟨_, rfl, ⟨rfl, rfl⟩, fun _ => ?_⟩
          simp only [RetS_cons, RetS_nil, RetS_set, RetS_drop, RetS_ret, RetS_if, RetS_asg, RetS_par, RetS_put, RetS_nx, RetS_rt, Ret_dFn, Ret_dCons, Ret_dNil, Ret_dBin, Ret_dUn, Ret_dCall, Ret_dCallN, Ret_dC, Ret_dG, Ret_dVar, Ret_dIf, Ret_dFz, Ret_dNew, Ret_dLst, Ret_dTup, Ret_dB, Ret_dAndT, Ret_dOrT, Ret_dNotT, Ret_dAnd, Ret_dOr, Ret_dNot, Ret_dIsi, Ret_dChain, Ret_dGet, Ret_dD0, Ret_dNoP, Ret_dPt, Ret_dSlA, Ret_dMeth, Ret_dAny, Ret_dLenSet, Ret_dZip, Ret_dZipL, Ret_dKeys, Ret_dRng1, Ret_dRng2, Ret_dLc, RetS_for, Ret_ok, startW, List.map_cons, List.map_nil, List.length_cons, List.length_nil, List.cons_append, List.nil_append, List.replicate, Nat.sub_self, Nat.reduceSub, Nat.reduceAdd, List.getElem?_cons_zero, List.getElem?_cons_succ, List.set_cons_zero, List.set_cons_succ, Option.some.injEq, exists_eq_left', rd_d, on2_d, on1_d, c1_d, bOf_b, exists_eq_left, Option.map_some, Option.bind_some, W.d.injEq, Ret_gcd, List.take_length, dIx, wipeW]
          simp [wipeW, headD]
        · rw [List.filter_eq_self.mpr fun _ _ => rfl]
          have hcm : ∀ x ∈ xs.map headD, ∀ y ∈ xs.map headD, Cmp x y := fun x hx y hy => by
            obtain ⟨a, ha, rfl⟩ := List.mem_map.mp hx
            obtain ⟨b, hb, rfl⟩ := List.mem_map.mp hy
            obtain ⟨n, s, rfl⟩ := coin_head (List.all_eq_true.mp hc a ha)
            obtain ⟨m, t, rfl⟩ := coin_head (List.all_eq_true.mp hc b hb)
            exact cmp_int n m
          simp [are_ascending_ok .list (.inr rfl) S hcm, Ret_gcd]
  | dict _ => simp [plD] at hp
  | _ => simp [isiP, coinsB, Ret_gcd]
theorem is_answer_ok {x : PyData} (S : So) (h : Gv x) : f_is_answer [.d x] S = some (.ok (.d (.bool (answerB x))) S) := by
  refine Ret.eq (Ret_fnB rfl ?_)
  have hp := pl_of x h.ok
  unfold b_is_answer
  simp only [RetS_cons, RetS_nil, RetS_set, RetS_drop, RetS_ret, RetS_if, RetS_asg, RetS_par, RetS_put, RetS_nx, RetS_rt, Ret_dFn, Ret_dCons, Ret_dNil, Ret_dBin, Ret_dUn, Ret_dCall, Ret_dCallN, Ret_dC, Ret_dG, Ret_dVar, Ret_dIf, Ret_dFz, Ret_dNew, Ret_dLst, Ret_dTup, Ret_dB, Ret_dAndT, Ret_dOrT, Ret_dNotT, Ret_dAnd, Ret_dOr, Ret_dNot, Ret_dIsi, Ret_dChain, Ret_dGet, Ret_dD0, Ret_dNoP, Ret_dPt, Ret_dSlA, Ret_dMeth, Ret_dAny, Ret_dLenSet, Ret_dZip, Ret_dZipL, Ret_dKeys, Ret_dRng1, Ret_dRng2, Ret_dLc, RetS_for, Ret_ok, startW, List.map_cons, List.map_nil, List.length_cons, List.length_nil, List.cons_append, List.nil_append, List.replicate, Nat.sub_self, Nat.reduceSub, Nat.reduceAdd, List.getElem?_cons_zero, List.getElem?_cons_succ, List.set_cons_zero, List.set_cons_succ, Option.some.injEq, exists_eq_left', rd_d, on2_d, on1_d, c1_d, bOf_b, exists_eq_left, Option.map_some, Option.bind_some, W.d.injEq, Ret_gcd, List.take_length, dIx, wipeW]
  cases x with
  | str z =>
    have ho := h.okD (by decide)
    have hk : okD (.tuple [.str "yes", .str "no"]) = true := by decide +kernel
    simp [isiP, datz, dats, small, inP, ho, hk, memD, PyData.eqv, answerB, Ret_gcd]
  | dict _ => simp [plD] at hp
  | _ => simp [isiP, answerB, Ret_gcd]
theorem is_table_shape_ok {x : PyData} (S : So) (h : Gv x) : f_is_table_shape [.d x] S = some (.ok (.d (.bool (shapeB x))) S) := by
  refine Ret.eq (Ret_fnB rfl ?_)
  have hp := pl_of x h.ok
  unfold b_is_table_shape
  simp only [RetS_cons, RetS_nil, RetS_set, RetS_drop, RetS_ret, RetS_if, RetS_asg, RetS_par, RetS_put, RetS_nx, RetS_rt, Ret_dFn, Ret_dCons, Ret_dNil, Ret_dBin, Ret_dUn, Ret_dCall, Ret_dCallN, Ret_dC, Ret_dG, Ret_dVar, Ret_dIf, Ret_dFz, Ret_dNew, Ret_dLst, Ret_dTup, Ret_dB, Ret_dAndT, Ret_dOrT, Ret_dNotT, Ret_dAnd, Ret_dOr, Ret_dNot, Ret_dIsi, Ret_dChain, Ret_dGet, Ret_dD0, Ret_dNoP, Ret_dPt, Ret_dSlA, Ret_dMeth, Ret_dAny, Ret_dLenSet, Ret_dZip, Ret_dZipL, Ret_dKeys, Ret_dRng1, Ret_dRng2, Ret_dLc, RetS_for, Ret_ok, startW, List.map_cons, List.map_nil, List.length_cons, List.length_nil, List.cons_append, List.nil_append, List.replicate, Nat.sub_self, Nat.reduceSub, Nat.reduceAdd, List.getElem?_cons_zero, List.getElem?_cons_succ, List.set_cons_zero, List.set_cons_succ, Option.some.injEq, exists_eq_left', rd_d, on2_d, on1_d, c1_d, bOf_b, exists_eq_left, Option.map_some, Option.bind_some, W.d.injEq, Ret_gcd, List.take_length, dIx, wipeW]
  match x with
  | .tuple [] => simp [isiP, lenP, eqv_two, shapeB, Ret_gcd]
  | .tuple [a] => simp [isiP, lenP, eqv_two, shapeB, Ret_gcd]
  | .tuple [a, b] =>
    have hm := h.ofTuple
    have ga := (hm.mem (x := a) (by simp)).mono (Nat.le_refl _) (show 40 - 1 ≤ 40 by decide)
    have gb := (hm.mem (x := b) (by simp)).mono (Nat.le_refl _) (show 40 - 1 ≤ 40 by decide)
    cases b with
    | tuple rs =>
      have hr := gb.ofTuple
      cases hn : namesB a with
      | false => simp [isiP, lenP, eqv_two, bindT, setW, are_names_ok S ga, hn, shapeB, Ret_gcd]
      | true =>
        simp [isiP, lenP, eqv_two, bindT, setW, are_names_ok S ga, hn, shapeB, Ret_gcd, anyW]
        refine ⟨rs, none, ⟨rfl, rfl⟩, lc_all namesB (fun x hx => ?_) ?_⟩
        · simp only [RetS_cons, RetS_nil, RetS_set, RetS_drop, RetS_ret, RetS_if, RetS_asg, RetS_par, RetS_put, RetS_nx, RetS_rt, Ret_dFn, Ret_dCons, Ret_dNil, Ret_dBin, Ret_dUn, Ret_dCall, Ret_dCallN, Ret_dC, Ret_dG, Ret_dVar, Ret_dIf, Ret_dFz, Ret_dNew, Ret_dLst, Ret_dTup, Ret_dB, Ret_dAndT, Ret_dOrT, Ret_dNotT, Ret_dAnd, Ret_dOr, Ret_dNot, Ret_dIsi, Ret_dChain, Ret_dGet, Ret_dD0, Ret_dNoP, Ret_dPt, Ret_dSlA, Ret_dMeth, Ret_dAny, Ret_dLenSet, Ret_dZip, Ret_dZipL, Ret_dKeys, Ret_dRng1, Ret_dRng2, Ret_dLc, RetS_for, Ret_ok, startW, List.map_cons, List.map_nil, List.length_cons, List.length_nil, List.cons_append, List.nil_append, List.replicate, Nat.sub_self, Nat.reduceSub, Nat.reduceAdd, List.getElem?_cons_zero, List.getElem?_cons_succ, List.set_cons_zero, List.set_cons_succ, Option.some.injEq, exists_eq_left', rd_d, on2_d, on1_d, c1_d, bOf_b, exists_eq_left, Option.map_some, Option.bind_some, W.d.injEq, Ret_gcd, List.take_length, dIx, wipeW]
          simp [wipeW, are_names_ok S ((hr.mem hx).mono (Nat.le_refl _) (by decide))]
        · simp [allP, bools_map, allB_map, Ret_gcd]
    | dict _ => simp [plD, plDs] at hp
    | _ => cases hn : namesB a <;> simp [isiP, lenP, eqv_two, bindT, setW, are_names_ok S ga, hn, shapeB, Ret_gcd]
  | .tuple (a :: b :: c :: r) =>
    have e : decide ((r.length : Int) + 1 + 1 + 1 = 2) = false := decide_eq_false (by omega)
    simp [isiP, lenP, eqv_two, e, shapeB, Ret_gcd]
  | .dict _ => simp [plD] at hp
  | .none | .bool _ | .int _ | .str _ | .list _ => simp [isiP, shapeB, Ret_gcd]
end LK01
end

section
/-! part LM01b -/
set_option Elab.async false
set_option linter.all false
set_option maxRecDepth 100000
set_option maxHeartbeats 1000000
/-! LM01b: what the law's own checks answer: the same. -/
open CL
open PySem PySem.Spec PyProof.Rows L2
namespace LK01
theorem l_number_ok {x : PyData} (S : So) (h : Gv x) : f_l_is_number [.d x] S = some (.ok (.d (.bool (numB x))) S) := is_number_ok S h
theorem low_law (c : Nat) (hc : c < 128) : leSs ("a" : Str) ⟨#[c]⟩ = some (.bool (decide (97 ≤ c))) ∧ leSs ⟨#[c]⟩ ("z" : Str) = some (.bool (decide (c ≤ 122))) := by
  have h : (List.range 128).all (fun c => ((!decide ((⟨#[c]⟩ : Str).cps.toList < ("a" : Str).cps.toList)) == decide (97 ≤ c)) && ((!decide (("z" : Str).cps.toList < (⟨#[c]⟩ : Str).cps.toList)) == decide (c ≤ 122))) = true := by decide +kernel
  have h2 := List.all_eq_true.mp h c (List.mem_range.mpr hc)
  rw [Bool.and_eq_true] at h2
  unfold leSs
  rw [eq_of_beq h2.1, eq_of_beq h2.2]
  exact ⟨rfl, rfl⟩
theorem okD_list {xs : List PyData} {b d : Nat} (h : ∀ x ∈ xs, Gd b d x) (hd : d ≤ 60) : okD (.list xs) = true := (Gd.list (Gds.of_mem h)).okD (by omega)
theorem okD_nil : okD (.list []) = true := by decide +kernel
theorem eqv_nil (xs : List PyData) : PyData.eqv (.list xs) (.list []) = xs.isEmpty := by cases xs <;> simp [PyData.eqv, PyData.eqvAll]
theorem eq_nil {xs : List PyData} {b d : Nat} (h : ∀ x ∈ xs, Gd b d x) (hd : d ≤ 60) : eqP (.list xs) (.list []) = some (.bool xs.isEmpty) := by
  unfold eqP
  rw [okD_list h hd, okD_nil, eqv_nil]
  rfl
theorem empty_filter (p : PyData → Bool) (xs : List PyData) : (xs.filter fun x => !p x).isEmpty = xs.all p := by
  induction xs with
  | nil => rfl
  | cons x xs ih => cases h : p x <;> simp [h, ih]
theorem sign_gd {c : Nat} (h : c < 128) : Gd 1 0 (.str ⟨#[c]⟩) := ⟨by simp [okd, signOk, h], by simp [PyData.bulk], by simp [PyData.depth]⟩
theorem l_name_ok {x : PyData} (S : So) (h : Gv x) : f_l_is_name [.d x] S = some (.ok (.d (.bool (nameB x))) S) := by
  refine Ret.eq (Ret_fnB rfl ?_)
  have hp := pl_of x h.ok
  unfold b_l_is_name
  simp only [RetS_cons, RetS_nil, RetS_set, RetS_drop, RetS_ret, RetS_if, RetS_asg, RetS_par, RetS_put, RetS_nx, RetS_rt, Ret_dFn, Ret_dCons, Ret_dNil, Ret_dBin, Ret_dUn, Ret_dCall, Ret_dCallN, Ret_dC, Ret_dG, Ret_dVar, Ret_dIf, Ret_dFz, Ret_dNew, Ret_dLst, Ret_dTup, Ret_dB, Ret_dAndT, Ret_dOrT, Ret_dNotT, Ret_dAnd, Ret_dOr, Ret_dNot, Ret_dIsi, Ret_dChain, Ret_dGet, Ret_dD0, Ret_dNoP, Ret_dPt, Ret_dSlA, Ret_dMeth, Ret_dAny, Ret_dLenSet, Ret_dZip, Ret_dZipL, Ret_dKeys, Ret_dRng1, Ret_dRng2, Ret_dLc, RetS_for, Ret_ok, startW, List.map_cons, List.map_nil, List.length_cons, List.length_nil, List.cons_append, List.nil_append, List.replicate, Nat.sub_self, Nat.reduceSub, Nat.reduceAdd, List.getElem?_cons_zero, List.getElem?_cons_succ, List.set_cons_zero, List.set_cons_succ, Option.some.injEq, exists_eq_left', rd_d, on2_d, on1_d, c1_d, bOf_b, exists_eq_left, Option.map_some, Option.bind_some, W.d.injEq, Ret_gcd, List.take_length, dIx, wipeW]
  cases x with
  | str z =>
    have hz := small_str h (by decide)
    have hs : signOk z = true := by simpa [okd] using h.ok
    by_cases h1 : (0 : Int) < (z.length : Int)
    · by_cases h2 : (z.length : Int) < 9
      · have n1 : 1 ≤ z.length := by omega
        have n2 : z.length ≤ 8 := by omega
        have n0 : 0 < z.length := by omega
        have c1 := ltP_of (cmp_int 0 z.length)
        have c2 := ltP_of (cmp_int z.length 9)
        simp [isiP, lenP, hz, c1, c2, ltD, n0, h2, anyW, Ret_gcd]
        refine Ret.of (lc_pure (fun x => !lowD x) (fun x => x) _ _ fun x hx => ?_) ?_
        · obtain ⟨c, hc, rfl⟩ := sign_of hs x hx
          obtain ⟨e1, e2⟩ := low_law c hc
          refine ⟨_, rfl, ?_, fun _ => ?_⟩
          · simp only [RetS_cons, RetS_nil, RetS_set, RetS_drop, RetS_ret, RetS_if, RetS_asg, RetS_par, RetS_put, RetS_nx, RetS_rt, Ret_dFn, Ret_dCons, Ret_dNil, Ret_dBin, Ret_dUn, Ret_dCall, Ret_dCallN, Ret_dC, Ret_dG, Ret_dVar, Ret_dIf, Ret_dFz, Ret_dNew, Ret_dLst, Ret_dTup, Ret_dB, Ret_dAndT, Ret_dOrT, Ret_dNotT, Ret_dAnd, Ret_dOr, Ret_dNot, Ret_dIsi, Ret_dChain, Ret_dGet, Ret_dD0, Ret_dNoP, Ret_dPt, Ret_dSlA, Ret_dMeth, Ret_dAny, Ret_dLenSet, Ret_dZip, Ret_dZipL, Ret_dKeys, Ret_dRng1, Ret_dRng2, Ret_dLc, RetS_for, Ret_ok, startW, List.map_cons, List.map_nil, List.length_cons, List.length_nil, List.cons_append, List.nil_append, List.replicate, Nat.sub_self, Nat.reduceSub, Nat.reduceAdd, List.getElem?_cons_zero, List.getElem?_cons_succ, List.set_cons_zero, List.set_cons_succ, Option.some.injEq, exists_eq_left', rd_d, on2_d, on1_d, c1_d, bOf_b, exists_eq_left, Option.map_some, Option.bind_some, W.d.injEq, Ret_gcd, List.take_length, dIx, wipeW]
            cases h97 : decide (97 ≤ c) <;> simp [wipeW, leS, e1, e2, h97, lowD, lowB]
          · simp only [RetS_cons, RetS_nil, RetS_set, RetS_drop, RetS_ret, RetS_if, RetS_asg, RetS_par, RetS_put, RetS_nx, RetS_rt, Ret_dFn, Ret_dCons, Ret_dNil, Ret_dBin, Ret_dUn, Ret_dCall, Ret_dCallN, Ret_dC, Ret_dG, Ret_dVar, Ret_dIf, Ret_dFz, Ret_dNew, Ret_dLst, Ret_dTup, Ret_dB, Ret_dAndT, Ret_dOrT, Ret_dNotT, Ret_dAnd, Ret_dOr, Ret_dNot, Ret_dIsi, Ret_dChain, Ret_dGet, Ret_dD0, Ret_dNoP, Ret_dPt, Ret_dSlA, Ret_dMeth, Ret_dAny, Ret_dLenSet, Ret_dZip, Ret_dZipL, Ret_dKeys, Ret_dRng1, Ret_dRng2, Ret_dLc, RetS_for, Ret_ok, startW, List.map_cons, List.map_nil, List.length_cons, List.length_nil, List.cons_append, List.nil_append, List.replicate, Nat.sub_self, Nat.reduceSub, Nat.reduceAdd, List.getElem?_cons_zero, List.getElem?_cons_succ, List.set_cons_zero, List.set_cons_succ, Option.some.injEq, exists_eq_left', rd_d, on2_d, on1_d, c1_d, bOf_b, exists_eq_left, Option.map_some, Option.bind_some, W.d.injEq, Ret_gcd, List.take_length, dIx, wipeW]
            simp [wipeW]
        · have g : ∀ x ∈ (CL.signs z).filter (fun x => !lowD x), Gd 1 0 x := fun x hx => by
            obtain ⟨c, hc, rfl⟩ := sign_of hs x (List.mem_filter.mp hx).1
            exact sign_gd hc
          simp [eq_nil g (by decide), empty_filter, nameB, n1, n2, Ret_gcd, datz, dats, small]
          exact lowD_signs z
      · have c1 := ltP_of (cmp_int 0 z.length)
        have c2 := ltP_of (cmp_int z.length 9)
        simp [isiP, lenP, hz, c1, c2, ltD, h1, h2, anyW, Ret_gcd, nameB]
        omega
    · have c1 := ltP_of (cmp_int 0 z.length)
      simp [isiP, lenP, hz, c1, ltD, h1, anyW, Ret_gcd, nameB]
      omega
  | dict _ => simp [plD] at hp
  | _ => simp [isiP, nameB, Ret_gcd]
theorem l_pair_ok {x : PyData} (S : So) (h : Gv x) : f_l_is_pair [.d x] S = some (.ok (.d (.bool (pairB x))) S) := by
  refine Ret.eq (Ret_fnB rfl ?_)
  have hp := pl_of x h.ok
  unfold b_l_is_pair
  simp only [RetS_cons, RetS_nil, RetS_set, RetS_drop, RetS_ret, RetS_if, RetS_asg, RetS_par, RetS_put, RetS_nx, RetS_rt, Ret_dFn, Ret_dCons, Ret_dNil, Ret_dBin, Ret_dUn, Ret_dCall, Ret_dCallN, Ret_dC, Ret_dG, Ret_dVar, Ret_dIf, Ret_dFz, Ret_dNew, Ret_dLst, Ret_dTup, Ret_dB, Ret_dAndT, Ret_dOrT, Ret_dNotT, Ret_dAnd, Ret_dOr, Ret_dNot, Ret_dIsi, Ret_dChain, Ret_dGet, Ret_dD0, Ret_dNoP, Ret_dPt, Ret_dSlA, Ret_dMeth, Ret_dAny, Ret_dLenSet, Ret_dZip, Ret_dZipL, Ret_dKeys, Ret_dRng1, Ret_dRng2, Ret_dLc, RetS_for, Ret_ok, startW, List.map_cons, List.map_nil, List.length_cons, List.length_nil, List.cons_append, List.nil_append, List.replicate, Nat.sub_self, Nat.reduceSub, Nat.reduceAdd, List.getElem?_cons_zero, List.getElem?_cons_succ, List.set_cons_zero, List.set_cons_succ, Option.some.injEq, exists_eq_left', rd_d, on2_d, on1_d, c1_d, bOf_b, exists_eq_left, Option.map_some, Option.bind_some, W.d.injEq, Ret_gcd, List.take_length, dIx, wipeW]
  match x with
  | .tuple [] => simp [isiP, lenP, eqv_two, pairB, Ret_gcd]
  | .tuple [a] => simp [isiP, lenP, eqv_two, pairB, Ret_gcd]
  | .tuple [a, b] =>
    have hm := h.ofTuple
    have ga := (hm.mem (x := a) (by simp)).mono (Nat.le_refl _) (show 40 - 1 ≤ 40 by decide)
    have gb := (hm.mem (x := b) (by simp)).mono (Nat.le_refl _) (show 40 - 1 ≤ 40 by decide)
    cases hn : nameB a <;> simp [isiP, lenP, eqv_two, atP, L2.atI, L2.ixN, l_name_ok S ga, l_name_ok S gb, hn, pairB, Ret_gcd]
  | .tuple (a :: b :: c :: r) =>
    have e : decide ((r.length : Int) + 1 + 1 + 1 = 2) = false := decide_eq_false (by omega)
    simp [isiP, lenP, eqv_two, e, pairB, Ret_gcd]
  | .dict _ => simp [plD] at hp
  | .none | .bool _ | .int _ | .str _ | .list _ => simp [isiP, pairB, Ret_gcd]
theorem l_coin_ok' {x : PyData} (S : So) (h : Gv x) (hs : ∀ y, Gv y → f_l_is_scope [.d y] S = some (.ok (.d (.bool (scopeB y))) S)) : f_l_is_coin [.d x] S = some (.ok (.d (.bool (coinB x))) S) := by
  refine Ret.eq (Ret_fnB rfl ?_)
  have hp := pl_of x h.ok
  unfold b_l_is_coin
  simp only [RetS_cons, RetS_nil, RetS_set, RetS_drop, RetS_ret, RetS_if, RetS_asg, RetS_par, RetS_put, RetS_nx, RetS_rt, Ret_dFn, Ret_dCons, Ret_dNil, Ret_dBin, Ret_dUn, Ret_dCall, Ret_dCallN, Ret_dC, Ret_dG, Ret_dVar, Ret_dIf, Ret_dFz, Ret_dNew, Ret_dLst, Ret_dTup, Ret_dB, Ret_dAndT, Ret_dOrT, Ret_dNotT, Ret_dAnd, Ret_dOr, Ret_dNot, Ret_dIsi, Ret_dChain, Ret_dGet, Ret_dD0, Ret_dNoP, Ret_dPt, Ret_dSlA, Ret_dMeth, Ret_dAny, Ret_dLenSet, Ret_dZip, Ret_dZipL, Ret_dKeys, Ret_dRng1, Ret_dRng2, Ret_dLc, RetS_for, Ret_ok, startW, List.map_cons, List.map_nil, List.length_cons, List.length_nil, List.cons_append, List.nil_append, List.replicate, Nat.sub_self, Nat.reduceSub, Nat.reduceAdd, List.getElem?_cons_zero, List.getElem?_cons_succ, List.set_cons_zero, List.set_cons_succ, Option.some.injEq, exists_eq_left', rd_d, on2_d, on1_d, c1_d, bOf_b, exists_eq_left, Option.map_some, Option.bind_some, W.d.injEq, Ret_gcd, List.take_length, dIx, wipeW]
  match x with
  | .tuple [] => simp [isiP, lenP, eqv_two, coinB, Ret_gcd]
  | .tuple [a] => simp [isiP, lenP, eqv_two, coinB, Ret_gcd]
  | .tuple [a, b] =>
    have hm := h.ofTuple
    have ga := (hm.mem (x := a) (by simp)).mono (Nat.le_refl _) (show 40 - 1 ≤ 40 by decide)
    have gb := (hm.mem (x := b) (by simp)).mono (Nat.le_refl _) (show 40 - 1 ≤ 40 by decide)
    cases hn : numB a <;> simp [isiP, lenP, eqv_two, atP, L2.atI, L2.ixN, l_number_ok S ga, hs b gb, hn, coinB, Ret_gcd]
  | .tuple (a :: b :: c :: r) =>
    have e : decide ((r.length : Int) + 1 + 1 + 1 = 2) = false := decide_eq_false (by omega)
    simp [isiP, lenP, eqv_two, e, coinB, Ret_gcd]
  | .dict _ => simp [plD] at hp
  | .none | .bool _ | .int _ | .str _ | .list _ => simp [isiP, coinB, Ret_gcd]
def allT (f : PyData → Bool) : PyData → Bool
  | .tuple xs => xs.all f
  | _ => false
/-- are(check, value) -/
theorem are_body {x : PyData} (S : So) (h : Gv x) {nm : Str} {F : DF} {f : PyData → Bool} (T : Str → Option DF) (hT : T nm = some F) (hF : ∀ y, Gv y → F [.d y] S = some (.ok (.d (.bool (f y))) S))
    (body : DS) (hb : body = (sCons (sRet (dAnd (dIsi "tuple" (dVar 1)) (dBin (on2 eqP) (dFz (dLc [2] (dAny (dVar 1)) (.nm 2) (dNotT (dB (dHeld 0 T (dCons (dVar 2) dNil)))) (dVar 2))) (dFz (dLst dNil))))) sNil)) :
    fnB gc 2 3 body [.g nm, .d x] S = some (.ok (.d (.bool (allT f x))) S) := by
  subst hb
  refine Ret.eq (Ret_fnB rfl ?_)
  have hp := pl_of x h.ok
  simp only [RetS_cons, RetS_nil, RetS_set, RetS_drop, RetS_ret, RetS_if, RetS_asg, RetS_par, RetS_put, RetS_nx, RetS_rt, Ret_dFn, Ret_dCons, Ret_dNil, Ret_dBin, Ret_dUn, Ret_dCall, Ret_dCallN, Ret_dC, Ret_dG, Ret_dVar, Ret_dIf, Ret_dFz, Ret_dNew, Ret_dLst, Ret_dTup, Ret_dB, Ret_dAndT, Ret_dOrT, Ret_dNotT, Ret_dAnd, Ret_dOr, Ret_dNot, Ret_dIsi, Ret_dChain, Ret_dGet, Ret_dD0, Ret_dNoP, Ret_dPt, Ret_dSlA, Ret_dMeth, Ret_dAny, Ret_dLenSet, Ret_dZip, Ret_dZipL, Ret_dKeys, Ret_dRng1, Ret_dRng2, Ret_dLc, RetS_for, Ret_ok, startW, List.map_cons, List.map_nil, List.length_cons, List.length_nil, List.cons_append, List.nil_append, List.replicate, Nat.sub_self, Nat.reduceSub, Nat.reduceAdd, List.getElem?_cons_zero, List.getElem?_cons_succ, List.set_cons_zero, List.set_cons_succ, Option.some.injEq, exists_eq_left', rd_d, on2_d, on1_d, c1_d, bOf_b, exists_eq_left, Option.map_some, Option.bind_some, W.d.injEq, Ret_gcd, List.take_length, dIx, wipeW]
  cases x with
  | tuple xs =>
    have hm := h.ofTuple
    simp [isiP, anyW, Ret_gcd, allT]
    refine Ret.of (lc_pure (fun x => !f x) (fun x => x) _ _ fun x hx => ?_) ?_
    · refine ⟨_, rfl, ?_, fun _ => ?_⟩
      · rw [Ret_dNotT, Ret_dB, Ret_dHeld (x := nm) (F := F) _ _ _ _ rfl hT]
        simp only [RetS_cons, RetS_nil, RetS_set, RetS_drop, RetS_ret, RetS_if, RetS_asg, RetS_par, RetS_put, RetS_nx, RetS_rt, Ret_dFn, Ret_dCons, Ret_dNil, Ret_dBin, Ret_dUn, Ret_dCall, Ret_dCallN, Ret_dC, Ret_dG, Ret_dVar, Ret_dIf, Ret_dFz, Ret_dNew, Ret_dLst, Ret_dTup, Ret_dB, Ret_dAndT, Ret_dOrT, Ret_dNotT, Ret_dAnd, Ret_dOr, Ret_dNot, Ret_dIsi, Ret_dChain, Ret_dGet, Ret_dD0, Ret_dNoP, Ret_dPt, Ret_dSlA, Ret_dMeth, Ret_dAny, Ret_dLenSet, Ret_dZip, Ret_dZipL, Ret_dKeys, Ret_dRng1, Ret_dRng2, Ret_dLc, RetS_for, Ret_ok, startW, List.map_cons, List.map_nil, List.length_cons, List.length_nil, List.cons_append, List.nil_append, List.replicate, Nat.sub_self, Nat.reduceSub, Nat.reduceAdd, List.getElem?_cons_zero, List.getElem?_cons_succ, List.set_cons_zero, List.set_cons_succ, Option.some.injEq, exists_eq_left', rd_d, on2_d, on1_d, c1_d, bOf_b, exists_eq_left, Option.map_some, Option.bind_some, W.d.injEq, Ret_gcd, List.take_length, dIx, wipeW]
        simp [wipeW, hF x ((hm.mem hx).mono (Nat.le_refl _) (by decide))]
      · simp only [RetS_cons, RetS_nil, RetS_set, RetS_drop, RetS_ret, RetS_if, RetS_asg, RetS_par, RetS_put, RetS_nx, RetS_rt, Ret_dFn, Ret_dCons, Ret_dNil, Ret_dBin, Ret_dUn, Ret_dCall, Ret_dCallN, Ret_dC, Ret_dG, Ret_dVar, Ret_dIf, Ret_dFz, Ret_dNew, Ret_dLst, Ret_dTup, Ret_dB, Ret_dAndT, Ret_dOrT, Ret_dNotT, Ret_dAnd, Ret_dOr, Ret_dNot, Ret_dIsi, Ret_dChain, Ret_dGet, Ret_dD0, Ret_dNoP, Ret_dPt, Ret_dSlA, Ret_dMeth, Ret_dAny, Ret_dLenSet, Ret_dZip, Ret_dZipL, Ret_dKeys, Ret_dRng1, Ret_dRng2, Ret_dLc, RetS_for, Ret_ok, startW, List.map_cons, List.map_nil, List.length_cons, List.length_nil, List.cons_append, List.nil_append, List.replicate, Nat.sub_self, Nat.reduceSub, Nat.reduceAdd, List.getElem?_cons_zero, List.getElem?_cons_succ, List.set_cons_zero, List.set_cons_succ, Option.some.injEq, exists_eq_left', rd_d, on2_d, on1_d, c1_d, bOf_b, exists_eq_left, Option.map_some, Option.bind_some, W.d.injEq, Ret_gcd, List.take_length, dIx, wipeW]
        simp [wipeW]
    · have g : ∀ x ∈ xs.filter (fun x => !f x), Gd 200000 39 x := fun x hx => hm.mem (List.mem_filter.mp hx).1
      simp [datz, dats, small, eq_nil g (by decide), empty_filter, Ret_gcd]
  | dict _ => simp [plD] at hp
  | _ => simp [isiP, Ret_gcd, allT]
theorem pairsOf_range : ∀ xs : List PyData, pairsOf xs = (List.range (xs.length - 1)).map fun i => (xs.getD i .none, xs.getD (i + 1) .none)
  | [] => rfl
  | [x] => rfl
  | x :: y :: r => by
    have ih := pairsOf_range (y :: r)
    show (x, y) :: pairsOf (y :: r) = _
    rw [ih]
    have : (x :: y :: r).length - 1 = (y :: r).length - 1 + 1 := by simp
    rw [this, List.range_succ_eq_map, List.map_cons, List.map_map]
    rfl
def badAt (xs : List PyData) : PyData → Bool
  | .int k => ltD (xs.getD (k.toNat - 1) .none) (xs.getD k.toNat .none)
  | _ => true
theorem asc_rng (xs : List PyData) : (rng 1 xs.length).all (badAt xs) = ascB xs := by
  rw [asc_pairs, pairsOf_range]
  unfold rng
  have e : ((xs.length : Int) - 1).toNat = xs.length - 1 := by omega
  rw [e, List.all_map, List.all_map]
  congr 1
  funext i
  show ltD (xs.getD ((1 + (i : Int)).toNat - 1) .none) (xs.getD (1 + (i : Int)).toNat .none) = _
  have e1 : (1 + (i : Int)).toNat = i + 1 := by omega
  rw [e1]
  rfl
theorem at_nat {xs : List PyData} {k : Int} (h0 : 0 ≤ k) (h1 : k < xs.length) : L2.atI xs k = some (xs.getD k.toNat .none) := by
  obtain ⟨j, rfl⟩ : ∃ j : Nat, k = (j : Int) := ⟨k.toNat, by omega⟩
  have hlt : j < xs.length := by omega
  refine (L2.atI_nat (v := xs[j]) (List.getElem?_eq_getElem hlt)).trans ?_
  simp [hlt]
theorem rng_mem {a b : Int} {x : PyData} (h : x ∈ rng a b) : ∃ k, x = .int k ∧ a ≤ k ∧ k < b := by
  unfold rng at h
  obtain ⟨i, hi, rfl⟩ := List.mem_map.mp h
  have := List.mem_range.mp hi
  exact ⟨_, rfl, by omega, by omega⟩
theorem l_ascends_ok {xs : List PyData} (k : List PyData → PyData) (hk : k = .tuple ∨ k = .list) (S : So) (h : ∀ x ∈ xs, ∀ y ∈ xs, Cmp x y) (hl : xs.length ≤ 200000) : f_l_ascends [.d (k xs)] S = some (.ok (.d (.bool (ascB xs))) S) := by
  refine Ret.eq (Ret_fnB rfl ?_)
  unfold b_l_ascends
  simp only [RetS_cons, RetS_nil, RetS_set, RetS_drop, RetS_ret, RetS_if, RetS_asg, RetS_par, RetS_put, RetS_nx, RetS_rt, Ret_dFn, Ret_dCons, Ret_dNil, Ret_dBin, Ret_dUn, Ret_dCall, Ret_dCallN, Ret_dC, Ret_dG, Ret_dVar, Ret_dIf, Ret_dFz, Ret_dNew, Ret_dLst, Ret_dTup, Ret_dB, Ret_dAndT, Ret_dOrT, Ret_dNotT, Ret_dAnd, Ret_dOr, Ret_dNot, Ret_dIsi, Ret_dChain, Ret_dGet, Ret_dD0, Ret_dNoP, Ret_dPt, Ret_dSlA, Ret_dMeth, Ret_dAny, Ret_dLenSet, Ret_dZip, Ret_dZipL, Ret_dKeys, Ret_dRng1, Ret_dRng2, Ret_dLc, RetS_for, Ret_ok, startW, List.map_cons, List.map_nil, List.length_cons, List.length_nil, List.cons_append, List.nil_append, List.replicate, Nat.sub_self, Nat.reduceSub, Nat.reduceAdd, List.getElem?_cons_zero, List.getElem?_cons_succ, List.set_cons_zero, List.set_cons_succ, Option.some.injEq, exists_eq_left', rd_d, on2_d, on1_d, c1_d, bOf_b, exists_eq_left, Option.map_some, Option.bind_some, W.d.injEq, Ret_gcd, List.take_length, dIx, wipeW]
  have hat : ∀ i : Int, 0 ≤ i → i < xs.length → atP (k xs) (.int i) = some (xs.getD i.toNat .none) := fun i h0 h1 => by
    rcases hk with e | e <;> subst e <;> exact at_nat h0 h1
  have hmem : ∀ i : Int, 0 ≤ i → i < xs.length → xs.getD i.toNat .none ∈ xs := fun i h0 h1 => by
    have hlt : i.toNat < xs.length := by omega
    simp [hlt]
  have hlen : lenP (k xs) = some (.int xs.length) := by rcases hk with e | e <;> subst e <;> rfl
  simp [hlen]
  refine ⟨1, xs.length, ⟨rfl, rfl⟩, by omega, ?_⟩
  refine Ret.of (lc_pure (fun x => !badAt xs x) (fun x => x) _ _ fun x hx => ?_) ?_
  · obtain ⟨i, rfl, h1, h2⟩ := rng_mem hx
    refine ⟨_, rfl, ?_, fun _ => ?_⟩
    · simp only [RetS_cons, RetS_nil, RetS_set, RetS_drop, RetS_ret, RetS_if, RetS_asg, RetS_par, RetS_put, RetS_nx, RetS_rt, Ret_dFn, Ret_dCons, Ret_dNil, Ret_dBin, Ret_dUn, Ret_dCall, Ret_dCallN, Ret_dC, Ret_dG, Ret_dVar, Ret_dIf, Ret_dFz, Ret_dNew, Ret_dLst, Ret_dTup, Ret_dB, Ret_dAndT, Ret_dOrT, Ret_dNotT, Ret_dAnd, Ret_dOr, Ret_dNot, Ret_dIsi, Ret_dChain, Ret_dGet, Ret_dD0, Ret_dNoP, Ret_dPt, Ret_dSlA, Ret_dMeth, Ret_dAny, Ret_dLenSet, Ret_dZip, Ret_dZipL, Ret_dKeys, Ret_dRng1, Ret_dRng2, Ret_dLc, RetS_for, Ret_ok, startW, List.map_cons, List.map_nil, List.length_cons, List.length_nil, List.cons_append, List.nil_append, List.replicate, Nat.sub_self, Nat.reduceSub, Nat.reduceAdd, List.getElem?_cons_zero, List.getElem?_cons_succ, List.set_cons_zero, List.set_cons_succ, Option.some.injEq, exists_eq_left', rd_d, on2_d, on1_d, c1_d, bOf_b, exists_eq_left, Option.map_some, Option.bind_some, W.d.injEq, Ret_gcd, List.take_length, dIx, wipeW]
      have e1 : (i - 1).toNat = i.toNat - 1 := by omega
      have q := ltP_of (h _ (hmem (i - 1) (by omega) (by omega)) _ (hmem i (by omega) h2))
      rw [e1] at q
      simp only [List.getD_eq_getElem?_getD] at q
      simp [wipeW, subP, hat (i - 1) (by omega) (by omega), hat i (by omega) h2, badAt, e1, q]
    · simp only [RetS_cons, RetS_nil, RetS_set, RetS_drop, RetS_ret, RetS_if, RetS_asg, RetS_par, RetS_put, RetS_nx, RetS_rt, Ret_dFn, Ret_dCons, Ret_dNil, Ret_dBin, Ret_dUn, Ret_dCall, Ret_dCallN, Ret_dC, Ret_dG, Ret_dVar, Ret_dIf, Ret_dFz, Ret_dNew, Ret_dLst, Ret_dTup, Ret_dB, Ret_dAndT, Ret_dOrT, Ret_dNotT, Ret_dAnd, Ret_dOr, Ret_dNot, Ret_dIsi, Ret_dChain, Ret_dGet, Ret_dD0, Ret_dNoP, Ret_dPt, Ret_dSlA, Ret_dMeth, Ret_dAny, Ret_dLenSet, Ret_dZip, Ret_dZipL, Ret_dKeys, Ret_dRng1, Ret_dRng2, Ret_dLc, RetS_for, Ret_ok, startW, List.map_cons, List.map_nil, List.length_cons, List.length_nil, List.cons_append, List.nil_append, List.replicate, Nat.sub_self, Nat.reduceSub, Nat.reduceAdd, List.getElem?_cons_zero, List.getElem?_cons_succ, List.set_cons_zero, List.set_cons_succ, Option.some.injEq, exists_eq_left', rd_d, on2_d, on1_d, c1_d, bOf_b, exists_eq_left, Option.map_some, Option.bind_some, W.d.injEq, Ret_gcd, List.take_length, dIx, wipeW]
      simp [wipeW]
  · have g : ∀ x ∈ (rng 1 xs.length).filter (fun x => !badAt xs x), Gd 0 0 x := fun x hx => by
      obtain ⟨i, rfl, h1, h2⟩ := rng_mem (List.mem_filter.mp hx).1
      refine ⟨?_, by simp [PyData.bulk], by simp [PyData.depth]⟩
      simp only [okd, decide_eq_true_eq]
      omega
    simp [datz, dats, small, eq_nil g (by decide), empty_filter, asc_rng, Ret_gcd]
theorem l_are_pair_ok {x : PyData} (S : So) (h : Gv x) : f_l_are_l_is_pair [.g "_law_is_pair", .d x] S = some (.ok (.d (.bool (pairsB x))) S) := by
  have := are_body (nm := "_law_is_pair") (F := f_l_is_pair) (f := pairB) S h (tabF tab_l_are_l_is_pair) rfl (fun y hy => l_pair_ok S hy) _ rfl
  rw [show pairsB x = allT pairB x by cases x <;> rfl]
  exact this
theorem gv_len {xs : List PyData} (h : Gv (.tuple xs)) : xs.length ≤ 200000 := h.ofTuple.len
theorem l_scope_ok {x : PyData} (S : So) (h : Gv x) : f_l_is_scope [.d x] S = some (.ok (.d (.bool (scopeB x))) S) := by
  refine Ret.eq (Ret_fnB rfl ?_)
  unfold b_l_is_scope
  simp only [RetS_cons, RetS_nil, RetS_set, RetS_drop, RetS_ret, RetS_if, RetS_asg, RetS_par, RetS_put, RetS_nx, RetS_rt, Ret_dFn, Ret_dCons, Ret_dNil, Ret_dBin, Ret_dUn, Ret_dCall, Ret_dCallN, Ret_dC, Ret_dG, Ret_dVar, Ret_dIf, Ret_dFz, Ret_dNew, Ret_dLst, Ret_dTup, Ret_dB, Ret_dAndT, Ret_dOrT, Ret_dNotT, Ret_dAnd, Ret_dOr, Ret_dNot, Ret_dIsi, Ret_dChain, Ret_dGet, Ret_dD0, Ret_dNoP, Ret_dPt, Ret_dSlA, Ret_dMeth, Ret_dAny, Ret_dLenSet, Ret_dZip, Ret_dZipL, Ret_dKeys, Ret_dRng1, Ret_dRng2, Ret_dLc, RetS_for, Ret_ok, startW, List.map_cons, List.map_nil, List.length_cons, List.length_nil, List.cons_append, List.nil_append, List.replicate, Nat.sub_self, Nat.reduceSub, Nat.reduceAdd, List.getElem?_cons_zero, List.getElem?_cons_succ, List.set_cons_zero, List.set_cons_succ, Option.some.injEq, exists_eq_left', rd_d, on2_d, on1_d, c1_d, bOf_b, exists_eq_left, Option.map_some, Option.bind_some, W.d.injEq, Ret_gcd, List.take_length, dIx, wipeW]
  simp [l_are_pair_ok S h]
  match x, h with
  | .tuple xs, h =>
    cases hp : xs.all pairB with
    | true =>
      have hc : ∀ x ∈ xs, ∀ y ∈ xs, Cmp x y := fun x hx y hy => cmp_pair (List.all_eq_true.mp hp x hx) (List.all_eq_true.mp hp y hy)
      simp [pairsB, hp, l_ascends_ok .tuple (.inl rfl) S hc (gv_len h), scopeB, Ret_gcd]
    | false => simp [pairsB, hp, scopeB, Ret_gcd]
  | .none, _ | .bool _, _ | .int _, _ | .str _, _ | .list _, _ | .dict _, _ => simp [pairsB, scopeB, Ret_gcd]
theorem l_coin_ok {x : PyData} (S : So) (h : Gv x) : f_l_is_coin [.d x] S = some (.ok (.d (.bool (coinB x))) S) := l_coin_ok' S h fun y hy => l_scope_ok S hy
theorem l_are_coin_ok {x : PyData} (S : So) (h : Gv x) : f_l_are_l_is_coin [.g "_law_is_coin", .d x] S = some (.ok (.d (.bool (allT coinB x))) S) :=
  are_body (nm := "_law_is_coin") (F := f_l_is_coin) (f := coinB) S h (tabF tab_l_are_l_is_coin) rfl (fun y hy => l_coin_ok S hy) _ rfl
theorem l_are_name_ok {x : PyData} (S : So) (h : Gv x) : f_l_are_l_is_name [.g "_law_is_name", .d x] S = some (.ok (.d (.bool (namesB x))) S) := by
  have := are_body (nm := "_law_is_name") (F := f_l_is_name) (f := nameB) S h (tabF tab_l_are_l_is_name) rfl (fun y hy => l_name_ok S hy) _ rfl
  rw [show namesB x = allT nameB x by cases x <;> rfl]
  exact this
theorem l_names_ok {x : PyData} (S : So) (h : Gv x) : f_l_are_names [.d x] S = some (.ok (.d (.bool (namesB x))) S) := by
  refine Ret.eq (Ret_fnB rfl ?_)
  unfold b_l_are_names
  simp only [RetS_cons, RetS_nil, RetS_set, RetS_drop, RetS_ret, RetS_if, RetS_asg, RetS_par, RetS_put, RetS_nx, RetS_rt, Ret_dFn, Ret_dCons, Ret_dNil, Ret_dBin, Ret_dUn, Ret_dCall, Ret_dCallN, Ret_dC, Ret_dG, Ret_dVar, Ret_dIf, Ret_dFz, Ret_dNew, Ret_dLst, Ret_dTup, Ret_dB, Ret_dAndT, Ret_dOrT, Ret_dNotT, Ret_dAnd, Ret_dOr, Ret_dNot, Ret_dIsi, Ret_dChain, Ret_dGet, Ret_dD0, Ret_dNoP, Ret_dPt, Ret_dSlA, Ret_dMeth, Ret_dAny, Ret_dLenSet, Ret_dZip, Ret_dZipL, Ret_dKeys, Ret_dRng1, Ret_dRng2, Ret_dLc, RetS_for, Ret_ok, startW, List.map_cons, List.map_nil, List.length_cons, List.length_nil, List.cons_append, List.nil_append, List.replicate, Nat.sub_self, Nat.reduceSub, Nat.reduceAdd, List.getElem?_cons_zero, List.getElem?_cons_succ, List.set_cons_zero, List.set_cons_succ, Option.some.injEq, exists_eq_left', rd_d, on2_d, on1_d, c1_d, bOf_b, exists_eq_left, Option.map_some, Option.bind_some, W.d.injEq, Ret_gcd, List.take_length, dIx, wipeW]
  simp [l_are_name_ok S h, Ret_gcd]
theorem l_are_names_ok {x : PyData} (S : So) (h : Gv x) : f_l_are_l_are_names [.g "_law_are_names", .d x] S = some (.ok (.d (.bool (allT namesB x))) S) :=
  are_body (nm := "_law_are_names") (F := f_l_are_names) (f := namesB) S h (tabF tab_l_are_l_are_names) rfl (fun y hy => l_names_ok S hy) _ rfl
theorem l_coins_ok {x : PyData} (S : So) (h : Gv x) : f_l_are_coins [.d x] S = some (.ok (.d (.bool (coinsB x))) S) := by
  refine Ret.eq (Ret_fnB rfl ?_)
  unfold b_l_are_coins
  simp only [RetS_cons, RetS_nil, RetS_set, RetS_drop, RetS_ret, RetS_if, RetS_asg, RetS_par, RetS_put, RetS_nx, RetS_rt, Ret_dFn, Ret_dCons, Ret_dNil, Ret_dBin, Ret_dUn, Ret_dCall, Ret_dCallN, Ret_dC, Ret_dG, Ret_dVar, Ret_dIf, Ret_dFz, Ret_dNew, Ret_dLst, Ret_dTup, Ret_dB, Ret_dAndT, Ret_dOrT, Ret_dNotT, Ret_dAnd, Ret_dOr, Ret_dNot, Ret_dIsi, Ret_dChain, Ret_dGet, Ret_dD0, Ret_dNoP, Ret_dPt, Ret_dSlA, Ret_dMeth, Ret_dAny, Ret_dLenSet, Ret_dZip, Ret_dZipL, Ret_dKeys, Ret_dRng1, Ret_dRng2, Ret_dLc, RetS_for, Ret_ok, startW, List.map_cons, List.map_nil, List.length_cons, List.length_nil, List.cons_append, List.nil_append, List.replicate, Nat.sub_self, Nat.reduceSub, Nat.reduceAdd, List.getElem?_cons_zero, List.getElem?_cons_succ, List.set_cons_zero, List.set_cons_succ, Option.some.injEq, exists_eq_left', rd_d, on2_d, on1_d, c1_d, bOf_b, exists_eq_left, Option.map_some, Option.bind_some, W.d.injEq, Ret_gcd, List.take_length, dIx, wipeW]
  simp [l_are_coin_ok S h]
  match x, h with
  | .tuple xs, h =>
    cases hc : xs.all coinB with
    | false => simp [hc, allT, coinsB, Ret_gcd]
    | true =>
      simp [hc, allT, coinsB, Ret_gcd, anyW]
      refine ⟨xs, none, ⟨rfl, rfl⟩, Ret.of (lc_pure (fun _ => true) headD _ _ fun x hx => ?_) ?_⟩
      · obtain ⟨n, s, rfl⟩ := coin_head (List.all_eq_true.mp hc x hx)
        refine ⟨_, rfl, ⟨rfl, rfl⟩, fun _ => ?_⟩
        simp only [RetS_cons, RetS_nil, RetS_set, RetS_drop, RetS_ret, RetS_if, RetS_asg, RetS_par, RetS_put, RetS_nx, RetS_rt, Ret_dFn, Ret_dCons, Ret_dNil, Ret_dBin, Ret_dUn, Ret_dCall, Ret_dCallN, Ret_dC, Ret_dG, Ret_dVar, Ret_dIf, Ret_dFz, Ret_dNew, Ret_dLst, Ret_dTup, Ret_dB, Ret_dAndT, Ret_dOrT, Ret_dNotT, Ret_dAnd, Ret_dOr, Ret_dNot, Ret_dIsi, Ret_dChain, Ret_dGet, Ret_dD0, Ret_dNoP, Ret_dPt, Ret_dSlA, Ret_dMeth, Ret_dAny, Ret_dLenSet, Ret_dZip, Ret_dZipL, Ret_dKeys, Ret_dRng1, Ret_dRng2, Ret_dLc, RetS_for, Ret_ok, startW, List.map_cons, List.map_nil, List.length_cons, List.length_nil, List.cons_append, List.nil_append, List.replicate, Nat.sub_self, Nat.reduceSub, Nat.reduceAdd, List.getElem?_cons_zero, List.getElem?_cons_succ, List.set_cons_zero, List.set_cons_succ, Option.some.injEq, exists_eq_left', rd_d, on2_d, on1_d, c1_d, bOf_b, exists_eq_left, Option.map_some, Option.bind_some, W.d.injEq, Ret_gcd, List.take_length, dIx, wipeW]
        simp [wipeW, headD, atP, L2.atI, L2.ixN]
      · rw [List.filter_eq_self.mpr fun _ _ => rfl]
        have hcm : ∀ x ∈ xs.map headD, ∀ y ∈ xs.map headD, Cmp x y := fun x hx y hy => by
          obtain ⟨a, ha, rfl⟩ := List.mem_map.mp hx
          obtain ⟨b, hb, rfl⟩ := List.mem_map.mp hy
          obtain ⟨n, s, rfl⟩ := coin_head (List.all_eq_true.mp hc a ha)
          obtain ⟨m, t, rfl⟩ := coin_head (List.all_eq_true.mp hc b hb)
          exact cmp_int n m
        simp [l_ascends_ok .list (.inr rfl) S hcm (by simpa using gv_len h), Ret_gcd]
  | .none, _ | .bool _, _ | .int _, _ | .str _, _ | .list _, _ | .dict _, _ => simp [allT, coinsB, Ret_gcd]
theorem l_shape_ok {x : PyData} (S : So) (h : Gv x) : f_l_is_shape [.d x] S = some (.ok (.d (.bool (shapeB x))) S) := by
  refine Ret.eq (Ret_fnB rfl ?_)
  have hp := pl_of x h.ok
  unfold b_l_is_shape
  simp only [RetS_cons, RetS_nil, RetS_set, RetS_drop, RetS_ret, RetS_if, RetS_asg, RetS_par, RetS_put, RetS_nx, RetS_rt, Ret_dFn, Ret_dCons, Ret_dNil, Ret_dBin, Ret_dUn, Ret_dCall, Ret_dCallN, Ret_dC, Ret_dG, Ret_dVar, Ret_dIf, Ret_dFz, Ret_dNew, Ret_dLst, Ret_dTup, Ret_dB, Ret_dAndT, Ret_dOrT, Ret_dNotT, Ret_dAnd, Ret_dOr, Ret_dNot, Ret_dIsi, Ret_dChain, Ret_dGet, Ret_dD0, Ret_dNoP, Ret_dPt, Ret_dSlA, Ret_dMeth, Ret_dAny, Ret_dLenSet, Ret_dZip, Ret_dZipL, Ret_dKeys, Ret_dRng1, Ret_dRng2, Ret_dLc, RetS_for, Ret_ok, startW, List.map_cons, List.map_nil, List.length_cons, List.length_nil, List.cons_append, List.nil_append, List.replicate, Nat.sub_self, Nat.reduceSub, Nat.reduceAdd, List.getElem?_cons_zero, List.getElem?_cons_succ, List.set_cons_zero, List.set_cons_succ, Option.some.injEq, exists_eq_left', rd_d, on2_d, on1_d, c1_d, bOf_b, exists_eq_left, Option.map_some, Option.bind_some, W.d.injEq, Ret_gcd, List.take_length, dIx, wipeW]
  match x with
  | .tuple [] => simp [isiP, lenP, eqv_two, shapeB, Ret_gcd]
  | .tuple [a] => simp [isiP, lenP, eqv_two, shapeB, Ret_gcd]
  | .tuple [a, b] =>
    have hm := h.ofTuple
    have ga := (hm.mem (x := a) (by simp)).mono (Nat.le_refl _) (show 40 - 1 ≤ 40 by decide)
    have gb := (hm.mem (x := b) (by simp)).mono (Nat.le_refl _) (show 40 - 1 ≤ 40 by decide)
    cases hn : namesB a <;> cases b <;> simp [isiP, lenP, eqv_two, atP, L2.atI, L2.ixN, l_names_ok S ga, l_are_names_ok S gb, hn, allT, shapeB, Ret_gcd]
  | .tuple (a :: b :: c :: r) =>
    have e : decide ((r.length : Int) + 1 + 1 + 1 = 2) = false := decide_eq_false (by omega)
    simp [isiP, lenP, eqv_two, e, shapeB, Ret_gcd]
  | .dict _ => simp [plD] at hp
  | .none | .bool _ | .int _ | .str _ | .list _ => simp [isiP, shapeB, Ret_gcd]
end LK01
end

section
/-! part LM01c -/
set_option Elab.async false
set_option linter.all false
set_option maxRecDepth 100000
set_option maxHeartbeats 1000000
/-! LM01c: the reader and what is drawn. -/
open CL
open PySem PySem.Spec PyProof.Rows L2
namespace LK01
def rdK (c : List PyData) (n r d : Int) : List (Key × PyData) := [(.inr "cells", .list c), (.inr "next", .int n), (.inr "rest", .int r), (.inr "draws", .int d)]
section
variable (c : List PyData) (n r d : Int)
theorem val_c : valD (rdK c n r d) (.inr "cells") = some (.list c) := rfl
theorem val_n : valD (rdK c n r d) (.inr "next") = some (.int n) := rfl
theorem val_r : valD (rdK c n r d) (.inr "rest") = some (.int r) := rfl
theorem val_d : valD (rdK c n r d) (.inr "draws") = some (.int d) := rfl
theorem put_n (x : Int) : putD (rdK c n r d) (.inr "next") (.int x) = rdK c x r d := rfl
theorem put_r (x : Int) : putD (rdK c n r d) (.inr "rest") (.int x) = rdK c n x d := rfl
theorem put_d (x : Int) : putD (rdK c n r d) (.inr "draws") (.int x) = rdK c n r x := rfl
theorem len_k : (rdK c n r d).length = 4 := rfl
end
abbrev rdO (ns : List Int) (n r d : Int) : O := .dk (rdK (ns.map PyData.int) n r d)
section
variable {S : So} {k : Nat} {ns : List Int} {n r d : Int} (hk : k < S.length)
include hk
theorem at_set (o : O) : (S.set k o)[k]? = some o := List.getElem?_set_self hk
theorem get_c : dgetW (S.set k (rdO ns n r d)) (.r k) (.d (.str "cells")) = some (.d (.list (ns.map PyData.int))) := by
  simp only [dgetW, at_set hk, keyP, Option.bind_some, val_c, Option.map_some]
theorem get_n : dgetW (S.set k (rdO ns n r d)) (.r k) (.d (.str "next")) = some (.d (.int n)) := by
  simp only [dgetW, at_set hk, keyP, Option.bind_some, val_n, Option.map_some]
theorem get_r : dgetW (S.set k (rdO ns n r d)) (.r k) (.d (.str "rest")) = some (.d (.int r)) := by
  simp only [dgetW, at_set hk, keyP, Option.bind_some, val_r, Option.map_some]
theorem get_d : dgetW (S.set k (rdO ns n r d)) (.r k) (.d (.str "draws")) = some (.d (.int d)) := by
  simp only [dgetW, at_set hk, keyP, Option.bind_some, val_d, Option.map_some]
theorem set_n (x : Int) : dputW (S.set k (rdO ns n r d)) (.r k) (.d (.str "next")) (.d (.int x)) = some (S.set k (rdO ns x r d)) := by
  simp only [dputW, at_set hk, keyP, Option.map_some, put_n, List.set_set, len_k]; rfl
theorem set_r (x : Int) : dputW (S.set k (rdO ns n r d)) (.r k) (.d (.str "rest")) (.d (.int x)) = some (S.set k (rdO ns n x d)) := by
  simp only [dputW, at_set hk, keyP, Option.map_some, put_r, List.set_set, len_k]; rfl
theorem set_d (x : Int) : dputW (S.set k (rdO ns n r d)) (.r k) (.d (.str "draws")) (.d (.int x)) = some (S.set k (rdO ns n r x)) := by
  simp only [dputW, at_set hk, keyP, Option.map_some, put_d, List.set_set, len_k]; rfl
end
theorem okD_ints (ns : List Int) : okD (.list (ns.map PyData.int)) = true := by
  unfold CL.okD SeqAt.shaped
  have h1 : PyData.canLayAll0 (ns.map PyData.int) = true := by
    induction ns with
    | nil => rfl
    | cons n ns ih => simp [PyData.canLayAll0, PyData.canLay0, ih]
  have h2 : PyData.depthAll (ns.map PyData.int) = 0 := by
    induction ns with
    | nil => rfl
    | cons n ns ih => 
      have : PyData.canLayAll0 (ns.map PyData.int) = true := by simpa [PyData.canLayAll0, PyData.canLay0] using h1
      simp [PyData.depthAll, PyData.depth, ih this]
  simp [PyData.canLay0, PyData.depth, h1, h2]
theorem ne_nil_ints (ns : List Int) : neP (.list (ns.map PyData.int)) (.list []) = some (.bool (!ns.isEmpty)) := by
  unfold neP
  rw [okD_ints, okD_nil, eqv_nil]
  simp
/-- the reader at k, whatever it has read -/
def Rdr (ns : List Int) (k : Nat) (S T : So) : Prop := ∃ n r d, T = S.set k (rdO ns n r d)
theorem o2i {S : So} {f : Int → Int → Option PyData} {a b : Int} {c : PyData} (h : f a b = some c) : on2 (i2 f) S (.d (.int a)) (.d (.int b)) = some (.d c) := by simp [h]
theorem o2 {S : So} {f : PyData → PyData → Option PyData} {a b c : PyData} (h : f a b = some c) : on2 f S (.d a) (.d b) = some (.d c) := by simp [h]
theorem c1o {S : So} {f : PyData → Option PyData} {a c : PyData} (h : f a = some c) : c1 f S [.d a] = some (.d c) := by simp [h]
theorem take_set {S : So} {k : Nat} (o o' : O) : (S.set k o).take (S.set k o').length = S.set k o := by
  rw [List.length_set]
  exact List.take_of_length_le (by simp)
theorem mod_of {a b : Int} (h : 0 < b) : modI a b = some (.int (a % b)) := by unfold modI; rw [if_pos h]
theorem div_of {a b : Int} (h : 0 < b) (h1 : b < 1073741824) : divI a b = some (.int (a / b)) := by unfold divI; rw [if_pos ⟨h, h1⟩]
theorem mul_of {a b : Int} (h : (-18446744073709551616 < a ∧ a < 18446744073709551616) ∨ (-18446744073709551616 < b ∧ b < 18446744073709551616)) : mulI a b = some (.int (a * b)) := by unfold mulI; rw [if_pos h]
theorem draw_ok {S : So} {k : Nat} {ns : List Int} {n r d : Int} (hk : k < S.length) {m : Int} (h0 : 0 < m) (h1 : m < 1073741824) :
    Ret (f_l_draw [.r k, .d (.int m)] (S.set k (rdO ns n r d))) fun w T => (∃ x, w = .d (.int x) ∧ 0 ≤ x ∧ x < m) ∧ Rdr ns k S T := by
  have fin : ∀ (x n' r' d' : Int), 0 ≤ x → x < m → Ret (gc (S.set k (rdO ns n r d)).length (.d (.int x)) (S.set k (rdO ns n' r' d'))) fun w T => (∃ x, w = .d (.int x) ∧ 0 ≤ x ∧ x < m) ∧ Rdr ns k S T := fun x n' r' d' a b => by
    rw [Ret_gcd]
    exact ⟨⟨x, rfl, a, b⟩, n', r', d', take_set _ _⟩
  have b0 : ∀ y : Int, 0 ≤ y % m := fun y => Int.emod_nonneg _ (by omega)
  have b1 : ∀ y : Int, y % m < m := fun y => Int.emod_lt_of_pos _ h0
  refine Ret_fnB rfl ?_
  unfold b_l_draw
  simp only [RetS_cons, RetS_nil, RetS_set, RetS_drop, RetS_ret, RetS_if, RetS_asg, RetS_par, RetS_put, RetS_nx, RetS_rt, Ret_dFn, Ret_dCons, Ret_dNil, Ret_dBin, Ret_dUn, Ret_dCall, Ret_dCallN, Ret_dC, Ret_dG, Ret_dVar, Ret_dFz, Ret_dNew, Ret_dLst, Ret_dTup, Ret_dB, Ret_dAndT, Ret_dOrT, Ret_dNotT, Ret_dAnd, Ret_dOr, Ret_dNot, Ret_dIsi, Ret_dChain, Ret_dGet, Ret_dD0, Ret_dNoP, Ret_dPt, Ret_dSlA, Ret_dMeth, Ret_dAny, Ret_dLenSet, Ret_dZip, Ret_dZipL, Ret_dKeys, Ret_dRng1, Ret_dRng2, Ret_dLc, RetS_for, Ret_ok, startW, List.map_cons, List.map_nil, List.length_cons, List.length_nil, List.cons_append, List.nil_append, List.replicate, Nat.sub_self, Nat.reduceSub, Nat.reduceAdd, List.getElem?_cons_zero, List.getElem?_cons_succ, List.set_cons_zero, List.set_cons_succ, Option.some.injEq, exists_eq_left', rd_d, on2_d, on1_d, c1_d, bOf_b, exists_eq_left, Option.map_some, Option.bind_some, W.d.injEq, Ret_gcd, List.take_length, dIx, wipeW]
  refine ⟨_, get_d hk, _, rfl, _, set_d hk _, _, get_r hk, _, rfl, _, rfl, ?_⟩
  split
  · exact ⟨_, get_r hk, _, o2i (mod_of h0), _, get_r hk, _, o2i (div_of h0 h1), _, set_r hk _, fin _ _ _ _ (b0 _) (b1 _)⟩
  · refine ⟨_, get_n hk, _, rfl, _, set_n hk _, ?_⟩
    refine Ret.mono (P := fun w T => (∃ c : Int, w = .d (.int c)) ∧ T = S.set k (rdO ns (n + 1) r (d + 1))) ?_ ?_
    · simp only [RetS_cons, RetS_nil, RetS_set, RetS_drop, RetS_ret, RetS_if, RetS_asg, RetS_par, RetS_put, RetS_nx, RetS_rt, Ret_dFn, Ret_dCons, Ret_dNil, Ret_dBin, Ret_dUn, Ret_dCall, Ret_dCallN, Ret_dC, Ret_dG, Ret_dVar, Ret_dIf, Ret_dFz, Ret_dNew, Ret_dLst, Ret_dTup, Ret_dB, Ret_dAndT, Ret_dOrT, Ret_dNotT, Ret_dAnd, Ret_dOr, Ret_dNot, Ret_dIsi, Ret_dChain, Ret_dGet, Ret_dD0, Ret_dNoP, Ret_dPt, Ret_dSlA, Ret_dMeth, Ret_dAny, Ret_dLenSet, Ret_dZip, Ret_dZipL, Ret_dKeys, Ret_dRng1, Ret_dRng2, Ret_dLc, RetS_for, Ret_ok, startW, List.map_cons, List.map_nil, List.length_cons, List.length_nil, List.cons_append, List.nil_append, List.replicate, Nat.sub_self, Nat.reduceSub, Nat.reduceAdd, List.getElem?_cons_zero, List.getElem?_cons_succ, List.set_cons_zero, List.set_cons_succ, Option.some.injEq, exists_eq_left', rd_d, on2_d, on1_d, c1_d, bOf_b, exists_eq_left, Option.map_some, Option.bind_some, W.d.injEq, Ret_gcd, List.take_length, dIx, wipeW]
      refine ⟨_, get_c hk, _, rfl, _, o2 (ne_nil_ints ns), _, rfl, ?_⟩
      split
      · rename_i hne
        have hl : 0 < ns.length := by
          cases ns with
          | nil => simp at hne
          | cons _ _ => simp
        have hb := Int.emod_nonneg n (b := (ns.length : Int)) (by omega)
        have hc := Int.emod_lt_of_pos n (b := (ns.length : Int)) (by omega)
        refine ⟨_, get_c hk, _, get_c hk, _, c1o (show lenP (.list (ns.map PyData.int)) = some (.int ns.length) by simp [lenP]), _, o2i (mod_of (by omega)), _, o2 (show atP (.list (ns.map PyData.int)) (.int (n % (ns.length : Int))) = some (.int (ns.getD (n % (ns.length : Int)).toNat 0)) from ?_), ⟨_, rfl⟩, trivial⟩
        refine (at_nat (xs := ns.map PyData.int) hb (by simpa using hc)).trans ?_
        have hlt : (n % (ns.length : Int)).toNat < ns.length := by omega
        simp [hlt]
      · exact ⟨⟨_, rfl⟩, trivial⟩
    · rintro w T ⟨⟨c, rfl⟩, rfl⟩
      have e18 : powI 10 18 = some (.int 1000000000000000000) := by unfold powI; rw [if_pos (by decide)]; rfl
      have m1 : ∀ x : Int, 0 ≤ x % 2147483489 ∧ x % 2147483489 < 2147483489 := fun x => ⟨Int.emod_nonneg _ (by decide), Int.emod_lt_of_pos _ (by decide)⟩
      have m2 : ∀ x : Int, 0 ≤ x % 2147483477 ∧ x % 2147483477 < 2147483477 := fun x => ⟨Int.emod_nonneg _ (by decide), Int.emod_lt_of_pos _ (by decide)⟩
      refine ⟨_, show (i2 powI (.int 10) (.int 18)).map W.d = some (.d (.int 1000000000000000000)) by rw [i2_ii, e18]; rfl, _, rfl, _, rfl, ?_⟩
      split
      · refine ⟨_, get_c hk, _, c1o (show lenP (.list (ns.map PyData.int)) = some (.int ns.length) by simp [lenP]), _, o2 (ltP_of (cmp_int _ _)), _, rfl, ?_⟩
        split
        · exact ⟨_, o2i (div_of h0 h1), _, set_r hk _, _, o2i (mod_of h0), fin _ _ _ _ (b0 _) (b1 _)⟩
        · refine ⟨_, o2i (mod_of (by decide)), _, get_d hk, _, o2i (mul_of (.inl (by decide))), _, rfl, _, rfl, _, o2i (mod_of (by decide)), ?_⟩
          generalize hx : (c % 1000000447 + 140009 * (d + 1) + 71) % 2147483489 = x
          have hx1 := m1 (c % 1000000447 + 140009 * (d + 1) + 71)
          rw [hx] at hx1
          refine ⟨_, o2i (mul_of (by omega)), _, get_d hk, _, o2i (mul_of (.inl (by decide))), _, rfl, _, rfl, _, o2i (mod_of (by decide)), ?_⟩
          generalize hy : (x * x + 4099093 * (d + 1) + 37) % 2147483477 = y
          have hy1 := m2 (x * x + 4099093 * (d + 1) + 37)
          rw [hy] at hy1
          exact ⟨_, o2i (mul_of (by omega)), _, o2i (mul_of (by omega)), _, rfl, _, o2i (mod_of (by decide)), _, o2i (div_of (by decide) (by decide)), _, o2i (mod_of h0), fin _ _ _ _ (b0 _) (b1 _)⟩
      · refine ⟨_, o2i (mod_of (by decide)), _, get_d hk, _, o2i (mul_of (.inl (by decide))), _, rfl, _, rfl, _, o2i (mod_of (by decide)), ?_⟩
        generalize hx : (c % 1000000447 + 140009 * (d + 1) + 71) % 2147483489 = x
        have hx1 := m1 (c % 1000000447 + 140009 * (d + 1) + 71)
        rw [hx] at hx1
        refine ⟨_, o2i (mul_of (by omega)), _, get_d hk, _, o2i (mul_of (.inl (by decide))), _, rfl, _, rfl, _, o2i (mod_of (by decide)), ?_⟩
        generalize hy : (x * x + 4099093 * (d + 1) + 37) % 2147483477 = y
        have hy1 := m2 (x * x + 4099093 * (d + 1) + 37)
        rw [hy] at hy1
        exact ⟨_, o2i (mul_of (by omega)), _, o2i (mul_of (by omega)), _, rfl, _, o2i (mod_of (by decide)), _, o2i (div_of (by decide) (by decide)), _, o2i (mod_of h0), fin _ _ _ _ (b0 _) (b1 _)⟩
end LK01
end

section
/-! part LM01d -/
set_option Elab.async false
set_option linter.all false
set_option maxRecDepth 100000
set_option maxHeartbeats 1000000
/-! LM01d: tables, pairs, subsets that are drawn. -/
open CL
open PySem PySem.Spec PyProof.Rows L2
namespace LK01
section
variable {S T : So} {k : Nat} {ns : List Int} {l : List O} (hk : k < S.length)
include hk
theorem rdr_form (h : Rdr ns k (S ++ l) T) : ∃ n r d, T = S.set k (rdO ns n r d) ++ l := by
  obtain ⟨n, r, d, rfl⟩ := h
  exact ⟨n, r, d, by rw [List.set_append_left _ _ hk]⟩
theorem rdr_at (h : Rdr ns k (S ++ l) T) (i : Nat) : T[S.length + i]? = l[i]? := by
  obtain ⟨n, r, d, rfl⟩ := rdr_form hk h
  rw [List.getElem?_append_right (by rw [List.length_set]; omega), List.length_set, Nat.add_sub_cancel_left]
theorem rdr_set (h : Rdr ns k (S ++ l) T) (i : Nat) (o : O) : Rdr ns k (S ++ l.set i o) (T.set (S.length + i) o) := by
  obtain ⟨n, r, d, rfl⟩ := rdr_form hk h
  refine ⟨n, r, d, ?_⟩
  rw [List.set_append_right _ _ (by rw [List.length_set]; omega), List.length_set, Nat.add_sub_cancel_left, List.set_append_left _ _ hk]
theorem rdr_push (h : Rdr ns k (S ++ l) T) (o : O) : Rdr ns k (S ++ (l ++ [o])) (T ++ [o]) := by
  obtain ⟨n, r, d, rfl⟩ := rdr_form hk h
  refine ⟨n, r, d, ?_⟩
  rw [List.set_append_left _ _ hk, List.append_assoc]
theorem rdr_take (h : Rdr ns k (S ++ l) T) : Rdr ns k S (T.take S.length) := by
  obtain ⟨n, r, d, rfl⟩ := rdr_form hk h
  exact ⟨n, r, d, by rw [List.take_append_of_le_length (by simp)]; exact List.take_of_length_le (by simp)⟩
theorem rdr_len (h : Rdr ns k (S ++ l) T) : T.length = S.length + l.length := by
  obtain ⟨n, r, d, rfl⟩ := h
  simp
theorem rdr_draw (h : Rdr ns k (S ++ l) T) {m : Int} (h0 : 0 < m) (h1 : m < 1073741824) : Ret (f_l_draw [.r k, .d (.int m)] T) fun w T' => (∃ x, w = .d (.int x) ∧ 0 ≤ x ∧ x < m) ∧ Rdr ns k (S ++ l) T' := by
  obtain ⟨n, r, d, rfl⟩ := h
  exact draw_ok (by simp; omega) h0 h1
end
theorem rdr0 {S T : So} {k : Nat} {ns : List Int} (h : Rdr ns k S T) : Rdr ns k (S ++ []) T := by rwa [List.append_nil]
theorem rdr1 {S T : So} {k : Nat} {ns : List Int} (h : Rdr ns k (S ++ []) T) : Rdr ns k S T := by rwa [List.append_nil] at h
theorem draw' {S T : So} {k : Nat} {ns : List Int} (hk : k < S.length) (h : Rdr ns k S T) {m : Int} (h0 : 0 < m) (h1 : m < 1073741824) : Ret (f_l_draw [.r k, .d (.int m)] T) fun w T' => (∃ x, w = .d (.int x) ∧ 0 ≤ x ∧ x < m) ∧ Rdr ns k S T' :=
  (rdr_draw hk (rdr0 h) h0 h1).mono fun w T' ⟨a, b⟩ => ⟨a, rdr1 b⟩
theorem om {o : Option PyData} {c : PyData} (h : o = some c) : o.map W.d = some (.d c) := by rw [h]; rfl
theorem eq_int (a b : Int) : eqP (.int a) (.int b) = some (.bool (decide (a = b))) := by
  simp [eqP, okD, SeqAt.shaped, PyData.canLay0, PyData.depth, PyData.eqv]
  by_cases h : a = b <;> simp [h]
theorem lenT (xs : List PyData) : lenP (.tuple xs) = some (.int xs.length) := rfl
theorem lenL (xs : List PyData) : lenP (.list xs) = some (.int xs.length) := rfl
theorem rdr_lenS {S T : So} {k : Nat} {ns : List Int} (h : Rdr ns k S T) : T.length = S.length := by obtain ⟨n, r, d, rfl⟩ := h; simp
theorem rdr_takeS {S T T0 : So} {k : Nat} {ns : List Int} (h : Rdr ns k S T) (h0 : Rdr ns k S T0) : T.take T0.length = T := List.take_of_length_le (by rw [rdr_lenS h, rdr_lenS h0]; exact Nat.le_refl _)
theorem subset_ok {S T0 : So} {k : Nat} {ns : List Int} (hk : k < S.length) (h : Rdr ns k S T0) (xs : List PyData) : Ret (f_l_subset [.r k, .d (.tuple xs)] T0) fun w T => (∃ ys, w = .d (.tuple ys) ∧ (∀ y ∈ ys, y ∈ xs) ∧ ys.length ≤ xs.length) ∧ Rdr ns k S T := by
  refine Ret_fnB rfl ?_
  unfold b_l_subset
  simp only [RetS_cons, RetS_nil, RetS_set, RetS_drop, RetS_ret, RetS_if, RetS_asg, RetS_par, RetS_put, RetS_nx, RetS_rt, Ret_dFn, Ret_dCons, Ret_dNil, Ret_dBin, Ret_dUn, Ret_dCall, Ret_dCallN, Ret_dC, Ret_dG, Ret_dVar, Ret_dIf, Ret_dFz, Ret_dNew, Ret_dLst, Ret_dTup, Ret_dB, Ret_dAndT, Ret_dOrT, Ret_dNotT, Ret_dAnd, Ret_dOr, Ret_dNot, Ret_dIsi, Ret_dChain, Ret_dGet, Ret_dD0, Ret_dNoP, Ret_dPt, Ret_dSlA, Ret_dMeth, Ret_dAny, Ret_dLenSet, Ret_dZip, Ret_dZipL, Ret_dKeys, Ret_dRng1, Ret_dRng2, Ret_dLc, RetS_for, Ret_ok, startW, List.map_cons, List.map_nil, List.length_cons, List.length_nil, List.cons_append, List.nil_append, List.replicate, Nat.sub_self, Nat.reduceSub, Nat.reduceAdd, List.getElem?_cons_zero, List.getElem?_cons_succ, List.set_cons_zero, List.set_cons_succ, Option.some.injEq, exists_eq_left', rd_d, on2_d, on1_d, c1_d, bOf_b, exists_eq_left, Option.map_some, Option.bind_some, W.d.injEq, Ret_gcd, List.take_length, dIx, wipeW]
  refine (draw' hk h (by decide) (by decide)).mono ?_
  rintro _ T1 ⟨⟨x, rfl, x0, x1⟩, h1⟩
  refine ⟨_, rfl, ?_⟩
  refine (lc_inv (fun j acc T => Rdr ns k S T ∧ (∀ y ∈ acc, y ∈ xs) ∧ acc.length ≤ j) xs 0 [] T1 ⟨h1, by simp, by simp⟩ ?_).mono ?_
  · rintro j y acc T hy ⟨i1, i2, i3⟩
    have hm : y ∈ xs := List.mem_of_getElem? hy
    refine ⟨_, rfl, ?_⟩
    simp only [RetS_cons, RetS_nil, RetS_set, RetS_drop, RetS_ret, RetS_if, RetS_asg, RetS_par, RetS_put, RetS_nx, RetS_rt, Ret_dFn, Ret_dCons, Ret_dNil, Ret_dBin, Ret_dUn, Ret_dCall, Ret_dCallN, Ret_dC, Ret_dG, Ret_dVar, Ret_dIf, Ret_dFz, Ret_dNew, Ret_dLst, Ret_dTup, Ret_dB, Ret_dAndT, Ret_dOrT, Ret_dNotT, Ret_dAnd, Ret_dOr, Ret_dNot, Ret_dIsi, Ret_dChain, Ret_dGet, Ret_dD0, Ret_dNoP, Ret_dPt, Ret_dSlA, Ret_dMeth, Ret_dAny, Ret_dLenSet, Ret_dZip, Ret_dZipL, Ret_dKeys, Ret_dRng1, Ret_dRng2, Ret_dLc, RetS_for, Ret_ok, startW, List.map_cons, List.map_nil, List.length_cons, List.length_nil, List.cons_append, List.nil_append, List.replicate, Nat.sub_self, Nat.reduceSub, Nat.reduceAdd, List.getElem?_cons_zero, List.getElem?_cons_succ, List.set_cons_zero, List.set_cons_succ, Option.some.injEq, exists_eq_left', rd_d, on2_d, on1_d, c1_d, bOf_b, exists_eq_left, Option.map_some, Option.bind_some, W.d.injEq, Ret_gcd, List.take_length, dIx, wipeW]
    refine ⟨_, rfl, _, rfl, ?_⟩
    split
    · refine ⟨_, om (mul_of (a := 2) (.inl (by decide))), _, rfl, ?_⟩
      refine (draw' hk i1 (by omega) (by omega)).mono ?_
      rintro _ T2 ⟨⟨z, rfl, z0, z1⟩, h2⟩
      refine ⟨_, o2 (eq_int _ _), _, rfl, ?_⟩
      split
      · refine ⟨h2, ?_, ?_⟩
        · intro q hq
          rcases List.mem_append.mp hq with hq | hq
          · exact i2 q hq
          · rw [List.mem_singleton] at hq; subst hq; exact hm
        · simp; omega
      · exact ⟨h2, i2, by omega⟩
    · exact ⟨i1, i2, by omega⟩
  · rintro ys T ⟨i1, i2, i3⟩
    refine ⟨_, rfl, ?_⟩
    rw [Ret_gcd, rdr_takeS i1 h]
    exact ⟨⟨ys, rfl, i2, by omega⟩, i1⟩
/-- short plain texts; rows of such -/
def Sh (y : PyData) : Prop := ∃ z, y = .str z ∧ z.length ≤ 8 ∧ signOk z = true
def Row (n : Nat) (r : PyData) : Prop := ∃ ws, r = .tuple ws ∧ ws.length = n ∧ ∀ y ∈ ws, Sh y
def KSh (q : Key) : Prop := ∃ z, q = .inr z ∧ z.length ≤ 8 ∧ signOk z = true
def KRow (n : Nat) (q : List Key) : Prop := q.length = n ∧ ∀ x ∈ q, KSh x
theorem ksh_d {q : Key} (h : KSh q) : Sh (keyD q) := by obtain ⟨z, rfl, h1, h2⟩ := h; exact ⟨z, rfl, h1, h2⟩
theorem krow_d {n : Nat} {q : List Key} (h : KRow n q) : Row n (tupOf q) := ⟨q.map keyD, rfl, by simp [h.1], fun y hy => by
  obtain ⟨x, hx, rfl⟩ := List.mem_map.mp hy
  exact ksh_d (h.2 x hx)⟩
theorem sh_keys : ∀ {ws : List PyData}, (∀ y ∈ ws, Sh y) → ∃ q, keysP ws = some q ∧ KRow ws.length q
  | [], _ => ⟨[], rfl, rfl, by simp⟩
  | y :: ws, h => by
    obtain ⟨z, rfl, h1, h2⟩ := h y List.mem_cons_self
    obtain ⟨q, g1, g2, g3⟩ := sh_keys fun x hx => h x (List.mem_cons_of_mem _ hx)
    refine ⟨.inr z :: q, by simp [keysP, keyP, g1], by simp [g2], fun x hx => ?_⟩
    rcases List.mem_cons.mp hx with e | hx
    · subst e; exact ⟨z, rfl, h1, h2⟩
    · exact g3 x hx
theorem row_like {n m : Nat} {x y : PyData} (hx : Row n x) (hy : Row m y) : PySem.W.alike x y = true := by
  obtain ⟨xs, rfl, _, h1⟩ := hx
  obtain ⟨ys, rfl, _, h2⟩ := hy
  have : ∀ (xs ys : List PyData), (∀ y ∈ xs, Sh y) → (∀ y ∈ ys, Sh y) → PySem.W.alikeAll xs ys = true := by
    intro xs
    induction xs with
    | nil => intro ys _ _; cases ys <;> simp [PySem.W.alikeAll]
    | cons x xs ih =>
      intro ys h1 h2
      cases ys with
      | nil => simp [PySem.W.alikeAll]
      | cons y ys =>
        obtain ⟨z, rfl, _⟩ := h1 x List.mem_cons_self
        obtain ⟨z', rfl, _⟩ := h2 y List.mem_cons_self
        simp [PySem.W.alikeAll, PySem.W.alike, ih ys (fun q hq => h1 q (List.mem_cons_of_mem _ hq)) fun q hq => h2 q (List.mem_cons_of_mem _ hq)]
  simpa [PySem.W.alike] using this xs ys h1 h2
theorem sh_gd {y : PyData} (h : Sh y) : Gd 8 0 y := by
  obtain ⟨z, rfl, h1, h2⟩ := h
  exact ⟨by simpa [okd] using h2, by simpa [PyData.bulk, Str.length] using h1, by simp [PyData.depth]⟩
theorem row_gd {n : Nat} {y : PyData} (h : Row n y) : Gd (n * 9) 1 y := by
  obtain ⟨ws, rfl, h1, h2⟩ := h
  have := Gds.of_mem fun x hx => sh_gd (h2 x hx)
  rw [h1] at this
  exact Gd.tuple this
theorem depthAll_le {d : Nat} : ∀ {xs : List PyData}, (∀ x ∈ xs, x.depth ≤ d) → PyData.depthAll xs ≤ d
  | [], _ => Nat.zero_le _
  | x :: xs, h => by simp only [PyData.depthAll]; exact Nat.max_le.mpr ⟨h x List.mem_cons_self, depthAll_le fun y hy => h y (List.mem_cons_of_mem _ hy)⟩
def KOk (n : Nat) (kvs : List (List Key × PyData)) : Prop := ∀ q ∈ kvs, KRow n q.1
theorem keysOf_row {n : Nat} {kvs : List (List Key × PyData)} (h : KOk n kvs) : ∀ x ∈ keysOf kvs, Row n x := fun x hx => by
  obtain ⟨q, hq, rfl⟩ := List.mem_map.mp hx
  exact krow_d (h q hq)
theorem rows_sort {n : Nat} (hn : 0 < n) {xs : List PyData} (h : ∀ x ∈ xs, Row n x) (hl : xs.length ≤ 1000) : sortOk xs = true := by
  have h1 : likeAll xs = true := List.all_eq_true.mpr fun x hx => List.all_eq_true.mpr fun y hy => row_like (h x hx) (h y hy)
  have h2 : xs.all fullTup = true := List.all_eq_true.mpr fun x hx => by
    obtain ⟨ws, rfl, e, _⟩ := h x hx
    cases ws with
    | nil => simp at e; omega
    | cons _ _ => rfl
  have h3 : (xs.all fun x => decide (x.depth ≤ 60)) = true := List.all_eq_true.mpr fun x hx => decide_eq_true (Nat.le_trans (row_gd (h x hx)).depth (by decide))
  unfold sortOk
  rw [h1, h2, h3, small_of hl]
  rfl
theorem srt_mem {xs : List PyData} {x : PyData} (h : x ∈ srtD xs) : x ∈ xs := List.mem_mergeSort.mp h
theorem srt_len (xs : List PyData) : (srtD xs).length = xs.length := by unfold srtD; exact List.length_mergeSort _
theorem putD_ok {n : Nat} {kvs : List (List Key × PyData)} {q : List Key} {v : PyData} (h : KOk n kvs) (hq : KRow n q) : KOk n (putD kvs q v) := by
  unfold putD
  split
  · intro p hp
    obtain ⟨r, hr, rfl⟩ := List.mem_map.mp hp
    split
    · exact h r hr
    · exact h r hr
  · intro p hp
    rcases List.mem_append.mp hp with hp | hp
    · exact h p hp
    · rw [List.mem_singleton] at hp; subst hp; exact hq
theorem putD_len {κ : Type} [DecidableEq κ] (kvs : List (κ × PyData)) (q : κ) (v : PyData) : (putD kvs q v).length ≤ kvs.length + 1 ∧ 0 < (putD kvs q v).length := by
  unfold putD
  split
  · rename_i h
    rw [List.length_map]
    refine ⟨by omega, ?_⟩
    cases kvs with
    | nil => simp at h
    | cons _ _ => simp
  · simp
theorem mergeTD_ok {n : Nat} : ∀ {ps : List (List Key × PyData)} {kvs : List (List Key × PyData)}, KOk n kvs → KOk n ps → KOk n (mergeTD kvs ps) ∧ (mergeTD kvs ps).length ≤ kvs.length + ps.length
  | [], kvs, h, _ => ⟨h, Nat.le_refl _⟩
  | q :: ps, kvs, h, hp => by
    obtain ⟨h1, h2⟩ := mergeTD_ok (ps := ps) (kvs := putD kvs q.1 q.2) (putD_ok h (hp q List.mem_cons_self)) fun x hx => hp x (List.mem_cons_of_mem _ hx)
    have := (putD_len kvs q.1 q.2).1
    exact ⟨h1, by show (mergeTD (putD kvs q.1 q.2) ps).length ≤ _; rw [List.length_cons]; omega⟩
theorem prs_pairs : ∀ {zs : List PyData}, (∀ z ∈ zs, Row 2 z) → ∃ ps, prsP (zs.map fun z => .tuple [z, .bool true]) = some ps ∧ KOk 2 ps ∧ ps.length = zs.length
  | [], _ => ⟨[], rfl, (fun q hq => nomatch hq), rfl⟩
  | z :: zs, h => by
    obtain ⟨ws, rfl, e, hw⟩ := h z List.mem_cons_self
    obtain ⟨q, g1, g2⟩ := sh_keys hw
    obtain ⟨ps, g3, g4, g5⟩ := prs_pairs fun x hx => h x (List.mem_cons_of_mem _ hx)
    refine ⟨(q, .bool true) :: ps, by simp [prsP, prP, g1, g3], fun x hx => ?_, by simp [g5]⟩
    rcases List.mem_cons.mp hx with e2 | hx
    · subst e2; rw [e] at g2; exact g2
    · exact g4 x hx
theorem last_at {T0 : So} {o : O} : (T0 ++ [o])[T0.length]? = some o := by simp
theorem last_set {T0 : So} {o o' : O} : (T0 ++ [o]).set T0.length o' = T0 ++ [o'] := by simp
theorem at0 {a b : PyData} : atP (.tuple [a, b]) (.int 0) = some a := by simp [atP, L2.atI, L2.ixN]
theorem at1 {a b : PyData} : atP (.tuple [a, b]) (.int 1) = some b := by simp [atP, L2.atI, L2.ixN]
/-- a table: heads and rows -/
def Tab (n : Nat) (g : PyData) : Prop := ∃ hs rs, g = .tuple [.tuple hs, .tuple rs] ∧ hs.length = n ∧ (∀ x ∈ hs, Sh x) ∧ rs ≠ [] ∧ rs.length ≤ 20 ∧ ∀ r ∈ rs, Row n r
theorem zip_rows {hs ws : List PyData} (h : ∀ x ∈ hs, Sh x) (hw : ∀ x ∈ ws, Sh x) : ∀ z ∈ zipD hs ws, Row 2 z := fun z hz => by
  unfold zipD at hz
  obtain ⟨⟨a, b⟩, hp, rfl⟩ := List.mem_map.mp hz
  obtain ⟨h1, h2⟩ := List.of_mem_zip hp
  refine ⟨[a, b], rfl, rfl, fun y hy => ?_⟩
  rcases List.mem_cons.mp hy with e | hy
  · subst e; exact h _ h1
  · rw [List.mem_singleton] at hy; subst hy; exact hw _ h2
theorem pairs_ok {n : Nat} {g : PyData} (hg : Tab n g) (hn : n ≤ 4) (T0 : So) : Ret (f_l_pairs [.d g] T0) fun w T => (∃ ps, w = .d (.tuple ps) ∧ (∀ p ∈ ps, Row 2 p) ∧ ps.length ≤ 80) ∧ T = T0 := by
  obtain ⟨hs, rs, rfl, l1, h1, _, l2, h2⟩ := hg
  refine Ret_fnB rfl ?_
  unfold b_l_pairs
  simp only [RetS_cons, RetS_nil, RetS_set, RetS_drop, RetS_ret, RetS_if, RetS_asg, RetS_par, RetS_put, RetS_nx, RetS_rt, Ret_dFn, Ret_dCons, Ret_dNil, Ret_dBin, Ret_dUn, Ret_dCall, Ret_dCallN, Ret_dC, Ret_dG, Ret_dVar, Ret_dIf, Ret_dFz, Ret_dNew, Ret_dLst, Ret_dTup, Ret_dB, Ret_dAndT, Ret_dOrT, Ret_dNotT, Ret_dAnd, Ret_dOr, Ret_dNot, Ret_dIsi, Ret_dChain, Ret_dGet, Ret_dD0, Ret_dNoP, Ret_dPt, Ret_dSlA, Ret_dMeth, Ret_dAny, Ret_dLenSet, Ret_dZip, Ret_dZipL, Ret_dKeys, Ret_dRng1, Ret_dRng2, Ret_dLc, RetS_for, Ret_ok, startW, List.map_cons, List.map_nil, List.length_cons, List.length_nil, List.cons_append, List.nil_append, List.replicate, Nat.sub_self, Nat.reduceSub, Nat.reduceAdd, List.getElem?_cons_zero, List.getElem?_cons_succ, List.set_cons_zero, List.set_cons_succ, Option.some.injEq, exists_eq_left', rd_d, on2_d, on1_d, c1_d, bOf_b, exists_eq_left, Option.map_some, Option.bind_some, W.d.injEq, Ret_gcd, List.take_length, dIx, wipeW]
  refine ⟨_, om at1, _, rfl, ?_⟩
  refine for_inv (fun j σ T => (∃ o, σ = [some (.d (.tuple [.tuple hs, .tuple rs])), some (.r T0.length), o, none]) ∧ ∃ kvs, T = T0 ++ [.dt kvs] ∧ KOk 2 kvs ∧ kvs.length ≤ 4 * j) rs 0 _ _ ⟨⟨_, rfl⟩, [], rfl, (fun q hq => nomatch hq), Nat.le_refl _⟩ ?_ ?_
  · rintro σ T ⟨⟨o, rfl⟩, kvs, rfl, k1, k2⟩
    simp only [RetS_cons, RetS_nil, RetS_set, RetS_drop, RetS_ret, RetS_if, RetS_asg, RetS_par, RetS_put, RetS_nx, RetS_rt, Ret_dFn, Ret_dCons, Ret_dNil, Ret_dBin, Ret_dUn, Ret_dCall, Ret_dCallN, Ret_dC, Ret_dG, Ret_dVar, Ret_dIf, Ret_dFz, Ret_dNew, Ret_dLst, Ret_dTup, Ret_dB, Ret_dAndT, Ret_dOrT, Ret_dNotT, Ret_dAnd, Ret_dOr, Ret_dNot, Ret_dIsi, Ret_dChain, Ret_dGet, Ret_dD0, Ret_dNoP, Ret_dPt, Ret_dSlA, Ret_dMeth, Ret_dAny, Ret_dLenSet, Ret_dZip, Ret_dZipL, Ret_dKeys, Ret_dRng1, Ret_dRng2, Ret_dLc, RetS_for, Ret_ok, startW, List.map_cons, List.map_nil, List.length_cons, List.length_nil, List.cons_append, List.nil_append, List.replicate, Nat.sub_self, Nat.reduceSub, Nat.reduceAdd, List.getElem?_cons_zero, List.getElem?_cons_succ, List.set_cons_zero, List.set_cons_succ, Option.some.injEq, exists_eq_left', rd_d, on2_d, on1_d, c1_d, bOf_b, exists_eq_left, Option.map_some, Option.bind_some, W.d.injEq, Ret_gcd, List.take_length, dIx, wipeW]
    have e1 : dtW (T0 ++ [.dt kvs]) (.r T0.length) = some kvs := by unfold dtW; simp only [last_at]
    have lk : (keysOf kvs).length ≤ 80 := by unfold keysOf; rw [List.length_map]; omega
    have e2 : sortDG (T0 ++ [.dt kvs]) [.r T0.length] = some (srtD (keysOf kvs)) := by
      show (dtW (T0 ++ [.dt kvs]) (.r T0.length)).bind _ = _
      rw [e1, Option.bind_some, if_pos (rows_sort (by decide) (keysOf_row k1) (by omega))]
    refine ⟨_, e2, _, rfl, ?_⟩
    rw [Ret_gcd]
    refine ⟨⟨_, rfl, fun p hp => keysOf_row k1 p (srt_mem hp), by rw [srt_len]; exact lk⟩, ?_⟩
    rw [List.take_append_of_le_length (Nat.le_refl _), List.take_length]
  · rintro j r σ T hr ⟨⟨o, rfl⟩, kvs, rfl, k1, k2⟩
    have hrm := h2 r (List.mem_of_getElem? hr)
    obtain ⟨ws, rfl, e, hw⟩ := hrm
    refine ⟨_, rfl, ?_⟩
    simp only [RetS_cons, RetS_nil, RetS_set, RetS_drop, RetS_ret, RetS_if, RetS_asg, RetS_par, RetS_put, RetS_nx, RetS_rt, Ret_dFn, Ret_dCons, Ret_dNil, Ret_dBin, Ret_dUn, Ret_dCall, Ret_dCallN, Ret_dC, Ret_dG, Ret_dVar, Ret_dIf, Ret_dFz, Ret_dNew, Ret_dLst, Ret_dTup, Ret_dB, Ret_dAndT, Ret_dOrT, Ret_dNotT, Ret_dAnd, Ret_dOr, Ret_dNot, Ret_dIsi, Ret_dChain, Ret_dGet, Ret_dD0, Ret_dNoP, Ret_dPt, Ret_dSlA, Ret_dMeth, Ret_dAny, Ret_dLenSet, Ret_dZip, Ret_dZipL, Ret_dKeys, Ret_dRng1, Ret_dRng2, Ret_dLc, RetS_for, Ret_ok, startW, List.map_cons, List.map_nil, List.length_cons, List.length_nil, List.cons_append, List.nil_append, List.replicate, Nat.sub_self, Nat.reduceSub, Nat.reduceAdd, List.getElem?_cons_zero, List.getElem?_cons_succ, List.set_cons_zero, List.set_cons_succ, Option.some.injEq, exists_eq_left', rd_d, on2_d, on1_d, c1_d, bOf_b, exists_eq_left, Option.map_some, Option.bind_some, W.d.injEq, Ret_gcd, List.take_length, dIx, wipeW]
    refine ⟨by unfold tyM; simp only [last_at]; rfl, _, om at0, _, rfl, ?_⟩
    have hz := zip_rows h1 hw
    obtain ⟨ps, p1, p2, p3⟩ := prs_pairs hz
    refine Ret.of (lc_pure (fun _ => true) (fun z => .tuple [z, .bool true]) _ _ fun x hx => ⟨_, rfl, ⟨rfl, rfl⟩, fun _ => ?_⟩) ?_
    · simp only [RetS_cons, RetS_nil, RetS_set, RetS_drop, RetS_ret, RetS_if, RetS_asg, RetS_par, RetS_put, RetS_nx, RetS_rt, Ret_dFn, Ret_dCons, Ret_dNil, Ret_dBin, Ret_dUn, Ret_dCall, Ret_dCallN, Ret_dC, Ret_dG, Ret_dVar, Ret_dIf, Ret_dFz, Ret_dNew, Ret_dLst, Ret_dTup, Ret_dB, Ret_dAndT, Ret_dOrT, Ret_dNotT, Ret_dAnd, Ret_dOr, Ret_dNot, Ret_dIsi, Ret_dChain, Ret_dGet, Ret_dD0, Ret_dNoP, Ret_dPt, Ret_dSlA, Ret_dMeth, Ret_dAny, Ret_dLenSet, Ret_dZip, Ret_dZipL, Ret_dKeys, Ret_dRng1, Ret_dRng2, Ret_dLc, RetS_for, Ret_ok, startW, List.map_cons, List.map_nil, List.length_cons, List.length_nil, List.cons_append, List.nil_append, List.replicate, Nat.sub_self, Nat.reduceSub, Nat.reduceAdd, List.getElem?_cons_zero, List.getElem?_cons_succ, List.set_cons_zero, List.set_cons_succ, Option.some.injEq, exists_eq_left', rd_d, on2_d, on1_d, c1_d, bOf_b, exists_eq_left, Option.map_some, Option.bind_some, W.d.injEq, Ret_gcd, List.take_length, dIx, wipeW]
      exact ⟨_, rfl, rfl, trivial⟩
    · rw [List.filter_eq_self.mpr fun _ _ => rfl]
      have zl : (zipD hs ws).length ≤ 4 := by rw [zipD_len]; omega
      obtain ⟨m1, m2⟩ := mergeTD_ok k1 p2
      refine ⟨.d .none, T0 ++ [.dt (mergeTD kvs ps)], ?_, ⟨_, rfl⟩, _, rfl, m1, by omega⟩
      unfold gUpd
      simp only [last_at, p1, List.nil_append]
      rw [if_pos (small_of (m := 1000) (by have := (List.getElem?_eq_some_iff.mp hr).1; rw [List.length_map]; omega)), last_set]
def oddL : List PyData := [.none, .bool true, .bool false, .int 0, .int (-1), .int 1, .str "", .str "a", .str "A", .str "abcdefghi", .tuple [], .list [], .tuple [.tuple []], .tuple [.str "a", .str "b"], .tuple [.tuple [.str "a", .str "x"]], .int (10 ^ 50)]
def gdB (b d : Nat) (x : PyData) : Bool := okd x && decide (x.bulk ≤ b) && decide (x.depth ≤ d)
theorem gdB_of {b d : Nat} {x : PyData} (h : gdB b d x = true) : Gd b d x := by
  unfold gdB at h
  simp only [Bool.and_eq_true, decide_eq_true_eq] at h
  exact ⟨h.1.1, h.1.2, h.2⟩
theorem odd_gd : ∀ x ∈ oddL, Gd 20 3 x := by
  have : oddL.all (gdB 20 3) = true := by decide +kernel
  exact fun x hx => gdB_of (List.all_eq_true.mp this x hx)
theorem odd_ok {S T0 : So} {k : Nat} {ns : List Int} (hk : k < S.length) (h : Rdr ns k S T0) : Ret (f_l_odd [.r k] T0) fun w T => (∃ y, w = .d y ∧ Gd 20 3 y) ∧ Rdr ns k S T := by
  refine Ret_fnB rfl ?_
  unfold b_l_odd
  rw [RetS_cons, RetS_set]
  refine Ret.of (a := .d (.list (oddL.take 14))) (S := T0) rfl ?_
  rw [RetS_cons, RetS_set]
  refine Ret.of (a := .d (.list oddL)) (S := T0) rfl ?_
  simp only [RetS_cons, RetS_nil, RetS_set, RetS_drop, RetS_ret, RetS_if, RetS_asg, RetS_par, RetS_put, RetS_nx, RetS_rt, Ret_dFn, Ret_dCons, Ret_dNil, Ret_dBin, Ret_dUn, Ret_dCall, Ret_dCallN, Ret_dC, Ret_dG, Ret_dVar, Ret_dIf, Ret_dFz, Ret_dNew, Ret_dLst, Ret_dTup, Ret_dB, Ret_dAndT, Ret_dOrT, Ret_dNotT, Ret_dAnd, Ret_dOr, Ret_dNot, Ret_dIsi, Ret_dChain, Ret_dGet, Ret_dD0, Ret_dNoP, Ret_dPt, Ret_dSlA, Ret_dMeth, Ret_dAny, Ret_dLenSet, Ret_dZip, Ret_dZipL, Ret_dKeys, Ret_dRng1, Ret_dRng2, Ret_dLc, RetS_for, Ret_ok, startW, List.map_cons, List.map_nil, List.length_cons, List.length_nil, List.cons_append, List.nil_append, List.replicate, Nat.sub_self, Nat.reduceSub, Nat.reduceAdd, List.getElem?_cons_zero, List.getElem?_cons_succ, List.set_cons_zero, List.set_cons_succ, Option.some.injEq, exists_eq_left', rd_d, on2_d, on1_d, c1_d, bOf_b, exists_eq_left, Option.map_some, Option.bind_some, W.d.injEq, Ret_gcd, List.take_length, dIx, wipeW]
  refine (draw' hk h (by decide) (by decide)).mono ?_
  rintro _ T1 ⟨⟨x, rfl, x0, x1⟩, h1⟩
  have hx : x.toNat < oddL.length := by show x.toNat < 16; omega
  refine ⟨_, om (at_nat x0 (show x < (oddL.length : Int) by omega)), ?_⟩
  rw [Ret_gcd, rdr_takeS h1 h]
  have e : oddL.getD x.toNat .none = oddL[x.toNat] := by simp [hx]
  rw [e]
  exact ⟨⟨_, rfl, odd_gd _ (List.getElem_mem hx)⟩, h1⟩
end LK01
end

section
/-! part LM01e -/
set_option Elab.async false
set_option linter.all false
set_option maxRecDepth 100000
set_option maxHeartbeats 1000000
/-! LM01e: a table that is drawn. -/
open CL
open PySem PySem.Spec PyProof.Rows L2
namespace LK01
def poolL : List PyData := [.str "a", .str "door", .str "room", .str "time", .str "zzzzzzzz"]
def wordL : List PyData := [.str "x", .str "y", .str "z", .str "big", .str "abcdefgh"]
def shB : PyData → Bool
  | .str z => decide (z.length ≤ 8) && signOk z
  | _ => false
theorem sh_of {y : PyData} (h : shB y = true) : Sh y := by
  unfold shB at h
  split at h
  · simp only [Bool.and_eq_true, decide_eq_true_eq] at h
    exact ⟨_, rfl, h.1, h.2⟩
  · cases h
theorem pool_sh : ∀ y ∈ poolL, Sh y := fun y hy => sh_of (List.all_eq_true.mp (show poolL.all shB = true by decide +kernel) y hy)
theorem word_sh : ∀ y ∈ wordL, Sh y := fun y hy => sh_of (List.all_eq_true.mp (show wordL.all shB = true by decide +kernel) y hy)
theorem sh_like {x y : PyData} (hx : Sh x) (hy : Sh y) : PySem.W.alike x y = true := by
  obtain ⟨z, rfl, _⟩ := hx
  obtain ⟨z', rfl, _⟩ := hy
  simp [PySem.W.alike]
theorem shs_sort {xs : List PyData} (h : ∀ x ∈ xs, Sh x) (hl : xs.length ≤ 1000) : sortOk xs = true := by
  have h1 : likeAll xs = true := List.all_eq_true.mpr fun x hx => List.all_eq_true.mpr fun y hy => sh_like (h x hx) (h y hy)
  have h2 : xs.all flatD = true := List.all_eq_true.mpr fun x hx => by
    obtain ⟨ws, rfl, e, _⟩ := h x hx
    rfl
  have h3 : (xs.all fun x => decide (x.depth ≤ 60)) = true := List.all_eq_true.mpr fun x hx => decide_eq_true (Nat.le_trans (sh_gd (h x hx)).depth (by decide))
  unfold sortOk
  rw [h1, h2, h3, small_of hl]
  simp
theorem rng_len (n : Int) : (rng 0 n).length = n.toNat := by simp [rng]
theorem rng_at {n : Int} {j : Nat} {x : PyData} (h : (rng 0 n)[j]? = some x) : x = .int j ∧ (j : Int) < n := by
  have h1 := (List.getElem?_eq_some_iff.mp h)
  obtain ⟨h2, h3⟩ := h1
  rw [rng_len] at h2
  refine ⟨?_, by omega⟩
  subst h3
  simp [rng]
theorem minD_mem (x : PyData) (xs : List PyData) : PySem.W.minD x xs ∈ x :: xs := by
  unfold PySem.W.minD
  induction xs generalizing x with
  | nil => simp
  | cons y ys ih =>
    rw [List.foldl_cons]
    have := ih (if PySem.W.dataLt y x then y else x)
    rcases List.mem_cons.mp this with e | h
    · rw [e]
      split
      · exact List.mem_cons_of_mem _ List.mem_cons_self
      · exact List.mem_cons_self
    · exact List.mem_cons_of_mem _ (List.mem_cons_of_mem _ h)
theorem Ret_dLockN (i : Nat) (d : DN) {σ : En} {S : So} (P : List PyData → So → Prop) : Ret (dLockN i d σ S) P ↔ ∃ n ob S1, lockS σ i S = some (n, ob, S1) ∧ Ret (d σ S1) fun xs S2 => P xs (S2.set n ob) := by
  unfold dLockN
  constructor
  · intro h
    split at h
    · rename_i n ob S1 e
      refine ⟨n, ob, S1, e, ?_⟩
      split at h
      · rename_i e2; rw [e2]; exact h
      · exact h.elim
    · exact h.elim
  · rintro ⟨n, ob, S1, e, h⟩
    rw [e]
    unfold Ret at h
    split at h
    · rename_i e2; simp only [e2]; exact h
    · exact h.elim
def tupL : PyData → List PyData
  | .tuple xs => xs
  | _ => []
theorem set_same {α : Type} {l : List α} {n : Nat} {a : α} (h : l[n]? = some a) : l.set n a = l := by
  obtain ⟨h1, rfl⟩ := List.getElem?_eq_some_iff.mp h
  exact List.set_getElem_self h1
theorem txts_sh : ∀ {ds : List PyData}, (∀ y ∈ ds, Sh y) → ∃ xs, txts ds = some xs ∧ xs.length = ds.length
  | [], _ => ⟨[], rfl, rfl⟩
  | y :: ds, h => by
    obtain ⟨z, rfl, _⟩ := h y List.mem_cons_self
    obtain ⟨xs, h1, h2⟩ := txts_sh fun x hx => h x (List.mem_cons_of_mem _ hx)
    exact ⟨z :: xs, by simp [txts, h1], by simp [h2]⟩
theorem addT {S : So} {a b : List PyData} (h : a.length + b.length ≤ 1000) : addW S (.d (.tuple a)) (.d (.tuple b)) = some (.d (.tuple (a ++ b))) := by
  show (if small (a.length + b.length) = true then some (PyData.tuple (a ++ b)) else none).map W.d = _
  rw [if_pos (small_of h)]; rfl
theorem table_ok {S T0 : So} {k : Nat} {ns : List Int} (hk : k < S.length) (h : Rdr ns k S T0) : Ret (f_l_table [.r k, .d (.int 4), .d (.int 12)] T0) fun w T => (∃ n g, w = .d g ∧ 1 ≤ n ∧ n ≤ 4 ∧ Tab n g) ∧ Rdr ns k S T := by
  have eL := rdr_lenS h
  refine Ret_fnB rfl ?_
  unfold b_l_table
  rw [RetS_cons, RetS_par]
  refine Ret.of (a := [.r T0.length, .d (.list wordL)]) (S := T0 ++ [.lst poolL]) rfl ?_
  refine ⟨_, rfl, ?_⟩
  rw [eL]
  simp only [RetS_cons, RetS_nil, RetS_set, RetS_drop, RetS_ret, RetS_if, RetS_asg, RetS_par, RetS_put, RetS_nx, RetS_rt, Ret_dFn, Ret_dCons, Ret_dNil, Ret_dBin, Ret_dUn, Ret_dCall, Ret_dCallN, Ret_dC, Ret_dG, Ret_dVar, Ret_dIf, Ret_dFz, Ret_dNew, Ret_dLst, Ret_dTup, Ret_dB, Ret_dAndT, Ret_dOrT, Ret_dNotT, Ret_dAnd, Ret_dOr, Ret_dNot, Ret_dIsi, Ret_dChain, Ret_dGet, Ret_dD0, Ret_dNoP, Ret_dPt, Ret_dSlA, Ret_dMeth, Ret_dAny, Ret_dLenSet, Ret_dZip, Ret_dZipL, Ret_dKeys, Ret_dRng1, Ret_dRng2, Ret_dLc, RetS_for, Ret_ok, startW, List.map_cons, List.map_nil, List.length_cons, List.length_nil, List.cons_append, List.nil_append, List.replicate, Nat.sub_self, Nat.reduceSub, Nat.reduceAdd, List.getElem?_cons_zero, List.getElem?_cons_succ, List.set_cons_zero, List.set_cons_succ, Option.some.injEq, exists_eq_left', rd_d, on2_d, on1_d, c1_d, bOf_b, exists_eq_left, Option.map_some, Option.bind_some, W.d.injEq, Ret_gcd, List.take_length, dIx, wipeW]
  have h0 : Rdr ns k (S ++ [.lst poolL]) (T0 ++ [.lst poolL]) := rdr_push hk (rdr0 h) _
  refine (rdr_draw hk h0 (by decide) (by decide)).mono ?_
  rintro _ T1 ⟨⟨x, rfl, x0, x1⟩, h1⟩
  refine ⟨_, rfl, _, rfl, by omega, ?_⟩
  have lr := rng_len (1 + x)
  refine (lc_inv (fun j acc T => ∃ pool, Rdr ns k (S ++ [.lst pool]) T ∧ pool.length + j = 5 ∧ (∀ y ∈ pool, Sh y) ∧ acc.length = j ∧ ∀ y ∈ acc, Sh y) _ 0 [] T1 ⟨poolL, h1, rfl, pool_sh, rfl, by simp⟩ ?_).mono ?_
  · rintro j y acc T hy ⟨pool, i1, i2, i3, i4, i5⟩
    obtain ⟨rfl, hj⟩ := rng_at hy
    refine ⟨_, rfl, ?_⟩
    simp only [RetS_cons, RetS_nil, RetS_set, RetS_drop, RetS_ret, RetS_if, RetS_asg, RetS_par, RetS_put, RetS_nx, RetS_rt, Ret_dFn, Ret_dCons, Ret_dNil, Ret_dBin, Ret_dUn, Ret_dCall, Ret_dCallN, Ret_dC, Ret_dG, Ret_dVar, Ret_dIf, Ret_dFz, Ret_dNew, Ret_dLst, Ret_dTup, Ret_dB, Ret_dAndT, Ret_dOrT, Ret_dNotT, Ret_dAnd, Ret_dOr, Ret_dNot, Ret_dIsi, Ret_dChain, Ret_dGet, Ret_dD0, Ret_dNoP, Ret_dPt, Ret_dSlA, Ret_dMeth, Ret_dAny, Ret_dLenSet, Ret_dZip, Ret_dZipL, Ret_dKeys, Ret_dRng1, Ret_dRng2, Ret_dLc, RetS_for, Ret_ok, startW, List.map_cons, List.map_nil, List.length_cons, List.length_nil, List.cons_append, List.nil_append, List.replicate, Nat.sub_self, Nat.reduceSub, Nat.reduceAdd, List.getElem?_cons_zero, List.getElem?_cons_succ, List.set_cons_zero, List.set_cons_succ, Option.some.injEq, exists_eq_left', rd_d, on2_d, on1_d, c1_d, bOf_b, exists_eq_left, Option.map_some, Option.bind_some, W.d.injEq, Ret_gcd, List.take_length, dIx, wipeW]
    have ea := rdr_at hk i1 0
    have ea : T[S.length]? = some (.lst pool) := ea
    have hty : tyM "list" T (.r S.length) = true := by simp only [tyM, ea]; rfl
    have hrd : rd T (.r S.length) = some (.list pool) := by simp only [rd, ea]
    refine ⟨hty, _, show on1 lenP T (.r S.length) = some (.d (.int pool.length)) by unfold on1; rw [hrd]; rfl, ?_⟩
    refine (rdr_draw hk i1 (by omega) (by omega)).mono ?_
    rintro _ T2 ⟨⟨z, rfl, z0, z1⟩, h2⟩
    have eb : T2[S.length]? = some (.lst pool) := rdr_at hk h2 0
    have hz : z.toNat < pool.length := by omega
    refine ⟨.d pool[z.toNat], T2.set S.length (.lst (pool.eraseIdx z.toNat)), ?_, _, rfl, _, rdr_set hk h2 0 _, ?_, ?_, ?_, ?_⟩
    · simp only [gPop, eb]
      rw [if_pos ⟨z0, by omega⟩, List.getElem?_eq_getElem hz]; rfl
    · rw [List.length_eraseIdx, if_pos hz]; omega
    · exact fun y hy => i3 y (List.mem_of_mem_eraseIdx hy)
    · simp [i4]
    · intro y hy
      rcases List.mem_append.mp hy with hy | hy
      · exact i5 y hy
      · rw [List.mem_singleton] at hy; subst hy; exact i3 _ (List.getElem_mem hz)
  rintro hs T2 ⟨pool, i1, i2, i3, i4, i5⟩
  rw [lr] at i4
  refine ⟨_, show sortG T2 [.d (.list hs)] = some (srtD hs) from ?_, ?_⟩
  · show (if sortOk hs = true then some (srtD hs) else none) = _
    rw [if_pos (shs_sort i5 (by omega))]
  generalize ehh : srtD hs = hh
  have hh1 : ∀ y ∈ hh, Sh y := fun y hy => i5 y (srt_mem (by rw [ehh]; exact hy))
  have hh2 : hh.length = (1 + x).toNat := by rw [← ehh, srt_len, i4]; omega
  refine ⟨_, rfl, ?_⟩
  refine (lc_inv (fun j acc T => Rdr ns k (S ++ [.lst pool]) T ∧ acc.length = j ∧ ∀ y ∈ acc, ∃ u : Int, y = .int u ∧ 0 < u ∧ u ≤ 5) hh 0 [] T2 ⟨i1, rfl, by simp⟩ ?_).mono ?_
  · rintro j y acc T hy ⟨j1, j2, j3⟩
    refine ⟨_, rfl, ?_⟩
    simp only [RetS_cons, RetS_nil, RetS_set, RetS_drop, RetS_ret, RetS_if, RetS_asg, RetS_par, RetS_put, RetS_nx, RetS_rt, Ret_dFn, Ret_dCons, Ret_dNil, Ret_dBin, Ret_dUn, Ret_dCall, Ret_dCallN, Ret_dC, Ret_dG, Ret_dVar, Ret_dIf, Ret_dFz, Ret_dNew, Ret_dLst, Ret_dTup, Ret_dB, Ret_dAndT, Ret_dOrT, Ret_dNotT, Ret_dAnd, Ret_dOr, Ret_dNot, Ret_dIsi, Ret_dChain, Ret_dGet, Ret_dD0, Ret_dNoP, Ret_dPt, Ret_dSlA, Ret_dMeth, Ret_dAny, Ret_dLenSet, Ret_dZip, Ret_dZipL, Ret_dKeys, Ret_dRng1, Ret_dRng2, Ret_dLc, RetS_for, Ret_ok, startW, List.map_cons, List.map_nil, List.length_cons, List.length_nil, List.cons_append, List.nil_append, List.replicate, Nat.sub_self, Nat.reduceSub, Nat.reduceAdd, List.getElem?_cons_zero, List.getElem?_cons_succ, List.set_cons_zero, List.set_cons_succ, Option.some.injEq, exists_eq_left', rd_d, on2_d, on1_d, c1_d, bOf_b, exists_eq_left, Option.map_some, Option.bind_some, W.d.injEq, Ret_gcd, List.take_length, dIx, wipeW]
    refine (rdr_draw hk j1 (by omega) (by omega)).mono ?_
    rintro _ T3 ⟨⟨z, rfl, z0, z1⟩, h3⟩
    refine ⟨_, rfl, _, rfl, h3, by simp [j2], ?_⟩
    intro y hy
    rcases List.mem_append.mp hy with hy | hy
    · exact j3 y hy
    · rw [List.mem_singleton] at hy; subst hy; exact ⟨_, rfl, by omega, by omega⟩
  rintro wd T3 ⟨j1, j2, j3⟩
  rw [hh2] at j2
  have eT : T3.length = S.length + 1 := rdr_len hk j1
  rw [eT]
  have d0 : Rdr ns k (S ++ [.lst pool, .dt []]) (T3 ++ [.dt []]) := rdr_push hk j1 _
  refine ⟨_, rfl, ?_⟩
  simp only [RetS_cons, RetS_nil, RetS_set, RetS_drop, RetS_ret, RetS_if, RetS_asg, RetS_par, RetS_put, RetS_nx, RetS_rt, Ret_dFn, Ret_dCons, Ret_dNil, Ret_dBin, Ret_dUn, Ret_dCall, Ret_dCallN, Ret_dC, Ret_dG, Ret_dVar, Ret_dIf, Ret_dFz, Ret_dNew, Ret_dLst, Ret_dTup, Ret_dB, Ret_dAndT, Ret_dOrT, Ret_dNotT, Ret_dAnd, Ret_dOr, Ret_dNot, Ret_dIsi, Ret_dChain, Ret_dGet, Ret_dD0, Ret_dNoP, Ret_dPt, Ret_dSlA, Ret_dMeth, Ret_dAny, Ret_dLenSet, Ret_dZip, Ret_dZipL, Ret_dKeys, Ret_dRng1, Ret_dRng2, Ret_dLc, RetS_for, Ret_ok, startW, List.map_cons, List.map_nil, List.length_cons, List.length_nil, List.cons_append, List.nil_append, List.replicate, Nat.sub_self, Nat.reduceSub, Nat.reduceAdd, List.getElem?_cons_zero, List.getElem?_cons_succ, List.set_cons_zero, List.set_cons_succ, Option.some.injEq, exists_eq_left', rd_d, on2_d, on1_d, c1_d, bOf_b, exists_eq_left, Option.map_some, Option.bind_some, W.d.injEq, Ret_gcd, List.take_length, dIx, wipeW]
  refine (rdr_draw hk d0 (by decide) (by decide)).mono ?_
  rintro _ T4 ⟨⟨y, rfl, y0, y1⟩, d1⟩
  refine ⟨_, rfl, _, rfl, by omega, ?_⟩
  have nn : 0 < (1 + x).toNat := by omega
  generalize hn : (1 + x).toNat = n at *
  refine for_inv (fun j σ T => (∃ o1 o2 o3, σ = [some (.r k), some (.d (.int 4)), some (.d (.int 12)), some (.r S.length), some (.d (.list wordL)), some (.d (.list hh)), o1, some (.d (.list wd)), some (.r (S.length + 1)), o2, o3, none, none]) ∧ ∃ kvs, Rdr ns k (S ++ [.lst pool, .dt kvs]) T ∧ KOk n kvs ∧ kvs.length ≤ j ∧ (0 < j → 0 < kvs.length)) (rng 0 (1 + y)) 0 _ _ ⟨⟨_, _, _, rfl⟩, [], d1, (fun q hq => nomatch hq), Nat.le_refl _, fun h => absurd h (by decide)⟩ ?_ ?_
  · rintro σ T ⟨⟨o1, o2, o3, rfl⟩, kvs, e1, e2, e3, e4⟩
    rw [rng_len] at e3 e4
    simp only [RetS_cons, RetS_nil, RetS_set, RetS_drop, RetS_ret, RetS_if, RetS_asg, RetS_par, RetS_put, RetS_nx, RetS_rt, Ret_dFn, Ret_dCons, Ret_dNil, Ret_dBin, Ret_dUn, Ret_dCall, Ret_dCallN, Ret_dC, Ret_dG, Ret_dVar, Ret_dIf, Ret_dFz, Ret_dNew, Ret_dLst, Ret_dTup, Ret_dB, Ret_dAndT, Ret_dOrT, Ret_dNotT, Ret_dAnd, Ret_dOr, Ret_dNot, Ret_dIsi, Ret_dChain, Ret_dGet, Ret_dD0, Ret_dNoP, Ret_dPt, Ret_dSlA, Ret_dMeth, Ret_dAny, Ret_dLenSet, Ret_dZip, Ret_dZipL, Ret_dKeys, Ret_dRng1, Ret_dRng2, Ret_dLc, RetS_for, Ret_ok, startW, List.map_cons, List.map_nil, List.length_cons, List.length_nil, List.cons_append, List.nil_append, List.replicate, Nat.sub_self, Nat.reduceSub, Nat.reduceAdd, List.getElem?_cons_zero, List.getElem?_cons_succ, List.set_cons_zero, List.set_cons_succ, Option.some.injEq, exists_eq_left', rd_d, on2_d, on1_d, c1_d, bOf_b, exists_eq_left, Option.map_some, Option.bind_some, W.d.injEq, Ret_gcd, List.take_length, dIx, wipeW]
    have ea : T[S.length + 1]? = some (.dt kvs) := rdr_at hk e1 1
    have kr := keysOf_row e2
    obtain ⟨fr, hmin, hfr⟩ : ∃ fr, minDG T [.r (S.length + 1)] = some (.d fr) ∧ Row n fr := by
      have hl : (keysOf kvs).length = kvs.length := by unfold keysOf; rw [List.length_map]
      unfold minDG dtW
      simp only [ea, Option.bind_some]
      cases hkk : keysOf kvs with
      | nil => rw [hkk] at hl; simp at hl; omega
      | cons a r =>
        rw [hkk] at kr
        refine ⟨_, if_pos ?_, kr _ (minD_mem a r)⟩
        rw [Bool.and_eq_true, decide_eq_true_eq]
        exact ⟨List.all_eq_true.mpr fun x hx => List.all_eq_true.mpr fun y hy => row_like (kr x hx) (kr y hy), depthAll_le fun x hx => Nat.le_trans (row_gd (kr x hx)).depth (by decide)⟩
    refine ⟨_, hmin, _, rfl, _, rfl, by omega, ?_⟩
    refine for_inv (fun j σ T => (∃ o1 o2 o3 o4, σ = [some (.r k), some (.d (.int 4)), some (.d (.int 12)), some (.r S.length), some (.d (.list wordL)), some (.d (.list hh)), o1, some (.d (.list wd)), some (.r (S.length + 1)), o2, o3, some (.d fr), o4]) ∧ ∃ kvs, Rdr ns k (S ++ [.lst pool, .dt kvs]) T ∧ KOk n kvs ∧ kvs.length ≤ 12 + j ∧ 0 < kvs.length) (rng 0 (hh.length : Int)) 0 _ _ ⟨⟨_, _, _, _, rfl⟩, kvs, e1, e2, by omega, e4 (by omega)⟩ ?_ ?_
    · rintro σ T ⟨⟨o1, o2, o3, o4, rfl⟩, kvs, e1, e2, e3, e4⟩
      rw [rng_len] at e3
      simp only [RetS_cons, RetS_nil, RetS_set, RetS_drop, RetS_ret, RetS_if, RetS_asg, RetS_par, RetS_put, RetS_nx, RetS_rt, Ret_dFn, Ret_dCons, Ret_dNil, Ret_dBin, Ret_dUn, Ret_dCall, Ret_dCallN, Ret_dC, Ret_dG, Ret_dVar, Ret_dIf, Ret_dFz, Ret_dNew, Ret_dLst, Ret_dTup, Ret_dB, Ret_dAndT, Ret_dOrT, Ret_dNotT, Ret_dAnd, Ret_dOr, Ret_dNot, Ret_dIsi, Ret_dChain, Ret_dGet, Ret_dD0, Ret_dNoP, Ret_dPt, Ret_dSlA, Ret_dMeth, Ret_dAny, Ret_dLenSet, Ret_dZip, Ret_dZipL, Ret_dKeys, Ret_dRng1, Ret_dRng2, Ret_dLc, RetS_for, Ret_ok, startW, List.map_cons, List.map_nil, List.length_cons, List.length_nil, List.cons_append, List.nil_append, List.replicate, Nat.sub_self, Nat.reduceSub, Nat.reduceAdd, List.getElem?_cons_zero, List.getElem?_cons_succ, List.set_cons_zero, List.set_cons_succ, Option.some.injEq, exists_eq_left', rd_d, on2_d, on1_d, c1_d, bOf_b, exists_eq_left, Option.map_some, Option.bind_some, W.d.injEq, Ret_gcd, List.take_length, dIx, wipeW]
      have ea : T[S.length + 1]? = some (.dt kvs) := rdr_at hk e1 1
      have kr := keysOf_row e2
      have hl : (keysOf kvs).length = kvs.length := by unfold keysOf; rw [List.length_map]
      refine ⟨_, rfl, _, show sortDG T [.r (S.length + 1)] = some (srtD (keysOf kvs)) from ?_, _, rfl, _, rfl, ?_⟩
      · simp only [sortDG, dtW, ea, Option.bind_some]
        rw [if_pos (rows_sort nn kr (by omega))]
      · refine ⟨⟨n, by omega, by omega, hh, srtD (keysOf kvs), rfl, hh2, hh1, ?_, by rw [srt_len]; omega, fun r hr => kr r (srt_mem hr)⟩, rdr_take hk e1⟩
        intro e0
        have := congrArg List.length e0
        rw [srt_len, List.length_nil] at this
        omega
    · rintro j y σ T hy ⟨⟨o1, o2, o3, o4, rfl⟩, kvs, e1, e2, e3, e4⟩
      obtain ⟨rfl, hj⟩ := rng_at hy
      have ea : T[S.length + 1]? = some (.dt kvs) := rdr_at hk e1 1
      have kr := keysOf_row e2
      have hl : (keysOf kvs).length = kvs.length := by unfold keysOf; rw [List.length_map]
      obtain ⟨fs, rfl, fl, fm⟩ := hfr
      refine ⟨_, rfl, ?_⟩
      simp only [RetS_cons, RetS_nil, RetS_set, RetS_drop, RetS_ret, RetS_if, RetS_asg, RetS_par, RetS_put, RetS_nx, RetS_rt, Ret_dFn, Ret_dCons, Ret_dNil, Ret_dBin, Ret_dUn, Ret_dCall, Ret_dCallN, Ret_dC, Ret_dG, Ret_dVar, Ret_dIf, Ret_dFz, Ret_dNew, Ret_dLst, Ret_dTup, Ret_dB, Ret_dAndT, Ret_dOrT, Ret_dNotT, Ret_dAnd, Ret_dOr, Ret_dNot, Ret_dIsi, Ret_dChain, Ret_dGet, Ret_dD0, Ret_dNoP, Ret_dPt, Ret_dSlA, Ret_dMeth, Ret_dAny, Ret_dLenSet, Ret_dZip, Ret_dZipL, Ret_dKeys, Ret_dRng1, Ret_dRng2, Ret_dLc, RetS_for, Ret_ok, startW, List.map_cons, List.map_nil, List.length_cons, List.length_nil, List.cons_append, List.nil_append, List.replicate, Nat.sub_self, Nat.reduceSub, Nat.reduceAdd, List.getElem?_cons_zero, List.getElem?_cons_succ, List.set_cons_zero, List.set_cons_succ, Option.some.injEq, exists_eq_left', rd_d, on2_d, on1_d, c1_d, bOf_b, exists_eq_left, Option.map_some, Option.bind_some, W.d.injEq, Ret_gcd, List.take_length, dIx, wipeW]
      rw [Ret_dLockN]
      refine ⟨_, _, _, by simp [lockS, slotR, ea, lockO]; exact ⟨rfl, rfl, rfl⟩, ?_⟩
      simp only [RetS_cons, RetS_nil, RetS_set, RetS_drop, RetS_ret, RetS_if, RetS_asg, RetS_par, RetS_put, RetS_nx, RetS_rt, Ret_dFn, Ret_dCons, Ret_dNil, Ret_dBin, Ret_dUn, Ret_dCall, Ret_dCallN, Ret_dC, Ret_dG, Ret_dVar, Ret_dIf, Ret_dFz, Ret_dNew, Ret_dLst, Ret_dTup, Ret_dB, Ret_dAndT, Ret_dOrT, Ret_dNotT, Ret_dAnd, Ret_dOr, Ret_dNot, Ret_dIsi, Ret_dChain, Ret_dGet, Ret_dD0, Ret_dNoP, Ret_dPt, Ret_dSlA, Ret_dMeth, Ret_dAny, Ret_dLenSet, Ret_dZip, Ret_dZipL, Ret_dKeys, Ret_dRng1, Ret_dRng2, Ret_dLc, RetS_for, Ret_ok, startW, List.map_cons, List.map_nil, List.length_cons, List.length_nil, List.cons_append, List.nil_append, List.replicate, Nat.sub_self, Nat.reduceSub, Nat.reduceAdd, List.getElem?_cons_zero, List.getElem?_cons_succ, List.set_cons_zero, List.set_cons_succ, Option.some.injEq, exists_eq_left', rd_d, on2_d, on1_d, c1_d, bOf_b, exists_eq_left, Option.map_some, Option.bind_some, W.d.injEq, Ret_gcd, List.take_length, dIx, wipeW]
      have hlen : S.length + 1 < T.length := (List.getElem?_eq_some_iff.mp ea).1
      have e7 : lkKeys (T.set (S.length + 1) (.lkT kvs)) (.r (S.length + 1)) = some (keysOf kvs) := by
        simp only [lkKeys, List.getElem?_set_self hlen]
      refine ⟨_, e7, small_of (m := 1000) (by omega), ?_⟩
      refine Ret.of (lc_pure (fun _ => true) (fun z => (tupL z).getD j .none) _ _ fun z hz => ⟨_, rfl, ⟨rfl, rfl⟩, fun _ => ?_⟩) ?_
      · obtain ⟨ws, rfl, wl, wm⟩ := kr z hz
        simp only [RetS_cons, RetS_nil, RetS_set, RetS_drop, RetS_ret, RetS_if, RetS_asg, RetS_par, RetS_put, RetS_nx, RetS_rt, Ret_dFn, Ret_dCons, Ret_dNil, Ret_dBin, Ret_dUn, Ret_dCall, Ret_dCallN, Ret_dC, Ret_dG, Ret_dVar, Ret_dIf, Ret_dFz, Ret_dNew, Ret_dLst, Ret_dTup, Ret_dB, Ret_dAndT, Ret_dOrT, Ret_dNotT, Ret_dAnd, Ret_dOr, Ret_dNot, Ret_dIsi, Ret_dChain, Ret_dGet, Ret_dD0, Ret_dNoP, Ret_dPt, Ret_dSlA, Ret_dMeth, Ret_dAny, Ret_dLenSet, Ret_dZip, Ret_dZipL, Ret_dKeys, Ret_dRng1, Ret_dRng2, Ret_dLc, RetS_for, Ret_ok, startW, List.map_cons, List.map_nil, List.length_cons, List.length_nil, List.cons_append, List.nil_append, List.replicate, Nat.sub_self, Nat.reduceSub, Nat.reduceAdd, List.getElem?_cons_zero, List.getElem?_cons_succ, List.set_cons_zero, List.set_cons_succ, Option.some.injEq, exists_eq_left', rd_d, on2_d, on1_d, c1_d, bOf_b, exists_eq_left, Option.map_some, Option.bind_some, W.d.injEq, Ret_gcd, List.take_length, dIx, wipeW]
        exact ⟨_, om (at_nat (by omega) (by omega)), rfl, trivial⟩
      rw [List.filter_eq_self.mpr fun _ _ => rfl, List.set_set, set_same ea, List.nil_append]
      obtain ⟨xs, t1, t2⟩ := txts_sh (ds := (keysOf kvs).map fun z => (tupL z).getD j .none) fun y hy => by
        obtain ⟨z, hz, rfl⟩ := List.mem_map.mp hy
        obtain ⟨ws, rfl, wl, wm⟩ := kr z hz
        have hjw : j < ws.length := by omega
        have e : ws.getD j .none = ws[j] := by simp [hjw]
        show Sh (ws.getD j .none)
        rw [e]
        exact wm _ (List.getElem_mem hjw)
      rw [List.length_map] at t2
      refine ⟨_, show (txts _).bind _ = _ by rw [t1, Option.bind_some, if_pos (by omega)], ?_⟩
      have cut0 : cutG fs none (some (j : Int)) = fs.take j := by
        unfold cutG
        rw [HT.sIx_none, HT.sIx_nat, show min j fs.length = j by omega]; simp
      have cut1 : cutG fs (some ((j : Int) + 1)) none = fs.drop (j + 1) := by
        unfold cutG
        rw [HT.sIx_none, show ((j : Int) + 1) = ((j + 1 : Nat) : Int) by omega, HT.sIx_nat, show min (j + 1) fs.length = j + 1 by omega]
        exact List.take_of_length_le (by simp)
      have tail : ∀ c : PyData, Sh c → ∃ S4, dputW T (.r (S.length + 1)) (.d (.tuple ((fs.take j ++ [c]) ++ fs.drop (j + 1)))) (.d (.bool true)) = some S4 ∧ ∃ kvs, Rdr ns k (S ++ [.lst pool, .dt kvs]) S4 ∧ KOk n kvs ∧ kvs.length ≤ 12 + (0 + j + 1) ∧ 0 < kvs.length := by
        intro c hc
        have hm : ∀ y ∈ ((fs.take j ++ [c]) ++ fs.drop (j + 1)), Sh y := by
          intro y hy
          rcases List.mem_append.mp hy with hy | hy
          · rcases List.mem_append.mp hy with hy | hy
            · exact fm y (List.mem_of_mem_take hy)
            · rw [List.mem_singleton] at hy; subst hy; exact hc
          · exact fm y (List.mem_of_mem_drop hy)
        obtain ⟨q, q1, q2⟩ := sh_keys hm
        rw [show ((fs.take j ++ [c]) ++ fs.drop (j + 1)).length = n by simp; omega] at q2
        refine ⟨T.set (S.length + 1) (.dt (putD kvs q (.bool true))), ?_, putD kvs q (.bool true), rdr_set hk e1 1 _, putD_ok e2 q2, ?_, ?_⟩
        · simp only [dputW, ea]
          rw [if_pos (small_of (m := 1000) (by omega)), q1]; rfl
        · have := (putD_len kvs q (.bool true)).1; omega
        · exact (putD_len kvs q (.bool true)).2
      refine ⟨_, LK01.o2 (ltP_of (cmp_int _ _)), _, rfl, ?_⟩
      split
      · have hjf : j < fs.length := by omega
        have la : ∀ {c : PyData}, (cutG fs none (some (j : Int))).length + [c].length ≤ 1000 := by
          intro c; rw [cut0]; simp; omega
        have lb : ∀ {c : PyData}, (cutG fs none (some (j : Int)) ++ [c]).length + (cutG fs (some ((j : Int) + 1)) none).length ≤ 1000 := by
          intro c; rw [cut0, cut1]; simp; omega
        obtain ⟨b, hb⟩ : ∃ b, eqP (fs.getD j .none) (.str "x") = some (.bool b) := by
          have e : fs.getD j .none = fs[j] := by simp [hjf]
          have hs := fm _ (List.getElem_mem hjf)
          rw [e]
          unfold eqP
          rw [(sh_gd hs).okD (by decide), show okD (.str "x") = true by decide +kernel]
          exact ⟨_, rfl⟩
        refine ⟨_, rfl, _, rfl, _, om (at_nat (by omega) (by omega)), _, LK01.o2 hb, _, rfl, ?_⟩
        split
        · obtain ⟨S4, p1, p2⟩ := tail (.str "y") (sh_of (by decide +kernel))
          refine ⟨_, rfl, .d (.tuple (cutG fs none (some (j : Int)) ++ [.str "y"])), addT la, .d (.int ((j : Int) + 1)), rfl, _, rfl, _, rfl, .d (.tuple ((cutG fs none (some (j : Int)) ++ [.str "y"]) ++ cutG fs (some ((j : Int) + 1)) none)), addT lb, S4, ?_, ⟨_, _, _, _, rfl⟩, p2⟩
          rw [← p1, ← cut0, ← cut1]
        · obtain ⟨S4, p1, p2⟩ := tail (.str "x") (sh_of (by decide +kernel))
          refine ⟨_, rfl, .d (.tuple (cutG fs none (some (j : Int)) ++ [.str "x"])), addT la, .d (.int ((j : Int) + 1)), rfl, _, rfl, _, rfl, .d (.tuple ((cutG fs none (some (j : Int)) ++ [.str "x"]) ++ cutG fs (some ((j : Int) + 1)) none)), addT lb, S4, ?_, ⟨_, _, _, _, rfl⟩, p2⟩
          rw [← p1, ← cut0, ← cut1]
      · exact ⟨⟨_, _, _, _, rfl⟩, kvs, e1, e2, by omega, e4⟩
  · rintro j y acc T hy ⟨⟨o1, o2, o3, rfl⟩, kvs, e1, e2, e3, e4⟩
    refine ⟨_, rfl, ?_⟩
    simp only [RetS_cons, RetS_nil, RetS_set, RetS_drop, RetS_ret, RetS_if, RetS_asg, RetS_par, RetS_put, RetS_nx, RetS_rt, Ret_dFn, Ret_dCons, Ret_dNil, Ret_dBin, Ret_dUn, Ret_dCall, Ret_dCallN, Ret_dC, Ret_dG, Ret_dVar, Ret_dIf, Ret_dFz, Ret_dNew, Ret_dLst, Ret_dTup, Ret_dB, Ret_dAndT, Ret_dOrT, Ret_dNotT, Ret_dAnd, Ret_dOr, Ret_dNot, Ret_dIsi, Ret_dChain, Ret_dGet, Ret_dD0, Ret_dNoP, Ret_dPt, Ret_dSlA, Ret_dMeth, Ret_dAny, Ret_dLenSet, Ret_dZip, Ret_dZipL, Ret_dKeys, Ret_dRng1, Ret_dRng2, Ret_dLc, RetS_for, Ret_ok, startW, List.map_cons, List.map_nil, List.length_cons, List.length_nil, List.cons_append, List.nil_append, List.replicate, Nat.sub_self, Nat.reduceSub, Nat.reduceAdd, List.getElem?_cons_zero, List.getElem?_cons_succ, List.set_cons_zero, List.set_cons_succ, Option.some.injEq, exists_eq_left', rd_d, on2_d, on1_d, c1_d, bOf_b, exists_eq_left, Option.map_some, Option.bind_some, W.d.injEq, Ret_gcd, List.take_length, dIx, wipeW]
    refine ⟨_, rfl, ?_⟩
    refine (lc_inv (fun j acc T => Rdr ns k (S ++ [.lst pool, .dt kvs]) T ∧ acc.length = j ∧ ∀ y ∈ acc, Sh y) wd 0 [] T ⟨e1, rfl, by simp⟩ ?_).mono ?_
    · rintro j u acc T hu ⟨f1, f2, f3⟩
      obtain ⟨u, rfl, u0, u1⟩ := j3 u (List.mem_of_getElem? hu)
      refine ⟨_, rfl, ?_⟩
      simp only [RetS_cons, RetS_nil, RetS_set, RetS_drop, RetS_ret, RetS_if, RetS_asg, RetS_par, RetS_put, RetS_nx, RetS_rt, Ret_dFn, Ret_dCons, Ret_dNil, Ret_dBin, Ret_dUn, Ret_dCall, Ret_dCallN, Ret_dC, Ret_dG, Ret_dVar, Ret_dIf, Ret_dFz, Ret_dNew, Ret_dLst, Ret_dTup, Ret_dB, Ret_dAndT, Ret_dOrT, Ret_dNotT, Ret_dAnd, Ret_dOr, Ret_dNot, Ret_dIsi, Ret_dChain, Ret_dGet, Ret_dD0, Ret_dNoP, Ret_dPt, Ret_dSlA, Ret_dMeth, Ret_dAny, Ret_dLenSet, Ret_dZip, Ret_dZipL, Ret_dKeys, Ret_dRng1, Ret_dRng2, Ret_dLc, RetS_for, Ret_ok, startW, List.map_cons, List.map_nil, List.length_cons, List.length_nil, List.cons_append, List.nil_append, List.replicate, Nat.sub_self, Nat.reduceSub, Nat.reduceAdd, List.getElem?_cons_zero, List.getElem?_cons_succ, List.set_cons_zero, List.set_cons_succ, Option.some.injEq, exists_eq_left', rd_d, on2_d, on1_d, c1_d, bOf_b, exists_eq_left, Option.map_some, Option.bind_some, W.d.injEq, Ret_gcd, List.take_length, dIx, wipeW]
      refine (rdr_draw hk f1 u0 (by omega)).mono ?_
      rintro _ T5 ⟨⟨z, rfl, z0, z1⟩, g1⟩
      have hz : z.toNat < wordL.length := by show z.toNat < 5; omega
      refine ⟨_, om (at_nat z0 (show z < (wordL.length : Int) by omega)), _, rfl, g1, by simp [f2], ?_⟩
      have e : wordL.getD z.toNat .none = wordL[z.toNat] := by simp [hz]
      rw [e]
      intro y hy
      rcases List.mem_append.mp hy with hy | hy
      · exact f3 y hy
      · rw [List.mem_singleton] at hy; subst hy; exact word_sh _ (List.getElem_mem hz)
    · rintro ws T5 ⟨f1, f2, f3⟩
      obtain ⟨q, q1, q2⟩ := sh_keys f3
      have ln : ws.length = n := by omega
      rw [ln] at q2
      have ea : T5[S.length + 1]? = some (.dt kvs) := rdr_at hk f1 1
      have hjy := (List.getElem?_eq_some_iff.mp hy).1
      rw [rng_len] at hjy
      refine ⟨_, rfl, T5.set (S.length + 1) (.dt (putD kvs q (.bool true))), ?_, ⟨_, _, _, rfl⟩, putD kvs q (.bool true), rdr_set hk f1 1 _, putD_ok e2 q2, ?_, fun _ => ?_⟩
      · simp only [dputW, ea]
        rw [if_pos (small_of (m := 1000) (by omega)), q1]; rfl
      · have := (putD_len kvs q (.bool true)).1; omega
      · have := (putD_len kvs q (.bool true)).2; omega
end LK01
end

section
/-! part LM01f -/
set_option Elab.async false
set_option linter.all false
set_option maxRecDepth 100000
set_option maxHeartbeats 1000000
/-! LM01f: a value that is changed. -/
open CL
open PySem PySem.Spec PyProof.Rows L2
namespace LK01
mutual
def lo (N : Nat) : PyData → Bool
  | .none => true
  | .bool _ => true
  | .int i => decide (i.natAbs ≤ N)
  | .str _ => true
  | .list xs => los N xs
  | .tuple xs => los N xs
  | .dict _ => true
def los (N : Nat) : List PyData → Bool
  | [] => true
  | x :: xs => lo N x && los N xs
end
theorem los_iff {N : Nat} : ∀ {xs : List PyData}, los N xs = true ↔ ∀ x ∈ xs, lo N x = true
  | [] => by simp [los]
  | x :: xs => by simp [los, los_iff (xs := xs)]
mutual
theorem lo_mono {N M : Nat} (h : N ≤ M) : ∀ x : PyData, lo N x = true → lo M x = true
  | .none, _ | .bool _, _ | .str _, _ | .dict _, _ => by simp [lo]
  | .int i, q => by simp only [lo, decide_eq_true_eq] at *; omega
  | .list xs, q => by simp only [lo] at *; exact los_mono h xs q
  | .tuple xs, q => by simp only [lo] at *; exact los_mono h xs q
theorem los_mono {N M : Nat} (h : N ≤ M) : ∀ x : List PyData, los N x = true → los M x = true
  | [], _ => by simp [los]
  | x :: xs, q => by simp only [los, Bool.and_eq_true] at *; exact ⟨lo_mono h x q.1, los_mono h xs q.2⟩
end
structure G3 (N b d : Nat) (x : PyData) : Prop where
  g : Gd b d x
  i : lo N x = true
structure G3s (N b d : Nat) (xs : List PyData) : Prop where
  g : Gds b d xs
  i : los N xs = true
section
variable {N N' b b' d d' : Nat} {x : PyData} {xs ys : List PyData}
theorem G3.mono (h : G3 N b d x) (hN : N ≤ N') (hb : b ≤ b') (hd : d ≤ d') : G3 N' b' d' x := ⟨h.g.mono hb hd, lo_mono hN x h.i⟩
theorem G3s.mono (h : G3s N b d xs) (hN : N ≤ N') (hb : b ≤ b') (hd : d ≤ d') : G3s N' b' d' xs := ⟨h.g.mono hb hd, los_mono hN xs h.i⟩
theorem G3s.list (h : G3s N b d xs) : G3 N b (d + 1) (.list xs) := ⟨.list h.g, by simpa [lo] using h.i⟩
theorem G3s.tuple (h : G3s N b d xs) : G3 N b (d + 1) (.tuple xs) := ⟨.tuple h.g, by simpa [lo] using h.i⟩
theorem G3.ofTuple (h : G3 N b d (.tuple xs)) : G3s N b (d - 1) xs := ⟨h.g.ofTuple, by simpa [lo] using h.i⟩
theorem G3s.one (h : G3 N b d x) : G3s N (b + 1) d [x] := ⟨Gds.cons (b' := 0) h.g Gds.nil, by simpa [los] using h.i⟩
theorem G3s.append (h : G3s N b d xs) (t : G3s N b' d ys) : G3s N (b + b') d (xs ++ ys) := ⟨h.g.append t.g, los_iff.mpr fun x hx => (List.mem_append.mp hx).elim (los_iff.mp h.i x) (los_iff.mp t.i x)⟩
theorem G3s.cut (h : G3s N b d xs) (lo hi : Option Int) : G3s N b d (cutG xs lo hi) := ⟨h.g.cut lo hi, los_iff.mpr fun x hx => los_iff.mp h.i x (List.mem_of_mem_drop (List.mem_of_mem_take hx))⟩
theorem G3s.reverse (h : G3s N b d xs) : G3s N b d xs.reverse := ⟨h.g.reverse, los_iff.mpr fun x hx => los_iff.mp h.i x (List.mem_reverse.mp hx)⟩
theorem G3.up (h : G3 N b d (.tuple xs)) : G3 N b (d - 1 + 1) (.tuple xs) := h.ofTuple.tuple
end
theorem odd_gi : ∀ x ∈ oddL, lo (10 ^ 50) x = true := by
  have : oddL.all (lo (10 ^ 50)) = true := by decide +kernel
  exact fun x hx => List.all_eq_true.mp this x hx
theorem odd3 {S T0 : So} {k : Nat} {ns : List Int} (hk : k < S.length) (h : Rdr ns k S T0) : Ret (f_l_odd [.r k] T0) fun w T => (∃ y, w = .d y ∧ G3 (10 ^ 50) 20 3 y) ∧ Rdr ns k S T := by
  refine Ret_fnB rfl ?_
  unfold b_l_odd
  rw [RetS_cons, RetS_set]
  refine Ret.of (a := .d (.list (oddL.take 14))) (S := T0) rfl ?_
  rw [RetS_cons, RetS_set]
  refine Ret.of (a := .d (.list oddL)) (S := T0) rfl ?_
  simp only [RetS_cons, RetS_nil, RetS_set, RetS_drop, RetS_ret, RetS_if, RetS_asg, RetS_par, RetS_put, RetS_nx, RetS_rt, Ret_dFn, Ret_dCons, Ret_dNil, Ret_dBin, Ret_dUn, Ret_dCall, Ret_dCallN, Ret_dC, Ret_dG, Ret_dVar, Ret_dIf, Ret_dFz, Ret_dNew, Ret_dLst, Ret_dTup, Ret_dB, Ret_dAndT, Ret_dOrT, Ret_dNotT, Ret_dAnd, Ret_dOr, Ret_dNot, Ret_dIsi, Ret_dChain, Ret_dGet, Ret_dD0, Ret_dNoP, Ret_dPt, Ret_dSlA, Ret_dMeth, Ret_dAny, Ret_dLenSet, Ret_dZip, Ret_dZipL, Ret_dKeys, Ret_dRng1, Ret_dRng2, Ret_dLc, RetS_for, Ret_ok, startW, List.map_cons, List.map_nil, List.length_cons, List.length_nil, List.cons_append, List.nil_append, List.replicate, Nat.sub_self, Nat.reduceSub, Nat.reduceAdd, List.getElem?_cons_zero, List.getElem?_cons_succ, List.set_cons_zero, List.set_cons_succ, Option.some.injEq, exists_eq_left', rd_d, on2_d, on1_d, c1_d, bOf_b, exists_eq_left, Option.map_some, Option.bind_some, W.d.injEq, Ret_gcd, List.take_length, dIx, wipeW]
  refine (draw' hk h (by decide) (by decide)).mono ?_
  rintro _ T1 ⟨⟨x, rfl, x0, x1⟩, h1⟩
  have hx : x.toNat < oddL.length := by show x.toNat < 16; omega
  refine ⟨_, om (at_nat x0 (show x < (oddL.length : Int) by omega)), ?_⟩
  rw [Ret_gcd, rdr_takeS h1 h]
  have e : oddL.getD x.toNat .none = oddL[x.toNat] := by simp [hx]
  rw [e]
  exact ⟨⟨_, rfl, odd_gd _ (List.getElem_mem hx), odd_gi _ (List.getElem_mem hx)⟩, h1⟩
/-- one of a list, by a number -/
theorem pick {P : PyData → Prop} {l : List PyData} {x : Int} (x0 : 0 ≤ x) (x1 : x < (l.length : Int)) (h : ∀ y ∈ l, P y) : ∃ y, atP (.list l) (.int x) = some y ∧ P y := by
  have hx : x.toNat < l.length := by omega
  refine ⟨_, at_nat x0 x1, ?_⟩
  have e : l.getD x.toNat .none = l[x.toNat] := by simp [hx]
  rw [e]
  exact h _ (List.getElem_mem hx)
def chgR : DS := (sCons (sSet 3 (dFn f_l_draw (dCons (dVar 0) (dCons (dC (.int 9)) dNil))))
      (sCons (sIf (dAndT (dB (dIsi "tuple" (dVar 1))) (dB (dBin (on2 ltP) (dVar 3) (dC (.int 7))))) (sCons (sSet 4 (dFz (dLst (dCons (dFz (dCallN listG (dCons (dVar 1) dNil))) (dCons (dSlA (dVar 1) (dPt (dC (.int 1))) dNoP) (dCons (dSlA (dVar 1) dNoP (dPt (dUn (on1 negI) (dC (.int 1))))) (dCons (dBin addW (dVar 1) (dSlA (dVar 1) (dPt (dUn (on1 negI) (dC (.int 1)))) dNoP)) (dCons (dUn (on1 revP) (dVar 1)) (dCons (dTup (dCons (dVar 1) dNil)) dNil)))))))))
      (sCons (sRet (dIx (dBin addW (dVar 4) (dFz (dLst (dCons (dBin addW (dVar 1) (dTup (dCons (dFn f_l_odd (dCons (dVar 0) dNil)) dNil))) dNil)))) (dVar 3)))
      sNil)) sNil)
      (sCons (sIf (dAndT (dB (dIsi "str" (dVar 1))) (dB (dBin (on2 ltP) (dVar 3) (dC (.int 6))))) (sCons (sRet (dIx (dFz (dLst (dCons (dBin addW (dVar 1) (dC (.str "a"))) (dCons (dSlA (dVar 1) dNoP (dPt (dUn (on1 negI) (dC (.int 1))))) (dCons (dMeth "str" (gS0 upP) (dVar 1) dNil) (dCons (dBin addW (dVar 1) (dC (.str " "))) (dCons (dFz (dLst (dCons (dVar 1) dNil))) (dCons (dBin addW (dVar 1) (dC (.str "abcdefgh"))) dNil)))))))) (dVar 3)))
      sNil) sNil)
      (sCons (sIf (dAndT (dB (dIsi "int" (dVar 1))) (dB (dBin (on2 ltP) (dVar 3) (dC (.int 5))))) (sCons (sRet (dIx (dFz (dLst (dCons (dBin addW (dVar 1) (dC (.int 1))) (dCons (dBin (on2 subP) (dVar 1) (dC (.int 1))) (dCons (dBin (on2 eqP) (dVar 1) (dC (.int 1))) (dCons (dCall (c1 strP) (dCons (dVar 1) dNil)) (dCons (dFz (dLst (dCons (dVar 1) dNil))) dNil))))))) (dVar 3)))
      sNil) sNil)
      (sCons (sRet (dFn f_l_odd (dCons (dVar 0) dNil)))
      sNil)))))
theorem addT' {S : So} {a b : List PyData} (h : a.length + b.length ≤ 1000000) : addW S (.d (.tuple a)) (.d (.tuple b)) = some (.d (.tuple (a ++ b))) := by
  show (if small (a.length + b.length) = true then some (PyData.tuple (a ++ b)) else none).map W.d = _
  rw [if_pos (small_of h)]; rfl
theorem ltD_int (a b : Int) : ltD (.int a) (.int b) = decide (a < b) := by
  simp [ltD]
theorem addS {S : So} {a b : Str} (h : a.length + b.length ≤ 1000000) : addW S (.d (.str a)) (.d (.str b)) = some (.d (.str (a ++ b))) := by
  show (if small (a.length + b.length) = true then some (PyData.str (a ++ b)) else none).map W.d = _
  rw [if_pos (small_of h)]; rfl
abbrev five (i : Int) (c : Bool) (t : Str) (v : PyData) : List PyData := [.int (i + 1), .int (i - 1), .bool c, .str t, .list [v]]
theorem num_low (n : Nat) : ∀ c ∈ TL.numL n, c < 128 := fun c hc => by
  have := TL.numL_digits n c hc
  omega
theorem sign_int (i : Int) : signOk (Str.ofString (toString i)) = true := by
  unfold signOk
  rw [List.all_eq_true]
  intro c hc
  refine decide_eq_true ?_
  cases i with
  | ofNat n => exact num_low n c (by rw [← TL.tl_num]; exact hc)
  | negSucc n =>
    have e : toString (Int.negSucc n) = "-" ++ toString ((n + 1 : Nat) : Int) := rfl
    have hc : c ∈ TL.tl (Str.ofString (toString (Int.negSucc n))) := hc
    rw [e, TL.tl_ofString, String.toList_append, List.map_append, ← TL.tl_ofString, ← TL.tl_ofString, TL.tl_num] at hc
    rcases List.mem_append.mp hc with hc | hc
    · have : ∀ c ∈ TL.tl (Str.ofString "-"), c < 128 := by decide +kernel
      exact this c hc
    · exact num_low _ c hc
/-- what comes of a change -/
def Out3 (ns : List Int) (k : Nat) (S : So) (N b d : Nat) (w : W) (T : So) : Prop := (∃ y, w = .d y ∧ G3 (N + 10 ^ 50) (2 * b + 100) (d + 4) y) ∧ Rdr ns k S T
section
variable {S T0 : So} {k : Nat} {ns : List Int} (hk : k < S.length) (h : Rdr ns k S T0) {o2 o3 o4 : Option W} {N b d : Nat}
include hk h
theorem odd_end : Ret (f_l_odd [.r k] T0) (Out3 ns k S N b d) := (odd3 hk h).mono fun w T ⟨⟨y, e, g⟩, r⟩ => ⟨⟨y, e, g.mono (by omega) (by omega) (by omega)⟩, r⟩
theorem chg_tup {xs : List PyData} (g : G3 N b d (.tuple xs)) (hd : 1 ≤ d) (hb : b ≤ 100000) : RetS (chgR [some (.r k), some (.d (.tuple xs)), o2, o3, o4] T0) (fun _ _ => False) (Out3 ns k S N b d) := by
  unfold chgR
  simp only [RetS_cons, RetS_nil, RetS_set, RetS_drop, RetS_ret, RetS_if, RetS_asg, RetS_par, RetS_put, RetS_nx, RetS_rt, Ret_dFn, Ret_dCons, Ret_dNil, Ret_dBin, Ret_dUn, Ret_dCall, Ret_dCallN, Ret_dC, Ret_dG, Ret_dVar, Ret_dIf, Ret_dFz, Ret_dNew, Ret_dLst, Ret_dTup, Ret_dB, Ret_dAndT, Ret_dOrT, Ret_dNotT, Ret_dAnd, Ret_dOr, Ret_dNot, Ret_dIsi, Ret_dChain, Ret_dGet, Ret_dD0, Ret_dNoP, Ret_dPt, Ret_dSlA, Ret_dMeth, Ret_dAny, Ret_dLenSet, Ret_dZip, Ret_dZipL, Ret_dKeys, Ret_dRng1, Ret_dRng2, Ret_dLc, RetS_for, Ret_ok, startW, List.map_cons, List.map_nil, List.length_cons, List.length_nil, List.cons_append, List.nil_append, List.replicate, Nat.sub_self, Nat.reduceSub, Nat.reduceAdd, List.getElem?_cons_zero, List.getElem?_cons_succ, List.set_cons_zero, List.set_cons_succ, Option.some.injEq, exists_eq_left', rd_d, on2_d, on1_d, c1_d, bOf_b, exists_eq_left, Option.map_some, Option.bind_some, W.d.injEq, Ret_gcd, List.take_length, dIx, wipeW]
  refine (draw' hk h (by decide) (by decide)).mono ?_
  rintro _ T1 ⟨⟨x, rfl, x0, x1⟩, h1⟩
  refine ⟨_, rfl, _, rfl, ?_⟩
  rw [if_pos (by decide)]
  refine ⟨_, LK01.o2 (ltP_of (cmp_int _ _)), _, rfl, ?_⟩
  have gs := g.ofTuple
  have hl : xs.length ≤ 100000 := Nat.le_trans gs.g.len hb
  have cl : ∀ lo hi, (cutG xs lo hi).length ≤ xs.length := fun lo hi => by
    unfold cutG; rw [List.length_take, List.length_drop]; omega
  split
  · refine ⟨_, rfl, _, rfl, _, rfl, _, rfl, _, rfl, _, rfl, _, rfl, _, rfl, _, rfl, .d (.tuple (xs ++ cutG xs (some (-1)) none)), addT' (by have := cl (some (-1)) none; omega), _, rfl, _, rfl, _, rfl, ?_⟩
    refine (odd3 hk h1).mono ?_
    rintro _ T2 ⟨⟨y, rfl, gy⟩, h2⟩
    rename_i hlt
    rw [ltD_int, decide_eq_true_eq] at hlt
    refine ⟨_, rfl, .d (.tuple (xs ++ [y])), addT' (by simp; omega), _, rfl, .d (.list [.list xs, .tuple (cutG xs (some 1) none), .tuple (cutG xs none (some (-1))), .tuple (xs ++ cutG xs (some (-1)) none), .tuple xs.reverse, .tuple [.tuple xs], .tuple (xs ++ [y])]), rfl, ?_⟩
    obtain ⟨z, z1, z2⟩ := pick (P := G3 (N + 10 ^ 50) (2 * b + 100) (d + 4)) (l := [.list xs, .tuple (cutG xs (some 1) none), .tuple (cutG xs none (some (-1))), .tuple (xs ++ cutG xs (some (-1)) none), .tuple xs.reverse, .tuple [.tuple xs], .tuple (xs ++ [y])]) x0 hlt fun z hz => by
      simp only [List.mem_cons, List.not_mem_nil, or_false] at hz
      rcases hz with rfl | rfl | rfl | rfl | rfl | rfl | rfl
      · exact gs.list.mono (by omega) (by omega) (by omega)
      · exact (gs.cut _ _).tuple.mono (by omega) (by omega) (by omega)
      · exact (gs.cut _ _).tuple.mono (by omega) (by omega) (by omega)
      · exact (gs.append (gs.cut _ _)).tuple.mono (by omega) (by omega) (by omega)
      · exact gs.reverse.tuple.mono (by omega) (by omega) (by omega)
      · exact (G3s.one g).tuple.mono (by omega) (by omega) (by omega)
      · exact ((gs.mono (N' := N + 10 ^ 50) (d' := d + 3) (by omega) (Nat.le_refl _) (by omega)).append (G3s.one (gy.mono (by omega) (Nat.le_refl _) (by omega)))).tuple.mono (by omega) (by omega) (by omega)
    exact ⟨_, LK01.o2 z1, ⟨_, rfl, z2⟩, h2⟩
  · refine ⟨_, rfl, _, rfl, ?_⟩
    rw [if_neg (by decide)]
    refine ⟨_, rfl, _, rfl, ?_⟩
    rw [if_neg (by decide)]
    exact odd_end hk h1
theorem chg_flat {v : PyData} (hv : v = .none ∨ ∃ xs, v = .list xs) : RetS (chgR [some (.r k), some (.d v), o2, o3, o4] T0) (fun _ _ => False) (Out3 ns k S N b d) := by
  unfold chgR
  simp only [RetS_cons, RetS_nil, RetS_set, RetS_drop, RetS_ret, RetS_if, RetS_asg, RetS_par, RetS_put, RetS_nx, RetS_rt, Ret_dFn, Ret_dCons, Ret_dNil, Ret_dBin, Ret_dUn, Ret_dCall, Ret_dCallN, Ret_dC, Ret_dG, Ret_dVar, Ret_dIf, Ret_dFz, Ret_dNew, Ret_dLst, Ret_dTup, Ret_dB, Ret_dAndT, Ret_dOrT, Ret_dNotT, Ret_dAnd, Ret_dOr, Ret_dNot, Ret_dIsi, Ret_dChain, Ret_dGet, Ret_dD0, Ret_dNoP, Ret_dPt, Ret_dSlA, Ret_dMeth, Ret_dAny, Ret_dLenSet, Ret_dZip, Ret_dZipL, Ret_dKeys, Ret_dRng1, Ret_dRng2, Ret_dLc, RetS_for, Ret_ok, startW, List.map_cons, List.map_nil, List.length_cons, List.length_nil, List.cons_append, List.nil_append, List.replicate, Nat.sub_self, Nat.reduceSub, Nat.reduceAdd, List.getElem?_cons_zero, List.getElem?_cons_succ, List.set_cons_zero, List.set_cons_succ, Option.some.injEq, exists_eq_left', rd_d, on2_d, on1_d, c1_d, bOf_b, exists_eq_left, Option.map_some, Option.bind_some, W.d.injEq, Ret_gcd, List.take_length, dIx, wipeW]
  refine (draw' hk h (by decide) (by decide)).mono ?_
  rintro _ T1 ⟨⟨x, rfl, x0, x1⟩, h1⟩
  rcases hv with rfl | ⟨xs, rfl⟩
  · refine ⟨_, rfl, _, rfl, ?_⟩
    rw [if_neg (by decide)]
    refine ⟨_, rfl, _, rfl, ?_⟩
    rw [if_neg (by decide)]
    refine ⟨_, rfl, _, rfl, ?_⟩
    rw [if_neg (by decide)]
    exact odd_end hk h1
  · refine ⟨_, rfl, _, rfl, ?_⟩
    rw [if_neg (by decide)]
    refine ⟨_, rfl, _, rfl, ?_⟩
    rw [if_neg (by decide)]
    refine ⟨_, rfl, _, rfl, ?_⟩
    rw [if_neg (by decide)]
    exact odd_end hk h1
theorem chg_str {z : Str} (g : G3 N b d (.str z)) (hb : b ≤ 100000) : RetS (chgR [some (.r k), some (.d (.str z)), o2, o3, o4] T0) (fun _ _ => False) (Out3 ns k S N b d) := by
  unfold chgR
  simp only [RetS_cons, RetS_nil, RetS_set, RetS_drop, RetS_ret, RetS_if, RetS_asg, RetS_par, RetS_put, RetS_nx, RetS_rt, Ret_dFn, Ret_dCons, Ret_dNil, Ret_dBin, Ret_dUn, Ret_dCall, Ret_dCallN, Ret_dC, Ret_dG, Ret_dVar, Ret_dIf, Ret_dFz, Ret_dNew, Ret_dLst, Ret_dTup, Ret_dB, Ret_dAndT, Ret_dOrT, Ret_dNotT, Ret_dAnd, Ret_dOr, Ret_dNot, Ret_dIsi, Ret_dChain, Ret_dGet, Ret_dD0, Ret_dNoP, Ret_dPt, Ret_dSlA, Ret_dMeth, Ret_dAny, Ret_dLenSet, Ret_dZip, Ret_dZipL, Ret_dKeys, Ret_dRng1, Ret_dRng2, Ret_dLc, RetS_for, Ret_ok, startW, List.map_cons, List.map_nil, List.length_cons, List.length_nil, List.cons_append, List.nil_append, List.replicate, Nat.sub_self, Nat.reduceSub, Nat.reduceAdd, List.getElem?_cons_zero, List.getElem?_cons_succ, List.set_cons_zero, List.set_cons_succ, Option.some.injEq, exists_eq_left', rd_d, on2_d, on1_d, c1_d, bOf_b, exists_eq_left, Option.map_some, Option.bind_some, W.d.injEq, Ret_gcd, List.take_length, dIx, wipeW]
  refine (draw' hk h (by decide) (by decide)).mono ?_
  rintro _ T1 ⟨⟨x, rfl, x0, x1⟩, h1⟩
  have hz : signOk z = true := by simpa [okd] using g.g.ok
  have hl : z.length ≤ b := by simpa [PyData.bulk, Str.length] using g.g.bulk
  refine ⟨_, rfl, _, rfl, ?_⟩
  rw [if_neg (by decide)]
  refine ⟨_, rfl, _, rfl, ?_⟩
  rw [if_pos (by decide)]
  refine ⟨_, LK01.o2 (ltP_of (cmp_int _ _)), _, rfl, ?_⟩
  split
  · rename_i hlt
    rw [ltD_int, decide_eq_true_eq] at hlt
    have g0 : ∀ c : Str, signOk c = true → c.length ≤ b + 8 → G3 (N + 10 ^ 50) (2 * b + 100) (d + 4) (.str c) := fun c h1 h2 => ⟨⟨by simpa [okd] using h1, by simp only [PyData.bulk, Str.length] at *; omega, by simp [PyData.depth]⟩, by simp [lo]⟩
    have ap : ∀ c : Str, signOk c = true → c.length ≤ 8 → G3 (N + 10 ^ 50) (2 * b + 100) (d + 4) (.str (z ++ c)) := fun c h1 h2 => g0 _ (by
      unfold signOk at *
      rw [show (z ++ c).cps.toList = z.cps.toList ++ c.cps.toList from TL.tl_append z c, List.all_append, hz, h1]; rfl) (by
      have : (z ++ c).length = z.length + c.length := by
        have := congrArg List.length (TL.tl_append z c)
        rw [List.length_append] at this
        simpa [TL.tl, Str.length] using this
      omega)
    have hs : G3 (N + 10 ^ 50) (2 * b + 100) (d + 4) (.str (Txt.slice z none (some (-1)))) := by
      rw [← C8.cutS_slice]
      refine g0 _ (List.all_eq_true.mpr fun c hc => ?_) ?_
      · exact List.all_eq_true.mp hz c (List.mem_of_mem_drop (List.mem_of_mem_take hc))
      · have : (L2.cutS z none (some (-1))).length ≤ z.length := by
          unfold L2.cutS Str.length
          simp only [List.size_toArray, List.length_take, List.length_drop]
          have : z.cps.toList.length = z.cps.size := Array.length_toList
          omega
        omega
    have hu : G3 (N + 10 ^ 50) (2 * b + 100) (d + 4) (.str (Txt.upper z)) := by
      rw [PyProof.Rows.upper_ascii (x := z) (signs_lt hz)]
      refine g0 _ (List.all_eq_true.mpr fun c hc => ?_) ?_
      · obtain ⟨u, hu, rfl⟩ := List.mem_map.mp (show c ∈ z.cps.toList.map PyProof.Rows.up1 by simpa using hc)
        have := signs_lt hz u hu
        unfold PyProof.Rows.up1
        refine decide_eq_true ?_
        split <;> omega
      · simp only [Str.length, Array.size_map] at *; omega
    have sm : small z.length = true := small_of (m := 100000) (by omega)
    obtain ⟨y, y1, y2⟩ := pick (P := G3 (N + 10 ^ 50) (2 * b + 100) (d + 4)) (l := [.str (z ++ "a"), .str (Txt.slice z none (some (-1))), .str (Txt.upper z), .str (z ++ " "), .list [.str z], .str (z ++ "abcdefgh")]) x0 hlt fun y hy => by
      simp only [List.mem_cons, List.not_mem_nil, or_false] at hy
      rcases hy with rfl | rfl | rfl | rfl | rfl | rfl
      · exact ap _ (by decide +kernel) (by decide +kernel)
      · exact hs
      · exact hu
      · exact ap _ (by decide +kernel) (by decide +kernel)
      · exact (G3s.one g).list.mono (by omega) (by omega) (by omega)
      · exact ap _ (by decide +kernel) (by decide +kernel)
    refine ⟨_, addS (by rw [show ("a" : Str).length = 1 by decide +kernel]; omega), _, rfl, _, rfl, .str (Txt.slice z none (some (-1))), ?_, rfl, .d (.str (Txt.upper z)), T1, ?_, _, addS (by rw [show (" " : Str).length = 1 by decide +kernel]; omega), _, rfl, _, addS (by rw [show ("abcdefgh" : Str).length = 8 by decide +kernel]; omega), _, rfl, _, LK01.o2 y1, ⟨_, rfl, y2⟩, h1⟩
    · show (if small z.length = true then some (PyData.str (Txt.slice z none (some (-1)))) else none) = _
      rw [if_pos sm]
    · show ((if z.length ≤ 5000000 then some (PyData.str (Txt.upper z)) else none).map fun y => (W.d y, T1)) = _
      rw [if_pos (by omega)]; rfl
  · refine ⟨_, rfl, _, rfl, ?_⟩
    rw [if_neg (by decide)]
    exact odd_end hk h1
theorem chg_num {v : PyData} {i : Int} (hv : v = .int i ∨ ∃ c, v = .bool c ∧ i = if c = true then 1 else 0) (g : G3 N b d v) (hN : N ≤ 10 ^ 60) : RetS (chgR [some (.r k), some (.d v), o2, o3, o4] T0) (fun _ _ => False) (Out3 ns k S N b d) := by
  unfold chgR
  simp only [RetS_cons, RetS_nil, RetS_set, RetS_drop, RetS_ret, RetS_if, RetS_asg, RetS_par, RetS_put, RetS_nx, RetS_rt, Ret_dFn, Ret_dCons, Ret_dNil, Ret_dBin, Ret_dUn, Ret_dCall, Ret_dCallN, Ret_dC, Ret_dG, Ret_dVar, Ret_dIf, Ret_dFz, Ret_dNew, Ret_dLst, Ret_dTup, Ret_dB, Ret_dAndT, Ret_dOrT, Ret_dNotT, Ret_dAnd, Ret_dOr, Ret_dNot, Ret_dIsi, Ret_dChain, Ret_dGet, Ret_dD0, Ret_dNoP, Ret_dPt, Ret_dSlA, Ret_dMeth, Ret_dAny, Ret_dLenSet, Ret_dZip, Ret_dZipL, Ret_dKeys, Ret_dRng1, Ret_dRng2, Ret_dLc, RetS_for, Ret_ok, startW, List.map_cons, List.map_nil, List.length_cons, List.length_nil, List.cons_append, List.nil_append, List.replicate, Nat.sub_self, Nat.reduceSub, Nat.reduceAdd, List.getElem?_cons_zero, List.getElem?_cons_succ, List.set_cons_zero, List.set_cons_succ, Option.some.injEq, exists_eq_left', rd_d, on2_d, on1_d, c1_d, bOf_b, exists_eq_left, Option.map_some, Option.bind_some, W.d.injEq, Ret_gcd, List.take_length, dIx, wipeW]
  refine (draw' hk h (by decide) (by decide)).mono ?_
  rintro _ T1 ⟨⟨x, rfl, x0, x1⟩, h1⟩
  have hi : i.natAbs ≤ N + 1 := by
    rcases hv with rfl | ⟨c, rfl, rfl⟩
    · have := g.i
      simp only [lo, decide_eq_true_eq] at this
      omega
    · split <;> simp
  have gI : ∀ j : Int, j.natAbs ≤ N + 2 → G3 (N + 10 ^ 50) (2 * b + 100) (d + 4) (.int j) := fun j hj => ⟨⟨by simp only [okd, decide_eq_true_eq]; omega, by simp [PyData.bulk], by simp [PyData.depth]⟩, by simp only [lo, decide_eq_true_eq]; omega⟩
  have gB : ∀ c : Bool, G3 (N + 10 ^ 50) (2 * b + 100) (d + 4) (.bool c) := fun c => ⟨⟨by simp [okd], by simp [PyData.bulk], by simp [PyData.depth]⟩, by simp [lo]⟩
  have gT : ∀ t : Str, signOk t = true → t.length ≤ 80 → G3 (N + 10 ^ 50) (2 * b + 100) (d + 4) (.str t) := fun t h1 h2 => ⟨⟨by simpa [okd] using h1, by simp only [PyData.bulk, Str.length] at *; omega, by simp [PyData.depth]⟩, by simp [lo]⟩
  have fin : ∀ t : Str, signOk t = true → t.length ≤ 80 → ∀ c : Bool, ∀ y ∈ five i c t v, G3 (N + 10 ^ 50) (2 * b + 100) (d + 4) y := by
    intro t t1 t2 c y hy
    simp only [five, List.mem_cons, List.not_mem_nil, or_false] at hy
    rcases hy with rfl | rfl | rfl | rfl | rfl
    · exact gI _ (by omega)
    · exact gI _ (by omega)
    · exact gB _
    · exact gT _ t1 t2
    · exact (G3s.one g).list.mono (by omega) (by omega) (by omega)
  rcases hv with rfl | ⟨c, rfl, rfl⟩
  · refine ⟨_, rfl, _, rfl, ?_⟩
    rw [if_neg (by decide)]
    refine ⟨_, rfl, _, rfl, ?_⟩
    rw [if_neg (by decide)]
    refine ⟨_, rfl, _, rfl, ?_⟩
    rw [if_pos (by decide)]
    refine ⟨_, LK01.o2 (ltP_of (cmp_int _ _)), _, rfl, ?_⟩
    split
    · rename_i hlt
      rw [ltD_int, decide_eq_true_eq] at hlt
      obtain ⟨t1, t2⟩ := int_short (i := i) (by omega)
      obtain ⟨y, y1, y2⟩ := pick (l := five i (decide (i = 1)) (toString i) (.int i)) x0 hlt (fin (toString i) (sign_int i) t1 (decide (i = 1)))
      refine ⟨_, rfl, _, rfl, _, LK01.o2 (S := T1) (eq_int _ _), .d (.str (toString i)), ?_, _, rfl, _, rfl, _, LK01.o2 y1, ⟨_, rfl, y2⟩, h1⟩
      show (if i.natAbs.log2 < 1920 then some (PyData.str (toString i)) else none).map W.d = _
      rw [if_pos t2]; rfl
    · exact odd_end hk h1
  · refine ⟨_, rfl, _, rfl, ?_⟩
    rw [if_neg (by decide)]
    refine ⟨_, rfl, _, rfl, ?_⟩
    rw [if_neg (by decide)]
    refine ⟨_, rfl, _, rfl, ?_⟩
    rw [if_pos (by decide)]
    refine ⟨_, LK01.o2 (ltP_of (cmp_int _ _)), _, rfl, ?_⟩
    split
    · rename_i hlt
      rw [ltD_int, decide_eq_true_eq] at hlt
      obtain ⟨y, y1, y2⟩ := pick (l := five (if c = true then 1 else 0) (PyData.eqv (.bool c) (.int 1)) (if c = true then "True" else "False") (.bool c)) x0 hlt (fin (if c = true then "True" else "False") (by cases c <;> decide +kernel) (by cases c <;> decide +kernel) (PyData.eqv (.bool c) (.int 1)))
      refine ⟨_, rfl, _, rfl, _, LK01.o2 (S := T1) (show eqP (.bool c) (.int 1) = some (.bool (PyData.eqv (.bool c) (.int 1))) by cases c <;> rfl), _, rfl, _, rfl, _, rfl, _, LK01.o2 y1, ⟨_, rfl, y2⟩, h1⟩
    · exact odd_end hk h1
end
theorem bulk_at {xs : List PyData} {j : Nat} (h : j < xs.length) : PyData.bulkAll (xs.take j) + (xs[j].bulk + 1) + PyData.bulkAll (xs.drop (j + 1)) = PyData.bulkAll xs := by
  have e : xs = xs.take j ++ (xs[j] :: xs.drop (j + 1)) := by rw [← List.drop_eq_getElem_cons h, List.take_append_drop]
  have := congrArg PyData.bulkAll e
  rw [bulk_append] at this
  simp only [PyData.bulkAll] at this
  omega
theorem changed_ok {S : So} {k : Nat} {ns : List Int} (hk : k < S.length) : ∀ (n N b d : Nat) (v : PyData) (T0 : So), d < n → d ≤ 60 → b ≤ 100000 → N ≤ 10 ^ 60 → G3 N b d v → Rdr ns k S T0 → Ret (f_l_changed n [.r k, .d v] T0) (Out3 ns k S N b d)
  | 0, _, _, _, _, _, h, _, _, _, _, _ => absurd h (by omega)
  | n + 1, N, b, d, v, T0, hn, hd, hb, hN, g, h => by
    have base : ∀ {o2 o3 o4 : Option W} {T1 : So}, Rdr ns k S T1 → RetS (chgR [some (.r k), some (.d v), o2, o3, o4] T1) (fun _ _ => False) (Out3 ns k S N b d) := by
      intro o2 o3 o4 T1 h1
      cases v with
      | none => exact chg_flat hk h1 (.inl rfl)
      | bool c => exact chg_num hk h1 (.inr ⟨c, rfl, rfl⟩) g hN
      | int i => exact chg_num hk h1 (.inl rfl) g hN
      | str z => exact chg_str hk h1 g hb
      | list xs => exact chg_flat hk h1 (.inr ⟨xs, rfl⟩)
      | tuple xs => exact chg_tup hk h1 g (by have := g.g.depth; simp only [PyData.depth] at this; omega) hb
      | dict _ => exact absurd g.g.ok (by simp [okd])
    have base' : ∀ {o2 o3 o4 : Option W} {T1 : So}, Rdr ns k S T1 → RetS (chgR [some (.r k), some (.d v), o2, o3, o4] T1) (fun _ S' => Out3 ns k S N b d (.d .none) (S'.take T0.length)) (fun w S' => Ret (gc T0.length w S') (Out3 ns k S N b d)) := fun h1 => (base h1).mono (fun _ _ q => q.elim) fun w T ⟨⟨y, e, gy⟩, r⟩ => by
      subst e
      rw [Ret_gcd, rdr_takeS r h]
      exact ⟨⟨y, rfl, gy⟩, r⟩
    refine Ret_fnB rfl ?_
    have e : b_l_changed (f_l_changed n) = sCons (sIf (dAndT (dB (dIsi "tuple" (dVar 1))) (dAndT (dB (dBin (on2 neP) (dVar 1) (dTup dNil))) (dB (dBin (on2 (i2 gtI)) (dFn f_l_draw (dCons (dVar 0) (dCons (dC (.int 4)) dNil))) (dC (.int 0)))))) (sCons (sSet 2 (dFn f_l_draw (dCons (dVar 0) (dCons (dCall (c1 lenP) (dCons (dVar 1) dNil)) dNil))))
      (sCons (sRet (dBin addW (dBin addW (dSlA (dVar 1) dNoP (dPt (dVar 2))) (dTup (dCons (dFn (f_l_changed n) (dCons (dVar 0) (dCons (dIx (dVar 1) (dVar 2)) dNil))) dNil))) (dSlA (dVar 1) (dPt (dBin addW (dVar 2) (dC (.int 1)))) dNoP)))
      sNil)) sNil) chgR := rfl
    rw [e]
    rw [RetS_cons, RetS_if]
    simp only [RetS_cons, RetS_nil, RetS_set, RetS_drop, RetS_ret, RetS_if, RetS_asg, RetS_par, RetS_put, RetS_nx, RetS_rt, Ret_dFn, Ret_dCons, Ret_dNil, Ret_dBin, Ret_dUn, Ret_dCall, Ret_dCallN, Ret_dC, Ret_dG, Ret_dVar, Ret_dFz, Ret_dNew, Ret_dLst, Ret_dTup, Ret_dB, Ret_dAndT, Ret_dOrT, Ret_dNotT, Ret_dAnd, Ret_dOr, Ret_dNot, Ret_dIsi, Ret_dChain, Ret_dGet, Ret_dD0, Ret_dNoP, Ret_dPt, Ret_dSlA, Ret_dMeth, Ret_dAny, Ret_dLenSet, Ret_dZip, Ret_dZipL, Ret_dKeys, Ret_dRng1, Ret_dRng2, Ret_dLc, RetS_for, Ret_ok, startW, List.map_cons, List.map_nil, List.length_cons, List.length_nil, List.cons_append, List.nil_append, List.replicate, Nat.sub_self, Nat.reduceSub, Nat.reduceAdd, List.getElem?_cons_zero, List.getElem?_cons_succ, List.set_cons_zero, List.set_cons_succ, Option.some.injEq, exists_eq_left', rd_d, on2_d, on1_d, c1_d, bOf_b, exists_eq_left, Option.map_some, Option.bind_some, W.d.injEq, Ret_gcd, List.take_length, dIx, wipeW]
    by_cases hv : ∃ xs, v = .tuple xs
    · obtain ⟨xs, rfl⟩ := hv
      refine ⟨_, rfl, _, rfl, ?_⟩
      rw [if_pos (by decide)]
      cases xs with
      | nil =>
        refine ⟨_, rfl, _, rfl, _, rfl, ?_⟩
        rw [if_neg (by decide), if_neg (by decide)]
        exact base' h
      | cons x0 r =>
        have ne : neP (.tuple (x0 :: r)) (.tuple []) = some (.bool true) := by
          unfold neP
          rw [g.g.okD (by omega), show okD (.tuple []) = true by decide +kernel]
          simp [PyData.eqv, PyData.eqvAll]
        refine ⟨_, rfl, _, om ne, _, rfl, ?_⟩
        rw [if_pos rfl]
        refine (draw' hk h (by decide) (by decide)).mono ?_
        rintro _ T1 ⟨⟨q, rfl, q0, q1⟩, h1⟩
        refine ⟨_, rfl, _, rfl, ?_⟩
        split
        · generalize hxs : x0 :: r = xs at *
          have hlen : 0 < xs.length := by rw [← hxs]; simp
          have gs := g.ofTuple
          have hl : xs.length ≤ 100000 := Nat.le_trans gs.g.len hb
          refine ⟨_, rfl, (draw' hk h1 (by omega) (by omega)).mono ?_⟩
          rintro _ T2 ⟨⟨j, rfl, j0, j1⟩, h2⟩
          obtain ⟨j, rfl⟩ : ∃ i : Nat, j = (i : Int) := ⟨j.toNat, by omega⟩
          have hj : j < xs.length := by omega
          have gj : G3 N xs[j].bulk (d - 1) xs[j] := by
            have hm := List.getElem_mem hj
            exact ⟨⟨(gs.g.mem hm).ok, Nat.le_refl _, (gs.g.mem hm).depth⟩, los_iff.mp gs.i _ hm⟩
          have hbk := bulk_at hj
          have hbb := gs.g.bulk
          have dpos : 1 ≤ d := by have := g.g.depth; simp only [PyData.depth] at this; omega
          have eat : atP (.tuple xs) (.int j) = some xs[j] := by
            refine (at_nat (xs := xs) (by omega) (by omega)).trans ?_
            simp [hj]
          refine ⟨_, rfl, _, rfl, _, LK01.o2 eat, ?_⟩
          refine (changed_ok hk n N xs[j].bulk (d - 1) xs[j] T2 (by omega) (by omega) (by omega) hN gj h2).mono ?_
          rintro _ T3 ⟨⟨y, rfl, gy⟩, h3⟩
          have cut0 : cutG xs none (some (j : Int)) = xs.take j := by
            unfold cutG
            rw [HT.sIx_none, HT.sIx_nat, show min j xs.length = j by omega]; simp
          have cut1 : cutG xs (some ((j : Int) + 1)) none = xs.drop (j + 1) := by
            unfold cutG
            rw [HT.sIx_none, show ((j : Int) + 1) = ((j + 1 : Nat) : Int) by omega, HT.sIx_nat, show min (j + 1) xs.length = j + 1 by omega]
            exact List.take_of_length_le (by simp)
          refine ⟨_, rfl, .d (.tuple (xs.take j ++ [y])), ?_, .d (.int ((j : Int) + 1)), rfl, _, rfl, _, rfl, .d (.tuple ((xs.take j ++ [y]) ++ xs.drop (j + 1))), ?_, ?_⟩
          · rw [cut0]; exact addT' (by simp; omega)
          · rw [cut1]; exact addT' (by simp; omega)
          · rw [Ret_gcd, rdr_takeS h3 h]
            refine ⟨⟨_, rfl, ?_⟩, h3⟩
            have e1 : G3s N (PyData.bulkAll (xs.take j)) (d - 1) (xs.take j) := ⟨⟨(gs.g.take j).ok, Nat.le_refl _, (gs.g.take j).depth⟩, los_iff.mpr fun x hx => los_iff.mp gs.i x (List.mem_of_mem_take hx)⟩
            have e2 : G3s N (PyData.bulkAll (xs.drop (j + 1))) (d - 1) (xs.drop (j + 1)) := ⟨⟨(gs.g.drop _).ok, Nat.le_refl _, (gs.g.drop _).depth⟩, los_iff.mpr fun x hx => los_iff.mp gs.i x (List.mem_of_mem_drop hx)⟩
            have m1 := e1.mono (N' := N + 10 ^ 50) (d' := d - 1 + 4) (by omega) (Nat.le_refl _) (by omega)
            have m2 := e2.mono (N' := N + 10 ^ 50) (d' := d - 1 + 4) (by omega) (Nat.le_refl _) (by omega)
            exact ((m1.append (G3s.one gy)).append m2).tuple.mono (Nat.le_refl _) (by omega) (by omega)
        · exact base' h1
    · refine ⟨.bool false, ?_, false, rfl, ?_⟩
      · cases v with
        | tuple xs => exact absurd ⟨xs, rfl⟩ hv
        | dict _ => exact absurd g.g.ok (by simp [okd])
        | _ => rfl
      · rw [if_neg (by decide), if_neg (by decide)]
        exact base' h
end LK01
end

section
/-! part LM01g -/
set_option Elab.async false
set_option linter.all false
set_option maxRecDepth 100000
set_option maxHeartbeats 1000000
/-! LM01g: the fixed values, the reader. -/
open CL
open PySem PySem.Spec PyProof.Rows L2
namespace LK01
def listOf (m : M W) : List PyData := match m with
  | some (.ok (.d (.list xs)) _) => xs
  | _ => []
def fixedL : List PyData := listOf (f_l_fixed_values [] [])
theorem fixed_ok (S : So) : f_l_fixed_values [] S = some (.ok (.d (.list fixedL)) (S.take S.length)) := by rfl
theorem fixed_gd : ∀ x ∈ fixedL, Gv x := by
  have : fixedL.all (gdB 200000 40) = true := by decide +kernel
  exact fun x hx => gdB_of (List.all_eq_true.mp this x hx)
theorem fixed_len : fixedL.length ≤ 1000 := by decide +kernel
end LK01
end

section
/-! part LM01h -/
set_option Elab.async false
set_option linter.all false
set_option maxRecDepth 100000
set_option maxHeartbeats 4000000
/-! LM01h: the long values. -/
open CL
open PySem PySem.Spec PyProof.Rows L2
namespace LK01
def listOf2 (m : M W) : List PyData := match m with
  | some (.ok (.d (.list xs)) _) => xs
  | _ => []
def longL : List PyData := listOf2 (f_l_long_values [] [])
theorem long_gd : ∀ x ∈ longL, Gv x := by
  have : longL.all (gdB 200000 40) = true := by decide +kernel
  exact fun x hx => gdB_of (List.all_eq_true.mp this x hx)
theorem long_len : longL.length ≤ 1000 := by decide +kernel
theorem long_ok (S : So) : f_l_long_values [] S = some (.ok (.d (.list longL)) (S.take S.length)) := by rfl
end LK01
end

section
/-! part LM01i -/
set_option Elab.async false
set_option linter.all false
set_option maxRecDepth 100000
set_option maxHeartbeats 1000000
/-! LM01i: the reader. -/
open CL
open PySem PySem.Spec PyProof.Rows L2
namespace LK01
theorem cut63 {xs : List PyData} (h : xs.length ≤ 63) : cutG xs none (some 63) = xs := by
  unfold cutG
  rw [HT.sIx_none, show (63 : Int) = ((63 : Nat) : Int) from rfl, HT.sIx_nat, show min 63 xs.length = xs.length by omega]
  simp
theorem reader_ok {ns : List Int} (h : ns.length ≤ 63) : f_l_reader [.s (ns.map PyData.int)] [] = some (.ok (.r 0) [rdO ns 0 0 0]) := by
  have h2 := cut63 (xs := ns.map PyData.int) (by simpa using h)
  refine Ret.eq (Ret_fnB rfl ?_)
  unfold b_l_reader
  have e : (dFz (dCallN listG (dCons (dSlA (dVar 0) dNoP (dPt (dC (.int 63)))) dNil)) : DE) (startW 1 [.s (ns.map PyData.int)]) (withDk []) = some (.ok (.d (.list (cutG (ns.map PyData.int) none (some 63)))) (withDk [])) := rfl
  rw [h2] at e
  have e2 : (dDisp [("cells", (dFz (dCallN listG (dCons (dSlA (dVar 0) dNoP (dPt (dC (.int 63)))) dNil)))), ("next", (dC (.int 0))), ("rest", (dC (.int 0))), ("draws", (dC (.int 0)))]) (startW 1 [.s (ns.map PyData.int)]) [] = some (.ok (.r 0) [rdO ns 0 0 0]) := by
    unfold dDisp dPs
    simp only [List.length_nil] at *
    rw [show (dFz (dCallN listG (dCons (dSlA (dVar 0) dNoP (dPt (dC (.int 63)))) dNil)) : DE) (startW 1 [.s (ns.map PyData.int)]) (withDk []) = _ from e]
    rfl
  rw [RetS_cons, RetS_ret, e2]
  exact ⟨rfl, rfl⟩
end LK01
end

section
/-! part LM01j -/
set_option Elab.async false
set_option linter.all false
set_option maxRecDepth 100000
set_option maxHeartbeats 2000000
/-! LM01j: the law. -/
open CL
open PySem PySem.Spec PyProof.Rows L2
namespace LK01
theorem g3v {N b d : Nat} {x : PyData} (h : G3 N b d x) (hb : b ≤ 200000) (hd : d ≤ 40) : Gv x := h.g.mono hb hd
/-- the value that the turns change -/
abbrev G5 (x : PyData) : Prop := G3 10 10000 5 x ∧ ∃ xs, x = .tuple xs
def inn (x : PyData) : Option PyData := inP false x (.tuple [.str "yes", .str "no"])
theorem inn_ok {x : PyData} (h : Gv x) : inn x = some (.bool (answerB x)) := by
  have ho := h.okD (by decide)
  have hk : okD (.tuple [.str "yes", .str "no"]) = true := by decide +kernel
  have hp := pl_of x h.ok
  unfold inn
  cases x with
  | str z => simp [inP, ho, hk, memD, PyData.eqv, answerB]
  | dict _ => simp [plD] at hp
  | _ => simp [inP, ho, hk, memD, PyData.eqv, answerB]
theorem eight (b1 b2 b3 b4 b5 b6 b7 b8 : Bool) : ∃ z, reprP (.list [.bool b1, .bool b2, .bool b3, .bool b4, .bool b5, .bool b6, .bool b7, .bool b8]) = some (.str z) ∧ signOk z = true := by
  have g : Gd 8 1 (.list [.bool b1, .bool b2, .bool b3, .bool b4, .bool b5, .bool b6, .bool b7, .bool b8]) := ⟨by simp [okd, okds], by simp [PyData.bulk, PyData.bulkAll], by simp [PyData.depth, PyData.depthAll]⟩
  exact ⟨_, g.repr (by decide) (by decide), sign_shown _ g.ok⟩
theorem check_ok {x : PyData} (h : Gv x) {o0 o1 o2 o3 o4 o5 o6 o7 o9 o10 o11 o12 : Option W} (S : So) : RetS ((sCons (sSet 10 (dCall (c1 reprP) (dCons (dVar 8) dNil)))
      (sCons (sSet 11 (dFz (dLst (dCons (dFn f_l_is_number (dCons (dVar 8) dNil)) (dCons (dFn f_l_is_name (dCons (dVar 8) dNil)) (dCons (dFn f_l_is_pair (dCons (dVar 8) dNil)) (dCons (dFn f_l_is_scope (dCons (dVar 8) dNil)) dNil)))))))
      (sCons (sSet 11 (dBin addW (dVar 11) (dFz (dLst (dCons (dFn f_l_is_coin (dCons (dVar 8) dNil)) (dCons (dFn f_l_are_coins (dCons (dVar 8) dNil)) (dCons (dBin (on2 (inP false)) (dVar 8) (dTup (dCons (dC (.str "yes")) (dCons (dC (.str "no")) dNil)))) dNil)))))))
      (sCons (sSet 11 (dBin addW (dVar 11) (dFz (dLst (dCons (dFn f_l_is_shape (dCons (dVar 8) dNil)) dNil)))))
      (sCons (sSet 12 (dFz (dLst (dCons (dFn f_is_number (dCons (dVar 8) dNil)) (dCons (dFn f_is_name (dCons (dVar 8) dNil)) (dCons (dFn f_is_pair (dCons (dVar 8) dNil)) (dCons (dFn f_is_scope (dCons (dVar 8) dNil)) (dCons (dFn f_is_coin (dCons (dVar 8) dNil)) dNil))))))))
      (sCons (sSet 12 (dBin addW (dVar 12) (dFz (dLst (dCons (dFn f_are_coins (dCons (dVar 8) dNil)) dNil)))))
      (sCons (sIf (dOrT (dB (dBin (on2 neP) (dCall (c1 reprP) (dCons (dBin addW (dVar 12) (dFz (dLst (dCons (dFn f_is_answer (dCons (dVar 8) dNil)) (dCons (dFn f_is_table_shape (dCons (dVar 8) dNil)) dNil))))) dNil)) (dCall (c1 reprP) (dCons (dVar 11) dNil)))) (dB (dBin (on2 neP) (dCall (c1 reprP) (dCons (dVar 8) dNil)) (dVar 10)))) (sCons (sRet (dC (.bool false)))
      sNil) sNil)
      sNil)))))))
      [o0, o1, o2, o3, o4, o5, o6, o7, some (.d x), o9, o10, o11, o12] S) (fun σ T => (∃ p9 p10 p11 p12, σ = [o0, o1, o2, o3, o4, o5, o6, o7, some (.d x), p9, p10, p11, p12]) ∧ T = S) (fun _ _ => False) := by
  have hr := h.repr (by decide) (by decide)
  obtain ⟨z, hz, hs⟩ := eight (numB x) (nameB x) (pairB x) (scopeB x) (coinB x) (coinsB x) (answerB x) (shapeB x)
  simp only [RetS_cons, RetS_nil, RetS_set, RetS_drop, RetS_ret, RetS_if, RetS_asg, RetS_par, RetS_put, RetS_nx, RetS_rt, Ret_dFn, Ret_dCons, Ret_dNil, Ret_dBin, Ret_dUn, Ret_dCall, Ret_dCallN, Ret_dC, Ret_dG, Ret_dVar, Ret_dIf, Ret_dFz, Ret_dNew, Ret_dLst, Ret_dTup, Ret_dB, Ret_dAndT, Ret_dOrT, Ret_dNotT, Ret_dAnd, Ret_dOr, Ret_dNot, Ret_dIsi, Ret_dChain, Ret_dGet, Ret_dD0, Ret_dNoP, Ret_dPt, Ret_dSlA, Ret_dMeth, Ret_dAny, Ret_dLenSet, Ret_dZip, Ret_dZipL, Ret_dKeys, Ret_dRng1, Ret_dRng2, Ret_dLc, RetS_for, Ret_ok, startW, List.map_cons, List.map_nil, List.length_cons, List.length_nil, List.cons_append, List.nil_append, List.replicate, Nat.sub_self, Nat.reduceSub, Nat.reduceAdd, List.getElem?_cons_zero, List.getElem?_cons_succ, List.set_cons_zero, List.set_cons_succ, Option.some.injEq, exists_eq_left', rd_d, on2_d, on1_d, c1_d, bOf_b, exists_eq_left, Option.map_some, Option.bind_some, W.d.injEq, Ret_gcd, List.take_length, dIx, wipeW]
  refine ⟨_, om hr, ?_⟩
  refine Ret.of (l_number_ok S h) (Ret.of (l_name_ok S h) (Ret.of (l_pair_ok S h) (Ret.of (l_scope_ok S h) ⟨_, rfl, ?_⟩)))
  refine Ret.of (l_coin_ok S h) (Ret.of (l_coins_ok S h) ⟨_, rfl, _, om (inn_ok h), _, rfl, _, rfl, ?_⟩)
  refine Ret.of (l_shape_ok S h) ⟨_, rfl, _, rfl, ?_⟩
  refine Ret.of (is_number_ok S h) (Ret.of (is_name_ok S h) (Ret.of (is_pair_ok S h) (Ret.of (is_scope_ok S h) (Ret.of (is_coin_ok S h) ⟨_, rfl, ?_⟩))))
  refine Ret.of (are_coins_ok S h) ⟨_, rfl, _, rfl, ?_⟩
  refine Ret.of (is_answer_ok S h) (Ret.of (is_table_shape_ok S h) ⟨_, rfl, _, rfl, _, om hz, _, om hz, _, om (ne_self hs), _, rfl, ?_⟩)
  rw [if_neg (by decide)]
  refine ⟨_, om hr, _, om (ne_self (sign_shown x h.ok)), _, rfl, ?_⟩
  rw [if_neg (by decide)]
  exact ⟨⟨_, _, _, _, rfl⟩, rfl⟩
end LK01
end

section
/-! part LM01k -/
set_option Elab.async false
set_option linter.all false
set_option maxRecDepth 100000
set_option maxHeartbeats 2000000
/-! LM01k: the law's turns and its end. -/
open CL
open PySem PySem.Spec PyProof.Rows L2
namespace LK01
theorem row_lo {n N : Nat} {r : PyData} (h : Row n r) : lo N r = true := by
  obtain ⟨ws, rfl, _, hw⟩ := h
  simp only [lo]
  exact los_iff.mpr fun x hx => by obtain ⟨z, rfl, _⟩ := hw x hx; simp [lo]
theorem row_g3 {n N : Nat} {r : PyData} (h : Row n r) : G3 N (n * 9) 1 r := ⟨row_gd h, row_lo h⟩
theorem rows_g3 {n N : Nat} {rs : List PyData} (h : ∀ r ∈ rs, Row n r) : G3s N (rs.length * (n * 9 + 1)) 1 rs := ⟨Gds.of_mem fun x hx => row_gd (h x hx), los_iff.mpr fun x hx => row_lo (h x hx)⟩
theorem tab_g3 {n : Nat} {g : PyData} (h : Tab n g) (hn : n ≤ 4) : G5 g := by
  obtain ⟨hs, rs, rfl, l1, h1, _, l2, h2⟩ := h
  refine ⟨?_, _, rfl⟩
  have a : G3 10 36 1 (.tuple hs) := (row_g3 ⟨hs, rfl, l1, h1⟩).mono (Nat.le_refl _) (by omega) (Nat.le_refl _)
  have b := (rows_g3 (N := 10) h2).tuple
  have hm : rs.length * (n * 9 + 1) ≤ 20 * 37 := Nat.mul_le_mul l2 (by omega)
  have b := b.mono (N' := 10) (b' := 740) (d' := 2) (Nat.le_refl _) (by omega) (Nat.le_refl _)
  exact ((G3s.one (a.mono (d' := 2) (Nat.le_refl _) (Nat.le_refl _) (by decide))).append (G3s.one b)).tuple.mono (Nat.le_refl _) (by omega) (by omega)
theorem pairs_g3 {ps : List PyData} (h : ∀ p ∈ ps, Row 2 p) (hl : ps.length ≤ 80) : G3 10 1520 2 (.tuple ps) :=
  (rows_g3 (N := 10) h).tuple.mono (Nat.le_refl _) (by omega) (Nat.le_refl _)
theorem coin_g3 {i : Int} {ps : List PyData} (hi : i.natAbs ≤ 10) (h : ∀ p ∈ ps, Row 2 p) (hl : ps.length ≤ 80) : G3 10 1530 3 (.tuple [.int i, .tuple ps]) := by
  have a : G3 10 0 2 (.int i) := ⟨⟨by simp only [okd, decide_eq_true_eq]; omega, by simp [PyData.bulk], by simp [PyData.depth]⟩, by simp only [lo, decide_eq_true_eq]; omega⟩
  exact ((G3s.one a).append (G3s.one (pairs_g3 h hl))).tuple.mono (Nat.le_refl _) (by omega) (Nat.le_refl _)
theorem law_true (ns : List Int) (hn : ns.length ≤ 63) : Ret (f_law [.s (ns.map PyData.int)] []) fun w _ => w = .d (.bool true) := by
  refine Ret_fnB rfl ?_
  unfold b_law
  have hk : 0 < [rdO ns 0 0 0].length := by simp
  have r0 : Rdr ns 0 [rdO ns 0 0 0] [rdO ns 0 0 0] := ⟨0, 0, 0, rfl⟩
  generalize eS : [rdO ns 0 0 0] = S at hk r0
  rw [RetS_cons]
  simp only [RetS_cons, RetS_nil, RetS_set, RetS_drop, RetS_ret, RetS_if, RetS_asg, RetS_par, RetS_put, RetS_nx, RetS_rt, Ret_dFn, Ret_dCons, Ret_dNil, Ret_dBin, Ret_dUn, Ret_dCall, Ret_dCallN, Ret_dC, Ret_dG, Ret_dVar, Ret_dIf, Ret_dFz, Ret_dNew, Ret_dLst, Ret_dTup, Ret_dB, Ret_dAndT, Ret_dOrT, Ret_dNotT, Ret_dAnd, Ret_dOr, Ret_dNot, Ret_dIsi, Ret_dChain, Ret_dGet, Ret_dD0, Ret_dNoP, Ret_dPt, Ret_dSlA, Ret_dMeth, Ret_dAny, Ret_dLenSet, Ret_dZip, Ret_dZipL, Ret_dKeys, Ret_dRng1, Ret_dRng2, Ret_dLc, RetS_for, Ret_ok, startW, List.map_cons, List.map_nil, List.length_cons, List.length_nil, List.cons_append, List.nil_append, List.replicate, Nat.sub_self, Nat.reduceSub, Nat.reduceAdd, List.getElem?_cons_zero, List.getElem?_cons_succ, List.set_cons_zero, List.set_cons_succ, Option.some.injEq, exists_eq_left', rd_d, on2_d, on1_d, c1_d, bOf_b, exists_eq_left, Option.map_some, Option.bind_some, W.d.injEq, Ret_gcd, List.take_length, dIx, wipeW]
  refine Ret.of (reader_ok hn) ?_
  rw [eS]
  refine Ret.of (fixed_ok S) ?_
  rw [List.take_length]
  refine Ret.of (long_ok S) ?_
  rw [List.take_length]
  have hv0 : ∀ x ∈ fixedL ++ longL, Gv x := fun x hx => (List.mem_append.mp hx).elim (fixed_gd x) (long_gd x)
  have hl0 : (fixedL ++ longL).length ≤ 2000 := by
    have := fixed_len
    have := long_len
    rw [List.length_append]; omega
  refine ⟨.d (.list (fixedL ++ longL)), ?_, _, rfl, by decide, ?_⟩
  · show (if small (fixedL.length + longL.length) = true then some (PyData.list (fixedL ++ longL)) else none).map W.d = _
    rw [if_pos (small_of (m := 2000) (by rw [List.length_append] at hl0; exact hl0))]; rfl
  refine for_inv (fun j σ T => (∃ (vs : List PyData) (o3 o4 o5 o6 o7 o8 o9 o10 o11 o12 : Option W), σ = [some (.s (ns.map PyData.int)), some (.r 0), some (.d (.list vs)), o3, o4, o5, o6, o7, o8, o9, o10, o11, o12] ∧ (∀ x ∈ vs, Gv x) ∧ vs.length ≤ 2000 + 30 * j) ∧ Rdr ns 0 S T) (rng 0 5) 0 _ _ ⟨⟨_, _, _, _, _, _, _, _, _, _, _, rfl, hv0, hl0⟩, r0⟩ ?_ ?_
  · rintro σ T ⟨⟨vs, o3, o4, o5, o6, o7, o8, o9, o10, o11, o12, rfl, hv, hl⟩, hr⟩
    refine ⟨_, rfl, _, rfl, ?_⟩
    refine for_inv (fun _ σ _ => ∃ p8 p9 p10 p11 p12, σ = [some (.s (ns.map PyData.int)), some (.r 0), some (.d (.list vs)), o3, o4, o5, o6, o7, p8, p9, p10, p11, p12]) vs 0 _ _ ⟨_, _, _, _, _, rfl⟩ (fun _ _ _ => trivial) ?_
    rintro j x σ T1 hx ⟨p8, p9, p10, p11, p12, rfl⟩
    refine ⟨_, rfl, ?_⟩
    exact (check_ok (hv x (List.mem_of_getElem? hx)) T1).mono (fun σ T h => by obtain ⟨⟨q9, q10, q11, q12, e⟩, _⟩ := h; exact ⟨_, q9, q10, q11, q12, e⟩) fun _ _ h => h.elim
  · rintro j y σ T hy ⟨⟨vs, o3, o4, o5, o6, o7, o8, o9, o10, o11, o12, rfl, hv, hl⟩, hr⟩
    have hj : j < 5 := by have := (List.getElem?_eq_some_iff.mp hy).1; simpa [rng_len] using this
    refine ⟨_, rfl, ?_⟩
    simp only [RetS_cons, RetS_nil, RetS_set, RetS_drop, RetS_ret, RetS_if, RetS_asg, RetS_par, RetS_put, RetS_nx, RetS_rt, Ret_dFn, Ret_dCons, Ret_dNil, Ret_dBin, Ret_dUn, Ret_dCall, Ret_dCallN, Ret_dC, Ret_dG, Ret_dVar, Ret_dIf, Ret_dFz, Ret_dNew, Ret_dLst, Ret_dTup, Ret_dB, Ret_dAndT, Ret_dOrT, Ret_dNotT, Ret_dAnd, Ret_dOr, Ret_dNot, Ret_dIsi, Ret_dChain, Ret_dGet, Ret_dD0, Ret_dNoP, Ret_dPt, Ret_dSlA, Ret_dMeth, Ret_dAny, Ret_dLenSet, Ret_dZip, Ret_dZipL, Ret_dKeys, Ret_dRng1, Ret_dRng2, Ret_dLc, RetS_for, Ret_ok, startW, List.map_cons, List.map_nil, List.length_cons, List.length_nil, List.cons_append, List.nil_append, List.replicate, Nat.sub_self, Nat.reduceSub, Nat.reduceAdd, List.getElem?_cons_zero, List.getElem?_cons_succ, List.set_cons_zero, List.set_cons_succ, Option.some.injEq, exists_eq_left', rd_d, on2_d, on1_d, c1_d, bOf_b, exists_eq_left, Option.map_some, Option.bind_some, W.d.injEq, Ret_gcd, List.take_length, dIx, wipeW]
    refine (table_ok hk hr).mono ?_
    rintro _ T1 ⟨⟨n, g, rfl, n1, n4, tg⟩, h1⟩
    refine (pairs_ok tg n4 T1).mono ?_
    rintro _ _ ⟨⟨ps, rfl, p1, p2⟩, rfl⟩
    refine (subset_ok hk h1 ps).mono ?_
    rintro _ T2 ⟨⟨gone, rfl, g1, g2⟩, h2⟩
    refine ⟨_, rfl, by decide, ?_⟩
    have hgone : ∀ p ∈ gone, Row 2 p := fun p hp => p1 p (g1 p hp)
    have lgone : gone.length ≤ 80 := by omega
    refine (lc_inv (fun j acc T => Rdr ns 0 S T ∧ acc.length = j ∧ ∀ y ∈ acc, G3 10 1530 3 y ∧ ∃ xs, y = .tuple xs) (rng 0 3) 0 [] T2 ⟨h2, rfl, by simp⟩ ?_).mono ?_
    · rintro i y acc T hy ⟨i1, i2, i3⟩
      obtain ⟨rfl, hi⟩ := rng_at hy
      refine ⟨_, rfl, ?_⟩
      simp only [RetS_cons, RetS_nil, RetS_set, RetS_drop, RetS_ret, RetS_if, RetS_asg, RetS_par, RetS_put, RetS_nx, RetS_rt, Ret_dFn, Ret_dCons, Ret_dNil, Ret_dBin, Ret_dUn, Ret_dCall, Ret_dCallN, Ret_dC, Ret_dG, Ret_dVar, Ret_dIf, Ret_dFz, Ret_dNew, Ret_dLst, Ret_dTup, Ret_dB, Ret_dAndT, Ret_dOrT, Ret_dNotT, Ret_dAnd, Ret_dOr, Ret_dNot, Ret_dIsi, Ret_dChain, Ret_dGet, Ret_dD0, Ret_dNoP, Ret_dPt, Ret_dSlA, Ret_dMeth, Ret_dAny, Ret_dLenSet, Ret_dZip, Ret_dZipL, Ret_dKeys, Ret_dRng1, Ret_dRng2, Ret_dLc, RetS_for, Ret_ok, startW, List.map_cons, List.map_nil, List.length_cons, List.length_nil, List.cons_append, List.nil_append, List.replicate, Nat.sub_self, Nat.reduceSub, Nat.reduceAdd, List.getElem?_cons_zero, List.getElem?_cons_succ, List.set_cons_zero, List.set_cons_succ, Option.some.injEq, exists_eq_left', rd_d, on2_d, on1_d, c1_d, bOf_b, exists_eq_left, Option.map_some, Option.bind_some, W.d.injEq, Ret_gcd, List.take_length, dIx, wipeW]
      show Ret (some (.ok true T)) _
      rw [Ret_ok, if_pos rfl]
      refine ⟨_, om (mul_of (a := 2) (.inl (by decide))), (draw' hk i1 (by decide) (by decide)).mono ?_⟩
      rintro _ T4 ⟨⟨z, rfl, z0, z1⟩, e1⟩
      refine ⟨_, rfl, ?_⟩
      refine (pairs_ok tg n4 T4).mono ?_
      rintro _ _ ⟨⟨qs, rfl, q1, q2⟩, rfl⟩
      refine (subset_ok hk e1 qs).mono ?_
      rintro _ T5 ⟨⟨hs, rfl, s1, s2⟩, e2⟩
      refine ⟨_, rfl, e2, by simp [i2], ?_⟩
      intro y hy
      rcases List.mem_append.mp hy with hy | hy
      · exact i3 y hy
      · rw [List.mem_singleton] at hy
        subst hy
        exact ⟨coin_g3 (by omega) (fun p hp => q1 p (s1 p hp)) (by omega), _, rfl⟩
    · rintro coins T3 ⟨c1, c2, c3⟩
      have tg5 := tab_g3 tg n4
      have c2 : coins.length = 3 := by rw [c2]; rfl
      obtain ⟨hs, rs, rfl, l1, t1, rne, l2, t2⟩ := tg
      obtain ⟨r, rs, rfl⟩ : ∃ a b, rs = a :: b := by
        cases rs with
        | nil => exact absurd rfl rne
        | cons a b => exact ⟨a, b, rfl⟩
      obtain ⟨a, b, c, rfl⟩ : ∃ a b c, coins = [a, b, c] := by
        match coins, c2 with
        | [a, b, c], _ => exact ⟨a, b, c, rfl⟩
      have hr5 : G5 r := by
        have h := t2 r List.mem_cons_self
        refine ⟨(row_g3 (N := 10) h).mono (Nat.le_refl _) (by omega) (by decide), ?_⟩
        obtain ⟨ws, e, _⟩ := h
        exact ⟨ws, e⟩
      have hg5 : G5 (.tuple gone) := ⟨(pairs_g3 hgone lgone).mono (Nat.le_refl _) (by decide) (by decide), _, rfl⟩
      have hs5 : G5 (.tuple (cutG gone none (some 1))) := ⟨((pairs_g3 hgone lgone).ofTuple.cut _ _).tuple.mono (Nat.le_refl _) (by decide) (by decide), _, rfl⟩
      have ha5 : G5 a := ⟨(c3 a (by simp)).1.mono (Nat.le_refl _) (by decide) (by decide), (c3 a (by simp)).2⟩
      have hc5 : G5 (.tuple [a, b, c]) := by
        refine ⟨?_, _, rfl⟩
        exact ((G3s.one (c3 a (by simp)).1).append ((G3s.one (c3 b (by simp)).1).append (G3s.one (c3 c (by simp)).1))).tuple.mono (Nat.le_refl _) (by decide) (by decide)
      refine ⟨_, rfl, .d (.tuple (r :: rs)), LK01.o2 (at_nat (xs := [.tuple hs, .tuple (r :: rs)]) (k := 1) (by decide) (by simp)), .d r, LK01.o2 ((at_nat (xs := r :: rs) (k := 0) (by decide) (by simp)).trans (by simp)), _, rfl, _, rfl, _, rfl, .d a, LK01.o2 ((at_nat (xs := [a, b, c]) (k := 0) (by decide) (by simp)).trans (by simp)), _, rfl, _, rfl, ?_⟩
      refine for_inv (fun i σ T => (∃ (vs : List PyData) (o3 o4 o5 o6 o7 o8 o9 o10 o11 o12 : Option W), σ = [some (.s (ns.map PyData.int)), some (.r 0), some (.d (.list vs)), o3, o4, o5, o6, o7, o8, o9, o10, o11, o12] ∧ (∀ x ∈ vs, Gv x) ∧ vs.length ≤ 2000 + 30 * j + 5 * i) ∧ Rdr ns 0 S T) _ 0 _ _ ⟨⟨_, _, _, _, _, _, _, _, _, _, _, rfl, hv, by omega⟩, c1⟩ ?_ ?_
      · rintro σ T ⟨⟨vs, o3, o4, o5, o6, o7, o8, o9, o10, o11, o12, rfl, hv, hl⟩, hr⟩
        exact ⟨⟨_, _, _, _, _, _, _, _, _, _, _, rfl, hv, by simp only [List.length_cons, List.length_nil] at hl; omega⟩, hr⟩
      · rintro i v σ T hvi ⟨⟨vs, o3, o4, o5, o6, o7, o8, o9, o10, o11, o12, rfl, hv, hl⟩, hr⟩
        have hi : i < 6 := by have := (List.getElem?_eq_some_iff.mp hvi).1; simpa using this
        have hv5 : G5 v := by
          have hm := List.mem_of_getElem? hvi
          simp only [List.mem_cons, List.not_mem_nil, or_false] at hm
          rcases hm with rfl | rfl | rfl | rfl | rfl | rfl
          · exact tg5
          · exact hg5
          · exact hc5
          · exact hr5
          · exact hs5
          · exact ha5
        obtain ⟨gv, xs, rfl⟩ := hv5
        refine ⟨_, rfl, ?_⟩
        simp only [RetS_cons, RetS_nil, RetS_set, RetS_drop, RetS_ret, RetS_if, RetS_asg, RetS_par, RetS_put, RetS_nx, RetS_rt, Ret_dFn, Ret_dCons, Ret_dNil, Ret_dBin, Ret_dUn, Ret_dCall, Ret_dCallN, Ret_dC, Ret_dG, Ret_dVar, Ret_dIf, Ret_dFz, Ret_dNew, Ret_dLst, Ret_dTup, Ret_dB, Ret_dAndT, Ret_dOrT, Ret_dNotT, Ret_dAnd, Ret_dOr, Ret_dNot, Ret_dIsi, Ret_dChain, Ret_dGet, Ret_dD0, Ret_dNoP, Ret_dPt, Ret_dSlA, Ret_dMeth, Ret_dAny, Ret_dLenSet, Ret_dZip, Ret_dZipL, Ret_dKeys, Ret_dRng1, Ret_dRng2, Ret_dLc, RetS_for, Ret_ok, startW, List.map_cons, List.map_nil, List.length_cons, List.length_nil, List.cons_append, List.nil_append, List.replicate, Nat.sub_self, Nat.reduceSub, Nat.reduceAdd, List.getElem?_cons_zero, List.getElem?_cons_succ, List.set_cons_zero, List.set_cons_succ, Option.some.injEq, exists_eq_left', rd_d, on2_d, on1_d, c1_d, bOf_b, exists_eq_left, Option.map_some, Option.bind_some, W.d.injEq, Ret_gcd, List.take_length, dIx, wipeW]
        refine (changed_ok hk 12 10 10000 5 _ T (by decide) (by decide) (by decide) (by decide) gv hr).mono ?_
        rintro _ T4 ⟨⟨y1, rfl, gy1⟩, f1⟩
        refine (changed_ok hk 12 _ _ _ _ T4 (by decide) (by decide) (by decide) (by decide) gy1 f1).mono ?_
        rintro _ T5 ⟨⟨y2, rfl, gy2⟩, f2⟩
        refine ⟨_, rfl, _, rfl, _, rfl, .d (.list (vs ++ [.tuple xs, y1, y2, .list xs, .tuple xs.reverse])), ?_, ⟨_, _, _, _, _, _, _, _, _, _, _, rfl, ?_, ?_⟩, f2⟩
        · show (if small (vs.length + 5) = true then some (PyData.list (vs ++ [.tuple xs, y1, y2, .list xs, .tuple xs.reverse])) else none).map W.d = _
          rw [if_pos (small_of (m := 100000) (by omega))]; rfl
        · intro x hx
          rcases List.mem_append.mp hx with hx | hx
          · exact hv x hx
          · have gs := gv.ofTuple
            simp only [List.mem_cons, List.not_mem_nil, or_false] at hx
            rcases hx with rfl | rfl | rfl | rfl | rfl
            · exact g3v gv (by decide) (by decide)
            · exact g3v gy1 (by decide) (by decide)
            · exact g3v gy2 (by decide) (by decide)
            · exact g3v gs.list (by decide) (by decide)
            · exact g3v gs.reverse.tuple (by decide) (by decide)
        · rw [List.length_append]; simp only [List.length_cons, List.length_nil]; omega
end LK01
end

section
/-! part LK01e -/
set_option Elab.async false
set_option linter.all false
set_option maxRecDepth 100000
set_option maxHeartbeats 4000000
namespace LK01
open CL
open PySem PySem.Spec PyProof.Rows L2
theorem all_mk {w : World} {K : PySem.W.Frag} {h : Heap} {mg : Str → Option Value} {fa : Addr} (X : K.In h) (G : h.Ns mainGlobals mg) (hfa : mg "law" = some (.ref fa))
    {f0 : Addr} {od0 an0 : Option Addr} {sl0 : Array (Option Value)} {oc0 kV0 dc0 pm0 cd0 ct0 : Value}
    (a0 : PySem.W.nsIn K mainGlobals "_law_reader" = some (some (.ref f0))) (l0 : K.lookup f0 = some ⟨oc0, od0, .func (PySem.W.fnOf "_law_reader" "_law_reader" (defArgs st_l_reader) (defBody st_l_reader) (defScope st_l_reader) .none kV0 dc0 pm0 an0 cd0 ct0), sl0⟩) (c0 : PySem.W.codeIn K cd0 "_law_reader" = true) (k0 : PySem.W.keepIn K (.ref f0) = true)
    {f1 : Addr} {od1 an1 : Option Addr} {sl1 : Array (Option Value)} {oc1 kV1 dc1 pm1 cd1 ct1 : Value}
    (a1 : PySem.W.nsIn K mainGlobals "_law_fixed_values" = some (some (.ref f1))) (l1 : K.lookup f1 = some ⟨oc1, od1, .func (PySem.W.fnOf "_law_fixed_values" "_law_fixed_values" (defArgs st_l_fixed_values) (defBody st_l_fixed_values) (defScope st_l_fixed_values) .none kV1 dc1 pm1 an1 cd1 ct1), sl1⟩) (c1 : PySem.W.codeIn K cd1 "_law_fixed_values" = true) (k1 : PySem.W.keepIn K (.ref f1) = true)
    {f2 : Addr} {od2 an2 : Option Addr} {sl2 : Array (Option Value)} {oc2 kV2 dc2 pm2 cd2 ct2 : Value}
    (a2 : PySem.W.nsIn K mainGlobals "_law_long_values" = some (some (.ref f2))) (l2 : K.lookup f2 = some ⟨oc2, od2, .func (PySem.W.fnOf "_law_long_values" "_law_long_values" (defArgs st_l_long_values) (defBody st_l_long_values) (defScope st_l_long_values) .none kV2 dc2 pm2 an2 cd2 ct2), sl2⟩) (c2 : PySem.W.codeIn K cd2 "_law_long_values" = true) (k2 : PySem.W.keepIn K (.ref f2) = true)
    {f3 : Addr} {od3 an3 : Option Addr} {sl3 : Array (Option Value)} {oc3 kV3 dc3 pm3 cd3 ct3 : Value}
    (a3 : PySem.W.nsIn K mainGlobals "_law_draw" = some (some (.ref f3))) (l3 : K.lookup f3 = some ⟨oc3, od3, .func (PySem.W.fnOf "_law_draw" "_law_draw" (defArgs st_l_draw) (defBody st_l_draw) (defScope st_l_draw) .none kV3 dc3 pm3 an3 cd3 ct3), sl3⟩) (c3 : PySem.W.codeIn K cd3 "_law_draw" = true) (k3 : PySem.W.keepIn K (.ref f3) = true)
    {f4 : Addr} {od4 an4 : Option Addr} {sl4 : Array (Option Value)} {oc4 kV4 dc4 pm4 cd4 ct4 : Value}
    (a4 : PySem.W.nsIn K mainGlobals "_law_table" = some (some (.ref f4))) (l4 : K.lookup f4 = some ⟨oc4, od4, .func (PySem.W.fnOf "_law_table" "_law_table" (defArgs st_l_table) (defBody st_l_table) (defScope st_l_table) .none kV4 dc4 pm4 an4 cd4 ct4), sl4⟩) (c4 : PySem.W.codeIn K cd4 "_law_table" = true) (k4 : PySem.W.keepIn K (.ref f4) = true)
    {f5 : Addr} {od5 an5 : Option Addr} {sl5 : Array (Option Value)} {oc5 kV5 dc5 pm5 cd5 ct5 : Value}
    (a5 : PySem.W.nsIn K mainGlobals "_law_subset" = some (some (.ref f5))) (l5 : K.lookup f5 = some ⟨oc5, od5, .func (PySem.W.fnOf "_law_subset" "_law_subset" (defArgs st_l_subset) (defBody st_l_subset) (defScope st_l_subset) .none kV5 dc5 pm5 an5 cd5 ct5), sl5⟩) (c5 : PySem.W.codeIn K cd5 "_law_subset" = true) (k5 : PySem.W.keepIn K (.ref f5) = true)
    {f6 : Addr} {od6 an6 : Option Addr} {sl6 : Array (Option Value)} {oc6 kV6 dc6 pm6 cd6 ct6 : Value}
    (a6 : PySem.W.nsIn K mainGlobals "_law_pairs" = some (some (.ref f6))) (l6 : K.lookup f6 = some ⟨oc6, od6, .func (PySem.W.fnOf "_law_pairs" "_law_pairs" (defArgs st_l_pairs) (defBody st_l_pairs) (defScope st_l_pairs) .none kV6 dc6 pm6 an6 cd6 ct6), sl6⟩) (c6 : PySem.W.codeIn K cd6 "_law_pairs" = true) (k6 : PySem.W.keepIn K (.ref f6) = true)
    {f7 : Addr} {od7 an7 : Option Addr} {sl7 : Array (Option Value)} {oc7 kV7 dc7 pm7 cd7 ct7 : Value}
    (a7 : PySem.W.nsIn K mainGlobals "_law_odd" = some (some (.ref f7))) (l7 : K.lookup f7 = some ⟨oc7, od7, .func (PySem.W.fnOf "_law_odd" "_law_odd" (defArgs st_l_odd) (defBody st_l_odd) (defScope st_l_odd) .none kV7 dc7 pm7 an7 cd7 ct7), sl7⟩) (c7 : PySem.W.codeIn K cd7 "_law_odd" = true) (k7 : PySem.W.keepIn K (.ref f7) = true)
    {f8 : Addr} {od8 an8 : Option Addr} {sl8 : Array (Option Value)} {oc8 kV8 dc8 pm8 cd8 ct8 : Value}
    (a8 : PySem.W.nsIn K mainGlobals "_law_changed" = some (some (.ref f8))) (l8 : K.lookup f8 = some ⟨oc8, od8, .func (PySem.W.fnOf "_law_changed" "_law_changed" (defArgs st_l_changed) (defBody st_l_changed) (defScope st_l_changed) .none kV8 dc8 pm8 an8 cd8 ct8), sl8⟩) (c8 : PySem.W.codeIn K cd8 "_law_changed" = true) (k8 : PySem.W.keepIn K (.ref f8) = true)
    {f9 : Addr} {od9 an9 : Option Addr} {sl9 : Array (Option Value)} {oc9 kV9 dc9 pm9 cd9 ct9 : Value}
    (a9 : PySem.W.nsIn K mainGlobals "_law_is_number" = some (some (.ref f9))) (l9 : K.lookup f9 = some ⟨oc9, od9, .func (PySem.W.fnOf "_law_is_number" "_law_is_number" (defArgs st_l_is_number) (defBody st_l_is_number) (defScope st_l_is_number) .none kV9 dc9 pm9 an9 cd9 ct9), sl9⟩) (c9 : PySem.W.codeIn K cd9 "_law_is_number" = true) (k9 : PySem.W.keepIn K (.ref f9) = true)
    {f10 : Addr} {od10 an10 : Option Addr} {sl10 : Array (Option Value)} {oc10 kV10 dc10 pm10 cd10 ct10 : Value}
    (a10 : PySem.W.nsIn K mainGlobals "_law_is_name" = some (some (.ref f10))) (l10 : K.lookup f10 = some ⟨oc10, od10, .func (PySem.W.fnOf "_law_is_name" "_law_is_name" (defArgs st_l_is_name) (defBody st_l_is_name) (defScope st_l_is_name) .none kV10 dc10 pm10 an10 cd10 ct10), sl10⟩) (c10 : PySem.W.codeIn K cd10 "_law_is_name" = true) (k10 : PySem.W.keepIn K (.ref f10) = true)
    {f11 : Addr} {od11 an11 : Option Addr} {sl11 : Array (Option Value)} {oc11 kV11 dc11 pm11 cd11 ct11 : Value}
    (a11 : PySem.W.nsIn K mainGlobals "_law_is_pair" = some (some (.ref f11))) (l11 : K.lookup f11 = some ⟨oc11, od11, .func (PySem.W.fnOf "_law_is_pair" "_law_is_pair" (defArgs st_l_is_pair) (defBody st_l_is_pair) (defScope st_l_is_pair) .none kV11 dc11 pm11 an11 cd11 ct11), sl11⟩) (c11 : PySem.W.codeIn K cd11 "_law_is_pair" = true) (k11 : PySem.W.keepIn K (.ref f11) = true)
    {f12 : Addr} {od12 an12 : Option Addr} {sl12 : Array (Option Value)} {oc12 kV12 dc12 pm12 cd12 ct12 : Value}
    (a12 : PySem.W.nsIn K mainGlobals "_law_are" = some (some (.ref f12))) (l12 : K.lookup f12 = some ⟨oc12, od12, .func (PySem.W.fnOf "_law_are" "_law_are" (defArgs st_l_are) (defBody st_l_are) (defScope st_l_are) .none kV12 dc12 pm12 an12 cd12 ct12), sl12⟩) (c12 : PySem.W.codeIn K cd12 "_law_are" = true) (k12 : PySem.W.keepIn K (.ref f12) = true)
    {f13 : Addr} {od13 an13 : Option Addr} {sl13 : Array (Option Value)} {oc13 kV13 dc13 pm13 cd13 ct13 : Value}
    (a13 : PySem.W.nsIn K mainGlobals "_law_ascends" = some (some (.ref f13))) (l13 : K.lookup f13 = some ⟨oc13, od13, .func (PySem.W.fnOf "_law_ascends" "_law_ascends" (defArgs st_l_ascends) (defBody st_l_ascends) (defScope st_l_ascends) .none kV13 dc13 pm13 an13 cd13 ct13), sl13⟩) (c13 : PySem.W.codeIn K cd13 "_law_ascends" = true) (k13 : PySem.W.keepIn K (.ref f13) = true)
    {f14 : Addr} {od14 an14 : Option Addr} {sl14 : Array (Option Value)} {oc14 kV14 dc14 pm14 cd14 ct14 : Value}
    (a14 : PySem.W.nsIn K mainGlobals "_law_is_scope" = some (some (.ref f14))) (l14 : K.lookup f14 = some ⟨oc14, od14, .func (PySem.W.fnOf "_law_is_scope" "_law_is_scope" (defArgs st_l_is_scope) (defBody st_l_is_scope) (defScope st_l_is_scope) .none kV14 dc14 pm14 an14 cd14 ct14), sl14⟩) (c14 : PySem.W.codeIn K cd14 "_law_is_scope" = true) (k14 : PySem.W.keepIn K (.ref f14) = true)
    {f15 : Addr} {od15 an15 : Option Addr} {sl15 : Array (Option Value)} {oc15 kV15 dc15 pm15 cd15 ct15 : Value}
    (a15 : PySem.W.nsIn K mainGlobals "is_number" = some (some (.ref f15))) (l15 : K.lookup f15 = some ⟨oc15, od15, .func (PySem.W.fnOf "is_number" "is_number" (defArgs st_is_number) (defBody st_is_number) (defScope st_is_number) .none kV15 dc15 pm15 an15 cd15 ct15), sl15⟩) (c15 : PySem.W.codeIn K cd15 "is_number" = true) (k15 : PySem.W.keepIn K (.ref f15) = true)
    {f16 : Addr} {od16 an16 : Option Addr} {sl16 : Array (Option Value)} {oc16 kV16 dc16 pm16 cd16 ct16 : Value}
    (a16 : PySem.W.nsIn K mainGlobals "is_name" = some (some (.ref f16))) (l16 : K.lookup f16 = some ⟨oc16, od16, .func (PySem.W.fnOf "is_name" "is_name" (defArgs st_is_name) (defBody st_is_name) (defScope st_is_name) .none kV16 dc16 pm16 an16 cd16 ct16), sl16⟩) (c16 : PySem.W.codeIn K cd16 "is_name" = true) (k16 : PySem.W.keepIn K (.ref f16) = true)
    {f17 : Addr} {od17 an17 : Option Addr} {sl17 : Array (Option Value)} {oc17 kV17 dc17 pm17 cd17 ct17 : Value}
    (a17 : PySem.W.nsIn K mainGlobals "are_names" = some (some (.ref f17))) (l17 : K.lookup f17 = some ⟨oc17, od17, .func (PySem.W.fnOf "are_names" "are_names" (defArgs st_are_names) (defBody st_are_names) (defScope st_are_names) .none kV17 dc17 pm17 an17 cd17 ct17), sl17⟩) (c17 : PySem.W.codeIn K cd17 "are_names" = true) (k17 : PySem.W.keepIn K (.ref f17) = true)
    {f18 : Addr} {od18 an18 : Option Addr} {sl18 : Array (Option Value)} {oc18 kV18 dc18 pm18 cd18 ct18 : Value}
    (a18 : PySem.W.nsIn K mainGlobals "is_pair" = some (some (.ref f18))) (l18 : K.lookup f18 = some ⟨oc18, od18, .func (PySem.W.fnOf "is_pair" "is_pair" (defArgs st_is_pair) (defBody st_is_pair) (defScope st_is_pair) .none kV18 dc18 pm18 an18 cd18 ct18), sl18⟩) (c18 : PySem.W.codeIn K cd18 "is_pair" = true) (k18 : PySem.W.keepIn K (.ref f18) = true)
    {f19 : Addr} {od19 an19 : Option Addr} {sl19 : Array (Option Value)} {oc19 kV19 dc19 pm19 cd19 ct19 : Value}
    (a19 : PySem.W.nsIn K mainGlobals "are_pairs" = some (some (.ref f19))) (l19 : K.lookup f19 = some ⟨oc19, od19, .func (PySem.W.fnOf "are_pairs" "are_pairs" (defArgs st_are_pairs) (defBody st_are_pairs) (defScope st_are_pairs) .none kV19 dc19 pm19 an19 cd19 ct19), sl19⟩) (c19 : PySem.W.codeIn K cd19 "are_pairs" = true) (k19 : PySem.W.keepIn K (.ref f19) = true)
    {f20 : Addr} {od20 an20 : Option Addr} {sl20 : Array (Option Value)} {oc20 kV20 dc20 pm20 cd20 ct20 : Value}
    (a20 : PySem.W.nsIn K mainGlobals "are_ascending" = some (some (.ref f20))) (l20 : K.lookup f20 = some ⟨oc20, od20, .func (PySem.W.fnOf "are_ascending" "are_ascending" (defArgs st_are_ascending) (defBody st_are_ascending) (defScope st_are_ascending) .none kV20 dc20 pm20 an20 cd20 ct20), sl20⟩) (c20 : PySem.W.codeIn K cd20 "are_ascending" = true) (k20 : PySem.W.keepIn K (.ref f20) = true)
    {f21 : Addr} {od21 an21 : Option Addr} {sl21 : Array (Option Value)} {oc21 kV21 dc21 pm21 cd21 ct21 : Value}
    (a21 : PySem.W.nsIn K mainGlobals "is_scope" = some (some (.ref f21))) (l21 : K.lookup f21 = some ⟨oc21, od21, .func (PySem.W.fnOf "is_scope" "is_scope" (defArgs st_is_scope) (defBody st_is_scope) (defScope st_is_scope) .none kV21 dc21 pm21 an21 cd21 ct21), sl21⟩) (c21 : PySem.W.codeIn K cd21 "is_scope" = true) (k21 : PySem.W.keepIn K (.ref f21) = true)
    {f22 : Addr} {od22 an22 : Option Addr} {sl22 : Array (Option Value)} {oc22 kV22 dc22 pm22 cd22 ct22 : Value}
    (a22 : PySem.W.nsIn K mainGlobals "is_coin" = some (some (.ref f22))) (l22 : K.lookup f22 = some ⟨oc22, od22, .func (PySem.W.fnOf "is_coin" "is_coin" (defArgs st_is_coin) (defBody st_is_coin) (defScope st_is_coin) .none kV22 dc22 pm22 an22 cd22 ct22), sl22⟩) (c22 : PySem.W.codeIn K cd22 "is_coin" = true) (k22 : PySem.W.keepIn K (.ref f22) = true)
    {f23 : Addr} {od23 an23 : Option Addr} {sl23 : Array (Option Value)} {oc23 kV23 dc23 pm23 cd23 ct23 : Value}
    (a23 : PySem.W.nsIn K mainGlobals "_law_is_coin" = some (some (.ref f23))) (l23 : K.lookup f23 = some ⟨oc23, od23, .func (PySem.W.fnOf "_law_is_coin" "_law_is_coin" (defArgs st_l_is_coin) (defBody st_l_is_coin) (defScope st_l_is_coin) .none kV23 dc23 pm23 an23 cd23 ct23), sl23⟩) (c23 : PySem.W.codeIn K cd23 "_law_is_coin" = true) (k23 : PySem.W.keepIn K (.ref f23) = true)
    {f24 : Addr} {od24 an24 : Option Addr} {sl24 : Array (Option Value)} {oc24 kV24 dc24 pm24 cd24 ct24 : Value}
    (a24 : PySem.W.nsIn K mainGlobals "_law_are_coins" = some (some (.ref f24))) (l24 : K.lookup f24 = some ⟨oc24, od24, .func (PySem.W.fnOf "_law_are_coins" "_law_are_coins" (defArgs st_l_are_coins) (defBody st_l_are_coins) (defScope st_l_are_coins) .none kV24 dc24 pm24 an24 cd24 ct24), sl24⟩) (c24 : PySem.W.codeIn K cd24 "_law_are_coins" = true) (k24 : PySem.W.keepIn K (.ref f24) = true)
    {f25 : Addr} {od25 an25 : Option Addr} {sl25 : Array (Option Value)} {oc25 kV25 dc25 pm25 cd25 ct25 : Value}
    (a25 : PySem.W.nsIn K mainGlobals "_law_are_names" = some (some (.ref f25))) (l25 : K.lookup f25 = some ⟨oc25, od25, .func (PySem.W.fnOf "_law_are_names" "_law_are_names" (defArgs st_l_are_names) (defBody st_l_are_names) (defScope st_l_are_names) .none kV25 dc25 pm25 an25 cd25 ct25), sl25⟩) (c25 : PySem.W.codeIn K cd25 "_law_are_names" = true) (k25 : PySem.W.keepIn K (.ref f25) = true)
    {f26 : Addr} {od26 an26 : Option Addr} {sl26 : Array (Option Value)} {oc26 kV26 dc26 pm26 cd26 ct26 : Value}
    (a26 : PySem.W.nsIn K mainGlobals "_law_is_shape" = some (some (.ref f26))) (l26 : K.lookup f26 = some ⟨oc26, od26, .func (PySem.W.fnOf "_law_is_shape" "_law_is_shape" (defArgs st_l_is_shape) (defBody st_l_is_shape) (defScope st_l_is_shape) .none kV26 dc26 pm26 an26 cd26 ct26), sl26⟩) (c26 : PySem.W.codeIn K cd26 "_law_is_shape" = true) (k26 : PySem.W.keepIn K (.ref f26) = true)
    {f27 : Addr} {od27 an27 : Option Addr} {sl27 : Array (Option Value)} {oc27 kV27 dc27 pm27 cd27 ct27 : Value}
    (a27 : PySem.W.nsIn K mainGlobals "are_coins" = some (some (.ref f27))) (l27 : K.lookup f27 = some ⟨oc27, od27, .func (PySem.W.fnOf "are_coins" "are_coins" (defArgs st_are_coins) (defBody st_are_coins) (defScope st_are_coins) .none kV27 dc27 pm27 an27 cd27 ct27), sl27⟩) (c27 : PySem.W.codeIn K cd27 "are_coins" = true) (k27 : PySem.W.keepIn K (.ref f27) = true)
    {f28 : Addr} {od28 an28 : Option Addr} {sl28 : Array (Option Value)} {oc28 kV28 dc28 pm28 cd28 ct28 : Value}
    (a28 : PySem.W.nsIn K mainGlobals "is_answer" = some (some (.ref f28))) (l28 : K.lookup f28 = some ⟨oc28, od28, .func (PySem.W.fnOf "is_answer" "is_answer" (defArgs st_is_answer) (defBody st_is_answer) (defScope st_is_answer) .none kV28 dc28 pm28 an28 cd28 ct28), sl28⟩) (c28 : PySem.W.codeIn K cd28 "is_answer" = true) (k28 : PySem.W.keepIn K (.ref f28) = true)
    {f29 : Addr} {od29 an29 : Option Addr} {sl29 : Array (Option Value)} {oc29 kV29 dc29 pm29 cd29 ct29 : Value}
    (a29 : PySem.W.nsIn K mainGlobals "is_table_shape" = some (some (.ref f29))) (l29 : K.lookup f29 = some ⟨oc29, od29, .func (PySem.W.fnOf "is_table_shape" "is_table_shape" (defArgs st_is_table_shape) (defBody st_is_table_shape) (defScope st_is_table_shape) .none kV29 dc29 pm29 an29 cd29 ct29), sl29⟩) (c29 : PySem.W.codeIn K cd29 "is_table_shape" = true) (k29 : PySem.W.keepIn K (.ref f29) = true)
    {f30 : Addr} {od30 an30 : Option Addr} {sl30 : Array (Option Value)} {oc30 kV30 dc30 pm30 cd30 ct30 : Value}
    (a30 : PySem.W.nsIn K mainGlobals "law" = some (some (.ref f30))) (l30 : K.lookup f30 = some ⟨oc30, od30, .func (PySem.W.fnOf "law" "law" (defArgs st_law) (defBody st_law) (defScope st_law) .none kV30 dc30 pm30 an30 cd30 ct30), sl30⟩) (c30 : PySem.W.codeIn K cd30 "law" = true) (k30 : PySem.W.keepIn K (.ref f30) = true)
    (z_all : PySem.W.nsIn K mainGlobals "all" = some none)
    (z_bool : PySem.W.nsIn K mainGlobals "bool" = some none)
    (z_int : PySem.W.nsIn K mainGlobals "int" = some none)
    (z_isinstance : PySem.W.nsIn K mainGlobals "isinstance" = some none)
    (z_len : PySem.W.nsIn K mainGlobals "len" = some none)
    (z_list : PySem.W.nsIn K mainGlobals "list" = some none)
    (z_min : PySem.W.nsIn K mainGlobals "min" = some none)
    (z_range : PySem.W.nsIn K mainGlobals "range" = some none)
    (z_repr : PySem.W.nsIn K mainGlobals "repr" = some none)
    (z_set : PySem.W.nsIn K mainGlobals "set" = some none)
    (z_sorted : PySem.W.nsIn K mainGlobals "sorted" = some none)
    (z_str : PySem.W.nsIn K mainGlobals "str" = some none)
    (z_tuple : PySem.W.nsIn K mainGlobals "tuple" = some none)
    (z_zip : PySem.W.nsIn K mainGlobals "zip" = some none)
    {t_LETTERS : Tok} (m_LETTERS : PySem.W.nsIn K mainGlobals "LETTERS" = some (some (.str "abcdefghijklmnopqrstuvwxyz" t_LETTERS)))
    {t_LONGEST : Tok} (m_LONGEST : PySem.W.nsIn K mainGlobals "LONGEST" = some (some (.int 8 t_LONGEST)))
    : ∃ fd : FuncData, (∀ (s : Shared) (v : Value), BindsTo s fd ⟨[v], []⟩ [("_law_script", v)]) ∧ ∀ base : Heap, K.In base → base.Ns mainGlobals mg → FnG PySem.Challenge.pw_chosenlast_k01_kinds w K mg base CX0 15 fa fd ["_law_script"] (spF K mg f_law) := by
  have e := hfa.symm.trans (PySem.W.mg_of X G a30)
  cases e
  have M : Mo K mg := ⟨defG_mk X G a0 l0 c0 k0 fun _ _ _ _ _ _ us hl => match us, hl with | [_], _ => rfl,
    defG_mk X G a1 l1 c1 k1 fun _ _ _ _ _ _ us hl => match us, hl with | [], _ => rfl,
    defG_mk X G a2 l2 c2 k2 fun _ _ _ _ _ _ us hl => match us, hl with | [], _ => rfl,
    defG_mk X G a3 l3 c3 k3 fun _ _ _ _ _ _ us hl => match us, hl with | [_, _], _ => rfl,
    defG_mk X G a4 l4 c4 k4 fun _ _ _ _ _ _ us hl => match us, hl with | [_, _, _], _ => rfl,
    defG_mk X G a5 l5 c5 k5 fun _ _ _ _ _ _ us hl => match us, hl with | [_, _], _ => rfl,
    defG_mk X G a6 l6 c6 k6 fun _ _ _ _ _ _ us hl => match us, hl with | [_], _ => rfl,
    defG_mk X G a7 l7 c7 k7 fun _ _ _ _ _ _ us hl => match us, hl with | [_], _ => rfl,
    defG_mk X G a8 l8 c8 k8 fun _ _ _ _ _ _ us hl => match us, hl with | [_, _], _ => rfl,
    defG_mk X G a9 l9 c9 k9 fun _ _ _ _ _ _ us hl => match us, hl with | [_], _ => rfl,
    defG_mk X G a10 l10 c10 k10 fun _ _ _ _ _ _ us hl => match us, hl with | [_], _ => rfl,
    defG_mk X G a11 l11 c11 k11 fun _ _ _ _ _ _ us hl => match us, hl with | [_], _ => rfl,
    defG_mk X G a12 l12 c12 k12 fun _ _ _ _ _ _ us hl => match us, hl with | [_, _], _ => rfl,
    defG_mk X G a13 l13 c13 k13 fun _ _ _ _ _ _ us hl => match us, hl with | [_], _ => rfl,
    defG_mk X G a14 l14 c14 k14 fun _ _ _ _ _ _ us hl => match us, hl with | [_], _ => rfl,
    defG_mk X G a15 l15 c15 k15 fun _ _ _ _ _ _ us hl => match us, hl with | [_], _ => rfl,
    defG_mk X G a16 l16 c16 k16 fun _ _ _ _ _ _ us hl => match us, hl with | [_], _ => rfl,
    defG_mk X G a17 l17 c17 k17 fun _ _ _ _ _ _ us hl => match us, hl with | [_], _ => rfl,
    defG_mk X G a18 l18 c18 k18 fun _ _ _ _ _ _ us hl => match us, hl with | [_], _ => rfl,
    defG_mk X G a19 l19 c19 k19 fun _ _ _ _ _ _ us hl => match us, hl with | [_], _ => rfl,
    defG_mk X G a20 l20 c20 k20 fun _ _ _ _ _ _ us hl => match us, hl with | [_], _ => rfl,
    defG_mk X G a21 l21 c21 k21 fun _ _ _ _ _ _ us hl => match us, hl with | [_], _ => rfl,
    defG_mk X G a22 l22 c22 k22 fun _ _ _ _ _ _ us hl => match us, hl with | [_], _ => rfl,
    defG_mk X G a23 l23 c23 k23 fun _ _ _ _ _ _ us hl => match us, hl with | [_], _ => rfl,
    defG_mk X G a24 l24 c24 k24 fun _ _ _ _ _ _ us hl => match us, hl with | [_], _ => rfl,
    defG_mk X G a25 l25 c25 k25 fun _ _ _ _ _ _ us hl => match us, hl with | [_], _ => rfl,
    defG_mk X G a26 l26 c26 k26 fun _ _ _ _ _ _ us hl => match us, hl with | [_], _ => rfl,
    defG_mk X G a27 l27 c27 k27 fun _ _ _ _ _ _ us hl => match us, hl with | [_], _ => rfl,
    defG_mk X G a28 l28 c28 k28 fun _ _ _ _ _ _ us hl => match us, hl with | [_], _ => rfl,
    defG_mk X G a29 l29 c29 k29 fun _ _ _ _ _ _ us hl => match us, hl with | [_], _ => rfl,
    defG_mk X G a30 l30 c30 k30 fun _ _ _ _ _ _ us hl => match us, hl with | [_], _ => rfl,
    PySem.W.mg_none_of X G z_all,
    PySem.W.mg_none_of X G z_bool,
    PySem.W.mg_none_of X G z_int,
    PySem.W.mg_none_of X G z_isinstance,
    PySem.W.mg_none_of X G z_len,
    PySem.W.mg_none_of X G z_list,
    PySem.W.mg_none_of X G z_min,
    PySem.W.mg_none_of X G z_range,
    PySem.W.mg_none_of X G z_repr,
    PySem.W.mg_none_of X G z_set,
    PySem.W.mg_none_of X G z_sorted,
    PySem.W.mg_none_of X G z_str,
    PySem.W.mg_none_of X G z_tuple,
    PySem.W.mg_none_of X G z_zip,
    ⟨t_LETTERS, PySem.W.mg_of X G m_LETTERS⟩,
    ⟨t_LONGEST, PySem.W.mg_of X G m_LONGEST⟩⟩
  have F := fun_mk (st := st_law) l30 c30 k30
  exact ⟨_, fun s v => .of_eq rfl, fun base _ _ => g_law M F⟩
end LK01
open PySem PySem.W PyProof.Rows
set_option maxHeartbeats 0 in
theorem PySem.Challenge.cw_chosenlast_k01_kinds_holds : PySem.Challenge.rw_chosenlast_k01_kinds.Holds := by
  w_on; o_law; k_head; (case hw => w_witness2)
  k_fill
  refine CL.walkG (l := PySem.Challenge.rw_chosenlast_k01_kinds) (n := 63) (k := 15) (x := "_law_script") (CX := fun _ => L2.CX0) (sp := fun w mg => CL.spF _ mg LK01.f_law) rfl (by decide) rfl ⟨rfl, by decide, by decide⟩ (fun w h Y => PySem.W.kIn_of Y) ?F (fun w mg H a ns hl h => CL.law_sp LK01.law_true _ mg H a ns hl h) (fun _ _ _ _ _ h => h)
  case F =>
    intro w mg fa h KX G hmg
    refine' LK01.all_mk KX G hmg ?a0 ?l0 ?c0 ?k0 ?a1 ?l1 ?c1 ?k1 ?a2 ?l2 ?c2 ?k2 ?a3 ?l3 ?c3 ?k3 ?a4 ?l4 ?c4 ?k4 ?a5 ?l5 ?c5 ?k5 ?a6 ?l6 ?c6 ?k6 ?a7 ?l7 ?c7 ?k7 ?a8 ?l8 ?c8 ?k8 ?a9 ?l9 ?c9 ?k9 ?a10 ?l10 ?c10 ?k10 ?a11 ?l11 ?c11 ?k11 ?a12 ?l12 ?c12 ?k12 ?a13 ?l13 ?c13 ?k13 ?a14 ?l14 ?c14 ?k14 ?a15 ?l15 ?c15 ?k15 ?a16 ?l16 ?c16 ?k16 ?a17 ?l17 ?c17 ?k17 ?a18 ?l18 ?c18 ?k18 ?a19 ?l19 ?c19 ?k19 ?a20 ?l20 ?c20 ?k20 ?a21 ?l21 ?c21 ?k21 ?a22 ?l22 ?c22 ?k22 ?a23 ?l23 ?c23 ?k23 ?a24 ?l24 ?c24 ?k24 ?a25 ?l25 ?c25 ?k25 ?a26 ?l26 ?c26 ?k26 ?a27 ?l27 ?c27 ?k27 ?a28 ?l28 ?c28 ?k28 ?a29 ?l29 ?c29 ?k29 ?a30 ?l30 ?c30 ?k30 ?z_all ?z_bool ?z_int ?z_isinstance ?z_len ?z_list ?z_min ?z_range ?z_repr ?z_set ?z_sorted ?z_str ?z_tuple ?z_zip ?m_LETTERS ?m_LONGEST
    (case a0 => k_is); (case l0 => k_is); (case c0 => k_is); (case k0 => k_is); (case a1 => k_is); (case l1 => k_is); (case c1 => k_is); (case k1 => k_is); (case a2 => k_is); (case l2 => k_is); (case c2 => k_is); (case k2 => k_is); (case a3 => k_is); (case l3 => k_is); (case c3 => k_is); (case k3 => k_is); (case a4 => k_is); (case l4 => k_is); (case c4 => k_is); (case k4 => k_is); (case a5 => k_is); (case l5 => k_is); (case c5 => k_is); (case k5 => k_is); (case a6 => k_is); (case l6 => k_is); (case c6 => k_is); (case k6 => k_is); (case a7 => k_is); (case l7 => k_is); (case c7 => k_is); (case k7 => k_is); (case a8 => k_is); (case l8 => k_is); (case c8 => k_is); (case k8 => k_is); (case a9 => k_is); (case l9 => k_is); (case c9 => k_is); (case k9 => k_is); (case a10 => k_is); (case l10 => k_is); (case c10 => k_is); (case k10 => k_is); (case a11 => k_is); (case l11 => k_is); (case c11 => k_is); (case k11 => k_is); (case a12 => k_is); (case l12 => k_is); (case c12 => k_is); (case k12 => k_is); (case a13 => k_is); (case l13 => k_is); (case c13 => k_is); (case k13 => k_is); (case a14 => k_is); (case l14 => k_is); (case c14 => k_is); (case k14 => k_is); (case a15 => k_is); (case l15 => k_is); (case c15 => k_is); (case k15 => k_is); (case a16 => k_is); (case l16 => k_is); (case c16 => k_is); (case k16 => k_is); (case a17 => k_is); (case l17 => k_is); (case c17 => k_is); (case k17 => k_is); (case a18 => k_is); (case l18 => k_is); (case c18 => k_is); (case k18 => k_is); (case a19 => k_is); (case l19 => k_is); (case c19 => k_is); (case k19 => k_is); (case a20 => k_is); (case l20 => k_is); (case c20 => k_is); (case k20 => k_is); (case a21 => k_is); (case l21 => k_is); (case c21 => k_is); (case k21 => k_is); (case a22 => k_is); (case l22 => k_is); (case c22 => k_is); (case k22 => k_is); (case a23 => k_is); (case l23 => k_is); (case c23 => k_is); (case k23 => k_is); (case a24 => k_is); (case l24 => k_is); (case c24 => k_is); (case k24 => k_is); (case a25 => k_is); (case l25 => k_is); (case c25 => k_is); (case k25 => k_is); (case a26 => k_is); (case l26 => k_is); (case c26 => k_is); (case k26 => k_is); (case a27 => k_is); (case l27 => k_is); (case c27 => k_is); (case k27 => k_is); (case a28 => k_is); (case l28 => k_is); (case c28 => k_is); (case k28 => k_is); (case a29 => k_is); (case l29 => k_is); (case c29 => k_is); (case k29 => k_is); (case a30 => k_is); (case l30 => k_is); (case c30 => k_is); (case k30 => k_is); (case z_all => k_is); (case z_bool => k_is); (case z_int => k_is); (case z_isinstance => k_is); (case z_len => k_is); (case z_list => k_is); (case z_min => k_is); (case z_range => k_is); (case z_repr => k_is); (case z_set => k_is); (case z_sorted => k_is); (case z_str => k_is); (case z_tuple => k_is); (case z_zip => k_is); (case m_LETTERS => k_is); (case m_LONGEST => k_is)
end
