import PyProof.Rows.All
import HandS.ForMost
import HandS.CallLocal
import HandS.Style
import HandS.TupAny
import HandS.Deep
import HandS.Text
import KE.LtData
import KE.SortData
import PyProof.Rows.IntBool
import HandS.IsInst
import HandS.Codes
import HandS.More
import HandS.Zip
import HandS.RaiseMore
import PyProof.ReprRoads
import HandS.Strs
import HandS.Conv
import KE.KDictKeyed
import KE.DataMinMax
import KE.KDictSum
import PyProof.CallFns
import PyProof.CallStr
import HandS.Words
import HandS.ExcInitHot
import HandS.TryOnly
import HandS.DictComp
import HandS.SortKw
import KE.SortKeyHeap
import HandS.TupSets
import PyProof.ReprBulk
import PySem.Challenge.RW_chosenlast_k16_coins_found
section
/-! part CLBase -/
set_option Elab.async false
set_option linter.all false
set_option maxRecDepth 100000
/-! CLBase: plain values, a numbered store, and what it means that a heap bears them. -/
namespace CL
open PySem PySem.Spec PyProof.Rows L2

/-- a value: data, an object of the store by its number, a def of the module by its name, the script -/
inductive W where
  | d (x : PyData)
  | r (n : Nat)
  | g (x : Str)
  | s (xs : List PyData)
/-- an object that may change -/
inductive O where
  | lst (xs : List PyData)
  | dk (kvs : List (Key × PyData))
  | dt (kvs : List (List Key × PyData))
  | lkK (kvs : List (Key × PyData))
  | lkT (kvs : List (List Key × PyData))

abbrev En := List (Option W)
abbrev So := List O
/-- an exception: its class's name, its fields -/
structure XV where
  cls : Str
  fs : List (Str × PyData)
/-- a step's end -/
inductive RE (α : Type) where
  | ok (a : α) (S : So)
  | xc (x : XV) (S : So)
abbrev M (α : Type) := Option (RE α)
def bnd {α β : Type} (m : M α) (f : α → So → M β) : M β := match m with
  | none => none
  | some (.xc x S) => some (.xc x S)
  | some (.ok a S) => f a S
@[simp] theorem bnd_ok {α β : Type} (a : α) (S : So) (f : α → So → M β) : bnd (some (.ok a S)) f = f a S := rfl
@[simp] theorem bnd_xc {α β : Type} (x : XV) (S : So) (f : α → So → M β) : bnd (some (.xc x S)) f = some (.xc x S) := rfl
@[simp] theorem bnd_none {α β : Type} (f : α → So → M β) : bnd none f = none := rfl
/-- a pure value at the store as it is -/
def giv {α : Type} (o : Option α) (S : So) : M α := match o with
  | none => none
  | some a => some (.ok a S)
@[simp] theorem giv_some {α : Type} (a : α) (S : So) : giv (some a) S = some (.ok a S) := rfl
@[simp] theorem giv_none {α : Type} (S : So) : giv (none : Option α) S = none := rfl
abbrev DE := En → So → M W
abbrev DT := En → So → M Bool
abbrev DA := En → So → M (List W)
inductive Out where
  | nx (σ : En) (S : So)
  | rt (w : W) (S : So)
  | bk (σ : En) (S : So)
  | ct (σ : En) (S : So)
  | xc (x : XV) (σ : En) (S : So)
abbrev DS := En → So → Option Out
/-- a def: from its arguments and the store -/
abbrev DF := List W → So → M W

/-- a dict that is walked just now is locked -/
def notLk : Option O → Prop
  | some (.lkK _) => False
  | some (.lkT _) => False
  | _ => True
/-- where the store's objects stand (l), and lists that are being made just now (h) -/
structure Fi where
  l : List Addr
  h : List Addr
def Fi.push (φ : Fi) (p : Addr) : Fi := ⟨φ.l ++ [p], φ.h⟩
def Fi.hide (φ : Fi) (p : Addr) : Fi := ⟨φ.l, p :: φ.h⟩

/-! ### the relation -/
section
variable (K : PySem.W.Frag) (H : Hp) (φ : Fi)
/-- a list that nobody changes -/
def FL (a : Addr) (vs : List V) : Prop := Rd H a (.lst vs) ∧ a ∉ φ.l ∧ a ∉ φ.h
/-- a tuple that the walk made -/
def TP (_ : PySem.W.Frag) (H : Hp) (a : Addr) (vs : List V) : Prop := H a = some (.tup vs)
/-- a list of the written part -/
def KL (a : Addr) (vs : List V) : Prop :=
  ∃ (o : Obj) (its : Array Value) (n : Nat), K.lookup a = some o ∧ o.cls = .type "list" ∧ o.dict = none ∧ o.data = .seq its n ∧ its.size ≤ sizeLine ∧ Vals vs its.toList
mutual
def RD : PyData → V → Prop
  | .none, v => v = .non
  | .bool b, v => v = .bl b
  | .int i, v => v = .int i
  | .str s, v => v = .str s
  | .list ds, v => ∃ a vs, v = .ref a ∧ FL H φ a vs ∧ RDs ds vs
  | .tuple ds, v => ∃ a vs, v = .ref a ∧ TP K H a vs ∧ RDs ds vs
  | .dict _, _ => False
def RDs : List PyData → List V → Prop
  | [], vs => vs = []
  | d :: ds, vs => ∃ v r, vs = v :: r ∧ RD d v ∧ RDs ds r
end
def OR (a : Addr) : O → Prop
  | .lst xs => ∃ vs, H a = some (.lst vs) ∧ RDs K H φ xs vs
  | .dk kvs => ∃ es, H a = some (.dK es) ∧ es.map (·.1) = kvs.map (·.1) ∧ RDs K H φ (kvs.map (·.2)) (es.map (·.2))
  | .dt kvs => ∃ es, H a = some (.dT es) ∧ es.map (·.1) = kvs.map (·.1) ∧ RDs K H φ (kvs.map (·.2)) (es.map (·.2))
  | .lkK kvs => ∃ es, (∃ od, H a = some (.frz od (.dK es))) ∧ es.map (·.1) = kvs.map (·.1) ∧ RDs K H φ (kvs.map (·.2)) (es.map (·.2))
  | .lkT kvs => ∃ es, (∃ od, H a = some (.frz od (.dT es))) ∧ es.map (·.1) = kvs.map (·.1) ∧ RDs K H φ (kvs.map (·.2)) (es.map (·.2))
variable (mg : Str → Option Value)
def RW : W → V → Prop
  | .d x, v => RD K H φ x v
  | .r n, v => ∃ a, φ.l[n]? = some a ∧ v = .ref a
  | .g x, v => ∃ f, mg x = some (.ref f) ∧ v = .ref f
  | .s xs, v => ∃ a vs, v = .ref a ∧ (FL H φ a vs ∨ KL K a vs) ∧ RDs K H φ xs vs
def RWs : List W → List V → Prop
  | [], vs => vs = []
  | w :: ws, vs => ∃ v r, vs = v :: r ∧ RW K H φ mg w v ∧ RWs ws r
structure SR (S : So) : Prop where
  len : φ.l.length = S.length
  nd : φ.l.Nodup
  ob : ∀ (i : Nat) (a : Addr) (o : O), φ.l[i]? = some a → S[i]? = some o → OR K H φ a o
  hid : ∀ b ∈ φ.h, b ∉ φ.l ∧ ∃ vs, H b = some (.lst vs)
structure ER (σV : L2.St) (σ : En) : Prop where
  len : σV.length = σ.length
  at_ : ∀ (i : Nat) (w : W), σ[i]? = some (some w) → ∃ v, σV[i]? = some (some v) ∧ RW K H φ mg w v
end
/-- what a step leaves -/
structure Ext (φ : Fi) (H : Hp) (φ' : Fi) (H' : Hp) : Prop where
  pre : φ.l <+: φ'.l
  hid : ∃ l, φ'.h = l ++ φ.h ∧ ∀ b ∈ l, H b = none
  trk : ∀ b, H' b = none → H b = none
  kept : ∀ b o, H b = some o → b ∉ φ.l → H' b = some o ∧ b ∉ φ'.l
  tups : ∀ b vs, H b = some (.tup vs) → H' b = some (.tup vs)
  frz : ∀ b o u, H b = some (.frz o u) → H' b = some (.frz o u)

section
variable {K : PySem.W.Frag} {H H' H2 : Hp} {φ φ' φ2 : Fi} {mg : Str → Option Value}
theorem Ext.refl : Ext φ H φ H := ⟨List.prefix_refl _, ⟨[], rfl, fun _ h => by cases h⟩, fun _ h => h, fun _ _ h n => ⟨h, n⟩, fun _ _ h => h, fun _ _ _ h => h⟩
theorem Ext.hsub (a : Ext φ H φ' H') {b : Addr} (h : b ∈ φ.h) : b ∈ φ'.h := by
  obtain ⟨l, e, _⟩ := a.hid; rw [e]; exact List.mem_append_right _ h
theorem Ext.nhid (a : Ext φ H φ' H') {b : Addr} (h : b ∉ φ.h) {o : HO} (t : H b = some o) : b ∉ φ'.h := by
  obtain ⟨l, e, q⟩ := a.hid
  rw [e]
  intro hm
  rcases List.mem_append.mp hm with hm | hm
  · rw [q b hm] at t; cases t
  · exact h hm
theorem Ext.trans (a : Ext φ H φ' H') (b : Ext φ' H' φ2 H2) : Ext φ H φ2 H2 :=
  ⟨a.pre.trans b.pre, by
    obtain ⟨l1, e1, q1⟩ := a.hid
    obtain ⟨l2, e2, q2⟩ := b.hid
    refine ⟨l2 ++ l1, by rw [e2, e1, List.append_assoc], fun c hc => ?_⟩
    rcases List.mem_append.mp hc with hc | hc
    · exact a.trk c (q2 c hc)
    · exact q1 c hc, fun c h => a.trk c (b.trk c h), fun c o h n => let ⟨h1, n1⟩ := a.kept c o h n; b.kept c o h1 n1, fun c vs h => b.tups c vs (a.tups c vs h), fun c o u h => b.frz c o u (a.frz c o u h)⟩
theorem FL.mono (e : Ext φ H φ' H') {a : Addr} {vs : List V} (h : FL H φ a vs) : FL H' φ' a vs := by
  obtain ⟨h | ⟨o, h⟩, n, m⟩ := h
  · obtain ⟨h1, n1⟩ := e.kept a _ h n; exact ⟨.inl h1, n1, e.nhid m h⟩
  · obtain ⟨h1, n1⟩ := e.kept a _ h n; exact ⟨.inr ⟨o, h1⟩, n1, e.nhid m h⟩
theorem TP.mono (e : Ext φ H φ' H') {a : Addr} {vs : List V} (h : TP K H a vs) : TP K H' a vs := e.tups a vs h
theorem TP.sq {a : Addr} {vs : List V} (h : TP K H a vs) : SqT K H a vs := .inl (.inl h)
mutual
theorem RD.mono (e : Ext φ H φ' H') : ∀ (d : PyData) (v : V), RD K H φ d v → RD K H' φ' d v
  | .none, _, h => h
  | .bool _, _, h => h
  | .int _, _, h => h
  | .str _, _, h => h
  | .list ds, _, ⟨a, vs, e1, h1, h2⟩ => ⟨a, vs, e1, h1.mono e, RDs.mono e ds vs h2⟩
  | .tuple ds, _, ⟨a, vs, e1, h1, h2⟩ => ⟨a, vs, e1, TP.mono e h1, RDs.mono e ds vs h2⟩
  | .dict _, _, h => h
theorem RDs.mono (e : Ext φ H φ' H') : ∀ (ds : List PyData) (vs : List V), RDs K H φ ds vs → RDs K H' φ' ds vs
  | [], _, h => h
  | d :: ds, _, ⟨v, r, e1, h1, h2⟩ => ⟨v, r, e1, RD.mono e d v h1, RDs.mono e ds r h2⟩
end
theorem FL.sq {a : Addr} {vs : List V} (h : FL H φ a vs) : SqL K H a vs := .inl h.1
theorem RDs.length : ∀ {ds : List PyData} {vs : List V}, RDs K H φ ds vs → vs.length = ds.length
  | [], _, h => by cases h; rfl
  | _ :: _, _, ⟨_, _, e, _, h⟩ => by subst e; simp [RDs.length h]
theorem RDs.get : ∀ {ds : List PyData} {vs : List V} {i : Nat} {d : PyData}, RDs K H φ ds vs → ds[i]? = some d → ∃ v, vs[i]? = some v ∧ RD K H φ d v
  | [], _, _, _, _, e => by simp at e
  | _ :: _, _, 0, _, ⟨v, r, e, h, _⟩, e2 => by subst e; simp at e2; subst e2; exact ⟨v, rfl, h⟩
  | _ :: _, _, i + 1, d, ⟨v, r, e, _, h⟩, e2 => by
    subst e
    obtain ⟨u, h1, h2⟩ := RDs.get (i := i) (d := d) h (by simpa using e2)
    exact ⟨u, by simpa using h1, h2⟩
theorem RDs.append : ∀ {ds es : List PyData} {vs us : List V}, RDs K H φ ds vs → RDs K H φ es us → RDs K H φ (ds ++ es) (vs ++ us)
  | [], _, _, _, h, h2 => by cases h; exact h2
  | _ :: _, _, _, _, ⟨v, r, e, h, t⟩, h2 => by subst e; exact ⟨v, _, rfl, h, RDs.append t h2⟩
theorem RDs.one {d : PyData} {v : V} (h : RD K H φ d v) : RDs K H φ [d] [v] := ⟨v, [], rfl, h, rfl⟩
theorem RDs.take : ∀ {ds : List PyData} {vs : List V} (n : Nat), RDs K H φ ds vs → RDs K H φ (ds.take n) (vs.take n)
  | _, _, 0, _ => by simp [RDs]
  | [], _, n + 1, h => by cases h; simp [RDs]
  | _ :: _, _, n + 1, ⟨v, r, e, h, t⟩ => by subst e; exact ⟨v, _, rfl, h, RDs.take n t⟩
theorem RDs.drop : ∀ {ds : List PyData} {vs : List V} (n : Nat), RDs K H φ ds vs → RDs K H φ (ds.drop n) (vs.drop n)
  | _, _, 0, h => h
  | [], _, n + 1, h => by cases h; simp [RDs]
  | _ :: _, _, n + 1, ⟨v, r, e, h, t⟩ => by subst e; exact RDs.drop n t
theorem RDs.reverse : ∀ {ds : List PyData} {vs : List V}, RDs K H φ ds vs → RDs K H φ ds.reverse vs.reverse
  | [], _, h => by cases h; simp [RDs]
  | _ :: _, _, ⟨v, r, e, h, t⟩ => by subst e; rw [List.reverse_cons, List.reverse_cons]; exact RDs.append (RDs.reverse t) (RDs.one h)
theorem RDs.eraseIdx : ∀ {ds : List PyData} {vs : List V} (n : Nat), RDs K H φ ds vs → RDs K H φ (ds.eraseIdx n) (vs.eraseIdx n)
  | [], _, n, h => by cases h; simp [RDs]
  | _ :: _, _, 0, ⟨v, r, e, _, t⟩ => by subst e; exact t
  | _ :: _, _, n + 1, ⟨v, r, e, h, t⟩ => by subst e; exact ⟨v, _, rfl, h, RDs.eraseIdx n t⟩
theorem RDs.set : ∀ {ds : List PyData} {vs : List V} (n : Nat) {d : PyData} {v : V}, RDs K H φ ds vs → RD K H φ d v → RDs K H φ (ds.set n d) (vs.set n v)
  | [], _, n, _, _, h, _ => by cases h; simp [RDs]
  | _ :: _, _, 0, _, u, ⟨v, r, e, _, t⟩, h2 => by subst e; exact ⟨u, r, rfl, h2, t⟩
  | _ :: _, _, n + 1, _, _, ⟨v, r, e, h, t⟩, h2 => by subst e; exact ⟨v, _, rfl, h, RDs.set n t h2⟩
mutual
theorem RD.dp : ∀ (d : PyData) (v : V), RD K H φ d v → Dp K H v d
  | .none, _, h => by cases h; exact .non
  | .bool _, _, h => by cases h; exact .bl _
  | .int _, _, h => by cases h; exact .int _
  | .str _, _, h => by cases h; exact .str _
  | .list ds, _, ⟨a, vs, e1, h1, h2⟩ => by subst e1; exact .lst h1.sq (RDs.dp ds vs h2)
  | .tuple ds, _, ⟨a, vs, e1, h1, h2⟩ => by subst e1; exact .tup h1.sq (RDs.dp ds vs h2)
  | .dict _, _, h => h.elim
theorem RDs.dp : ∀ (ds : List PyData) (vs : List V), RDs K H φ ds vs → DpAll K H vs ds
  | [], _, h => by cases h; exact .nil
  | d :: ds, _, ⟨v, r, e1, h1, h2⟩ => by subst e1; exact .cons (RD.dp d v h1) (RDs.dp ds r h2)
end
theorem RW.mono (e : Ext φ H φ' H') : ∀ {w : W} {v : V}, RW K H φ mg w v → RW K H' φ' mg w v
  | .d x, v, h => RD.mono e x v h
  | .r n, v, ⟨a, h1, h2⟩ => ⟨a, by
      obtain ⟨t, ht⟩ := e.pre
      rw [← ht, List.getElem?_append_left (by rw [List.getElem?_eq_some_iff] at h1; exact h1.1)]; exact h1, h2⟩
  | .g x, v, h => h
  | .s xs, v, ⟨a, vs, e1, h1, h2⟩ => ⟨a, vs, e1, h1.imp (fun q => q.mono e) id, RDs.mono e _ _ h2⟩
theorem RWs.mono (e : Ext φ H φ' H') : ∀ {ws : List W} {vs : List V}, RWs K H φ mg ws vs → RWs K H' φ' mg ws vs
  | [], _, h => h
  | w :: ws, _, ⟨v, r, e1, h1, h2⟩ => ⟨v, r, e1, RW.mono e h1, RWs.mono e h2⟩
theorem ER.mono (e : Ext φ H φ' H') {σV : L2.St} {σ : En} (h : ER K H φ mg σV σ) : ER K H' φ' mg σV σ :=
  ⟨h.len, fun i w q => let ⟨v, h1, h2⟩ := h.at_ i w q; ⟨v, h1, RW.mono e h2⟩⟩
theorem ER.set {σV : L2.St} {σ : En} (h : ER K H φ mg σV σ) {i : Nat} {w : W} {v : V} (hw : RW K H φ mg w v) : ER K H φ mg (σV.set i (some v)) (σ.set i (some w)) := by
  refine ⟨by simp [h.len], fun j w' q => ?_⟩
  by_cases e : i = j
  · subst e
    by_cases hl : i < σ.length
    · rw [List.getElem?_set_self hl] at q
      cases q
      exact ⟨v, by rw [List.getElem?_set_self (by rw [h.len]; exact hl)], hw⟩
    · rw [List.getElem?_eq_none (by simp; omega)] at q; cases q
  · rw [List.getElem?_set_ne e] at q
    obtain ⟨u, h1, h2⟩ := h.at_ j w' q
    exact ⟨u, by rw [List.getElem?_set_ne e]; exact h1, h2⟩
theorem upd_trk {p : Addr} {o : HO} : ∀ b, upd H p o b = none → H b = none := fun b h => by
  unfold upd at h
  split at h
  · cases h
  · exact h
/-- a new object that nobody tracks by number -/
theorem Ext.new {p : Addr} {o : HO} (hp : H p = none) (hs : SR K H φ S) : Ext φ H φ (upd H p o) := by
  refine ⟨List.prefix_refl _, ⟨[], rfl, fun _ h => by cases h⟩, upd_trk, fun b u h n => ⟨?_, n⟩, fun b vs h => ?_, fun b o u h => ?_⟩
  · rw [upd_ne (ne_of_none h hp)]; exact h
  · rw [upd_ne (ne_of_none h hp)]; exact h
  · rw [upd_ne (ne_of_none h hp)]; exact h
theorem OR.there {a : Addr} {o : O} (h : OR K H φ a o) : ∃ u, H a = some u := by
  cases o with
  | lst _ => obtain ⟨_, h, _⟩ := h; exact ⟨_, h⟩
  | dk _ => obtain ⟨_, h, _⟩ := h; exact ⟨_, h⟩
  | dt _ => obtain ⟨_, h, _⟩ := h; exact ⟨_, h⟩
  | lkK _ => obtain ⟨_, ⟨_, h⟩, _⟩ := h; exact ⟨_, h⟩
  | lkT _ => obtain ⟨_, ⟨_, h⟩, _⟩ := h; exact ⟨_, h⟩
theorem SR.get {S : So} (hs : SR K H φ S) {i : Nat} {a : Addr} (h : φ.l[i]? = some a) : ∃ o, S[i]? = some o ∧ OR K H φ a o := by
  have hl : i < S.length := by rw [← hs.len]; exact (List.getElem?_eq_some_iff.mp h).1
  exact ⟨S[i], List.getElem?_eq_getElem hl, hs.ob i a _ h (List.getElem?_eq_getElem hl)⟩
theorem SR.mem {S : So} (hs : SR K H φ S) {a : Addr} (h : a ∈ φ.l) : ∃ u, H a = some u := by
  obtain ⟨i, hi, e⟩ := List.getElem_of_mem h
  obtain ⟨o, _, h2⟩ := hs.get (i := i) (a := a) (by rw [List.getElem?_eq_getElem hi, e])
  exact h2.there
theorem SR.notin {S : So} (hs : SR K H φ S) {a : Addr} (h : H a = none) : a ∉ φ.l := fun hm => by
  obtain ⟨u, e⟩ := hs.mem hm; rw [h] at e; cases e
/-- objects of the store where the store's own addresses stay -/
theorem OR.mono (e : Ext φ H φ' H') {a : Addr} (ha : H' a = H a) : ∀ {o : O}, OR K H φ a o → OR K H' φ' a o
  | .lst xs, ⟨vs, h1, h2⟩ => ⟨vs, ha.trans h1, RDs.mono e _ _ h2⟩
  | .dk kvs, ⟨es, h1, h2, h3⟩ => ⟨es, ha.trans h1, h2, RDs.mono e _ _ h3⟩
  | .dt kvs, ⟨es, h1, h2, h3⟩ => ⟨es, ha.trans h1, h2, RDs.mono e _ _ h3⟩
  | .lkK kvs, ⟨es, ⟨od, h1⟩, h2, h3⟩ => ⟨es, ⟨od, ha.trans h1⟩, h2, RDs.mono e _ _ h3⟩
  | .lkT kvs, ⟨es, ⟨od, h1⟩, h2, h3⟩ => ⟨es, ⟨od, ha.trans h1⟩, h2, RDs.mono e _ _ h3⟩
theorem SR.new {S : So} {p : Addr} {o : HO} (hs : SR K H φ S) (hp : H p = none) : SR K (upd H p o) φ S :=
  ⟨hs.len, hs.nd, fun i a ob h1 h2 => OR.mono (Ext.new hp hs) (by
    rw [upd_ne]
    intro e; subst e
    exact hs.notin hp (List.mem_of_getElem? h1)) (hs.ob i a ob h1 h2), fun b hb => by
      obtain ⟨h1, vs, h2⟩ := hs.hid b hb
      exact ⟨h1, vs, by rw [upd_ne (ne_of_none h2 hp)]; exact h2⟩⟩
theorem SR.notinh {S : So} (hs : SR K H φ S) {a : Addr} (h : H a = none) : a ∉ φ.h := fun hm => by
  obtain ⟨_, vs, e⟩ := hs.hid a hm; rw [h] at e; cases e
/-- a new object of the store -/
theorem Ext.push {p : Addr} {o : HO} {S : So} (hp : H p = none) (hs : SR K H φ S) : Ext φ H (φ.push p) (upd H p o) := by
  have e := Ext.new (o := o) hp hs
  refine ⟨List.prefix_append _ _, ⟨[], rfl, fun _ h => by cases h⟩, upd_trk, fun b u h n => ?_, e.tups, e.frz⟩
  obtain ⟨h1, n1⟩ := e.kept b u h n
  refine ⟨h1, fun hm => ?_⟩
  rcases List.mem_append.mp hm with hm | hm
  · exact n hm
  · rw [List.mem_singleton] at hm; subst hm; rw [hp] at h; cases h
theorem SR.push {S : So} {p : Addr} {o : HO} {ob : O} (hs : SR K H φ S) (hp : H p = none) (ho : OR K (upd H p o) (φ.push p) p ob) : SR K (upd H p o) (φ.push p) (S ++ [ob]) := by
  have ht := hs.new (o := o) hp
  refine ⟨by simp [Fi.push, hs.len], ?_, fun i a u h1 h2 => ?_, fun b hb => ?_⟩
  · show (φ.l ++ [p]).Nodup
    rw [List.nodup_append]
    refine ⟨hs.nd, by simp, fun a ha b hb => ?_⟩
    rw [List.mem_singleton] at hb; subst hb
    intro e; subst e; exact hs.notin hp ha
  · have g1 : (φ.l ++ [p])[i]? = some a := h1
    clear h1
    by_cases hi : i < φ.l.length
    · rw [List.getElem?_append_left hi] at g1
      rw [List.getElem?_append_left (by rw [← hs.len]; exact hi)] at h2
      refine OR.mono (Ext.push hp hs) ?_ (hs.ob i a u g1 h2)
      rw [upd_ne]
      intro e; subst e; exact hs.notin hp (List.mem_of_getElem? g1)
    · have hi1 : i < (φ.l ++ [p]).length := (List.getElem?_eq_some_iff.mp g1).1
      have hi2 : i = φ.l.length := by simp at hi1; omega
      subst hi2
      rw [List.getElem?_append_right (Nat.le_refl _)] at g1
      rw [List.getElem?_append_right (by rw [hs.len]; exact Nat.le_refl _)] at h2
      simp at g1
      rw [hs.len] at h2
      simp at h2
      subst g1; subst h2
      exact ho
  · obtain ⟨h1, vs, h2⟩ := ht.hid b hb
    refine ⟨fun hm => ?_, vs, h2⟩
    rcases List.mem_append.mp hm with hm | hm
    · exact h1 hm
    · rw [List.mem_singleton] at hm; subst hm; exact hs.notinh hp hb
/-- an object of the store changes -/
theorem Ext.wr {S : So} {n : Nat} {a : Addr} {o : HO} (hs : SR K H φ S) (ha : φ.l[n]? = some a) (hn : notLk S[n]?) : Ext φ H φ (upd H a o) := by
  obtain ⟨ob, ho, hob⟩ := hs.get ha
  refine ⟨List.prefix_refl _, ⟨[], rfl, fun _ h => by cases h⟩, upd_trk, fun b u h nb => ⟨?_, nb⟩, fun b vs h => ?_, fun b u0 vs h => ?_⟩
  · rw [upd_ne]; exact h
    intro e; subst e; exact nb (List.mem_of_getElem? ha)
  · have hne : b ≠ a := by
      intro e; subst e
      cases ob with
      | lst _ => obtain ⟨_, q, _⟩ := hob; rw [h] at q; cases q
      | dk _ => obtain ⟨_, q, _⟩ := hob; rw [h] at q; cases q
      | dt _ => obtain ⟨_, q, _⟩ := hob; rw [h] at q; cases q
      | lkK _ => rw [ho] at hn; exact hn
      | lkT _ => rw [ho] at hn; exact hn
    rw [upd_ne hne]; exact h
  · have hne : b ≠ a := by
      intro e; subst e
      cases ob with
      | lst _ => obtain ⟨_, q, _⟩ := hob; rw [h] at q; cases q
      | dk _ => obtain ⟨_, q, _⟩ := hob; rw [h] at q; cases q
      | dt _ => obtain ⟨_, q, _⟩ := hob; rw [h] at q; cases q
      | lkK _ => rw [ho] at hn; exact hn
      | lkT _ => rw [ho] at hn; exact hn
    rw [upd_ne hne]; exact h
theorem SR.wr {S : So} {n : Nat} {a : Addr} {o : HO} {ob : O} (hs : SR K H φ S) (ha : φ.l[n]? = some a) (hn : notLk S[n]?) (ho : OR K (upd H a o) φ a ob) : SR K (upd H a o) φ (S.set n ob) := by
  refine ⟨by simp [hs.len], hs.nd, fun i b u h1 h2 => ?_, fun b hb => ?_⟩
  · by_cases e : n = i
    · subst e
      rw [ha] at h1; cases h1
      have hl : n < S.length := by rw [← hs.len]; exact (List.getElem?_eq_some_iff.mp ha).1
      rw [List.getElem?_set_self hl] at h2; cases h2
      exact ho
    · rw [List.getElem?_set_ne e] at h2
      refine OR.mono (Ext.wr hs ha hn) ?_ (hs.ob i b u h1 h2)
      rw [upd_ne]
      intro q; subst q
      exact e ((List.getElem?_inj (List.getElem?_eq_some_iff.mp ha).1 hs.nd).mp (ha.trans h1.symm))
  · obtain ⟨h1, vs, h2⟩ := hs.hid b hb
    refine ⟨h1, vs, ?_⟩
    rw [upd_ne]; exact h2
    intro e; subst e; exact h1 (List.mem_of_getElem? ha)
/-- a list that is being made: it is hidden, grows, and stands at last as a value -/
theorem FL.hide {p : Addr} {o : HO} (hp : H p = none) {a : Addr} {vs : List V} (h : FL H φ a vs) : FL (upd H p o) (φ.hide p) a vs := by
  obtain ⟨h, n, m⟩ := h
  have hne : a ≠ p := by rcases h with h | ⟨_, h⟩ <;> exact ne_of_none h hp
  refine ⟨?_, n, fun z => ?_⟩
  · rcases h with h | ⟨u, h⟩
    · exact .inl (by rw [upd_ne hne]; exact h)
    · exact .inr ⟨u, by rw [upd_ne hne]; exact h⟩
  · rcases List.mem_cons.mp z with z | z
    · exact hne z
    · exact m z
theorem TP.hide {p : Addr} {o : HO} (hp : H p = none) {a : Addr} {vs : List V} (h : TP K H a vs) : TP K (upd H p o) a vs := (upd_ne (ne_of_none h hp)).trans h
mutual
theorem RD.hide {p : Addr} {o : HO} (hp : H p = none) : ∀ (d : PyData) (v : V), RD K H φ d v → RD K (upd H p o) (φ.hide p) d v
  | .none, _, h => h
  | .bool _, _, h => h
  | .int _, _, h => h
  | .str _, _, h => h
  | .list ds, _, ⟨a, vs, e1, h1, h2⟩ => ⟨a, vs, e1, h1.hide hp, RDs.hide hp ds vs h2⟩
  | .tuple ds, _, ⟨a, vs, e1, h1, h2⟩ => ⟨a, vs, e1, TP.hide hp h1, RDs.hide hp ds vs h2⟩
  | .dict _, _, h => h
theorem RDs.hide {p : Addr} {o : HO} (hp : H p = none) : ∀ (ds : List PyData) (vs : List V), RDs K H φ ds vs → RDs K (upd H p o) (φ.hide p) ds vs
  | [], _, h => h
  | d :: ds, _, ⟨v, r, e1, h1, h2⟩ => ⟨v, r, e1, RD.hide hp d v h1, RDs.hide hp ds r h2⟩
end
theorem OR.hide {p : Addr} {o : HO} (hp : H p = none) {a : Addr} : ∀ {ob : O}, OR K H φ a ob → OR K (upd H p o) (φ.hide p) a ob
  | .lst xs, ⟨vs, h1, h2⟩ => ⟨vs, by rw [upd_ne (ne_of_none h1 hp)]; exact h1, RDs.hide hp _ _ h2⟩
  | .dk kvs, ⟨es, h1, h2, h3⟩ => ⟨es, by rw [upd_ne (ne_of_none h1 hp)]; exact h1, h2, RDs.hide hp _ _ h3⟩
  | .dt kvs, ⟨es, h1, h2, h3⟩ => ⟨es, by rw [upd_ne (ne_of_none h1 hp)]; exact h1, h2, RDs.hide hp _ _ h3⟩
  | .lkK kvs, ⟨es, ⟨od, h1⟩, h2, h3⟩ => ⟨es, ⟨od, by rw [upd_ne (ne_of_none h1 hp)]; exact h1⟩, h2, RDs.hide hp _ _ h3⟩
  | .lkT kvs, ⟨es, ⟨od, h1⟩, h2, h3⟩ => ⟨es, ⟨od, by rw [upd_ne (ne_of_none h1 hp)]; exact h1⟩, h2, RDs.hide hp _ _ h3⟩
theorem Ext.hide {p : Addr} {o : HO} (hp : H p = none) : Ext φ H (φ.hide p) (upd H p o) :=
  ⟨List.prefix_refl _, ⟨[p], rfl, fun b hb => by rw [List.mem_singleton] at hb; subst hb; exact hp⟩, upd_trk, fun b u h n => ⟨by rw [upd_ne (ne_of_none h hp)]; exact h, n⟩, fun b vs h => by
    rw [upd_ne (ne_of_none h hp)]; exact h, fun b o u h => by
    rw [upd_ne (ne_of_none h hp)]; exact h⟩
theorem SR.hide {S : So} {p : Addr} {vs : List V} (hs : SR K H φ S) (hp : H p = none) : SR K (upd H p (.lst vs)) (φ.hide p) S :=
  ⟨hs.len, hs.nd, fun i a ob h1 h2 => OR.hide hp (hs.ob i a ob h1 h2), fun b hb => by
    rcases List.mem_cons.mp hb with e | hb
    · subst e; exact ⟨hs.notin hp, vs, upd_same⟩
    · obtain ⟨h1, us, h2⟩ := hs.hid b hb
      exact ⟨h1, us, by rw [upd_ne (ne_of_none h2 hp)]; exact h2⟩⟩
theorem RW.hide {p : Addr} {o : HO} (hp : H p = none) : ∀ {w : W} {v : V}, RW K H φ mg w v → RW K (upd H p o) (φ.hide p) mg w v
  | .d x, v, h => RD.hide hp x v h
  | .r n, v, h => h
  | .g x, v, h => h
  | .s xs, v, ⟨a, vs, e1, h1, h2⟩ => ⟨a, vs, e1, h1.imp (fun q => q.hide hp) id, RDs.hide hp _ _ h2⟩
theorem ER.hide {p : Addr} {o : HO} (hp : H p = none) {σV : L2.St} {σ : En} (h : ER K H φ mg σV σ) : ER K (upd H p o) (φ.hide p) mg σV σ :=
  ⟨h.len, fun i w q => let ⟨v, h1, h2⟩ := h.at_ i w q; ⟨v, h1, RW.hide hp h2⟩⟩

section
variable {p : Addr} {us : List V} (hh : p ∈ φ.h) (hp : H p = some (.lst us)) (hx : ∀ b, b ≠ p → H' b = H b)
include hh hp hx
theorem FL.grow {a : Addr} {vs : List V} (h : FL H φ a vs) : FL H' φ a vs := by
  obtain ⟨h, n, m⟩ := h
  have hne : a ≠ p := fun e => m (e ▸ hh)
  refine ⟨?_, n, m⟩
  rcases h with h | ⟨u, h⟩
  · exact .inl ((hx a hne).trans h)
  · exact .inr ⟨u, (hx a hne).trans h⟩
omit hh in
theorem TP.grow {a : Addr} {vs : List V} (h : TP K H a vs) : TP K H' a vs := by
  have hne : a ≠ p := by
    intro e; subst e
    rw [h] at hp; cases hp
  exact (hx a hne).trans h
theorem RD.grow : ∀ (d : PyData) (v : V), RD K H φ d v → RD K H' φ d v := fun d => PyData.rec (motive_1 := fun d => ∀ v, RD K H φ d v → RD K H' φ d v) (motive_2 := fun ds => ∀ vs, RDs K H φ ds vs → RDs K H' φ ds vs)
    (motive_3 := fun _ => True) (motive_4 := fun _ => True)
    (fun _ h => h) (fun _ _ h => h) (fun _ _ h => h) (fun _ _ h => h)
    (fun ds ih v ⟨a, vs, e1, h1, h2⟩ => ⟨a, vs, e1, FL.grow hh hp hx h1, ih vs h2⟩)
    (fun ds ih v ⟨a, vs, e1, h1, h2⟩ => ⟨a, vs, e1, TP.grow hp hx h1, ih vs h2⟩)
    (fun _ _ _ h => h) (fun _ h => h) (fun d ds h1 h2 vs ⟨v, r, e1, q1, q2⟩ => ⟨v, r, e1, h1 v q1, h2 r q2⟩) trivial (fun _ _ _ _ => trivial) (fun _ _ _ _ => trivial) d
theorem RDs.grow : ∀ (ds : List PyData) (vs : List V), RDs K H φ ds vs → RDs K H' φ ds vs
  | [], _, h => h
  | d :: ds, _, ⟨v, r, e1, h1, h2⟩ => ⟨v, r, e1, RD.grow hh hp hx d v h1, RDs.grow ds r h2⟩
theorem OR.grow {a : Addr} (hne : a ≠ p) : ∀ {ob : O}, OR K H φ a ob → OR K H' φ a ob
  | .lst xs, ⟨ws, q1, q2⟩ => ⟨ws, (hx a hne).trans q1, RDs.grow hh hp hx _ _ q2⟩
  | .dk xs, ⟨ws, q1, q2, q3⟩ => ⟨ws, (hx a hne).trans q1, q2, RDs.grow hh hp hx _ _ q3⟩
  | .dt xs, ⟨ws, q1, q2, q3⟩ => ⟨ws, (hx a hne).trans q1, q2, RDs.grow hh hp hx _ _ q3⟩
  | .lkK xs, ⟨ws, ⟨od, q1⟩, q2, q3⟩ => ⟨ws, ⟨od, (hx a hne).trans q1⟩, q2, RDs.grow hh hp hx _ _ q3⟩
  | .lkT xs, ⟨ws, ⟨od, q1⟩, q2, q3⟩ => ⟨ws, ⟨od, (hx a hne).trans q1⟩, q2, RDs.grow hh hp hx _ _ q3⟩
theorem RW.grow : ∀ {w : W} {v : V}, RW K H φ mg w v → RW K H' φ mg w v
  | .d x, v, h => RD.grow hh hp hx x v h
  | .r n, v, h => h
  | .g x, v, h => h
  | .s xs, v, ⟨a, vs, e1, h1, h2⟩ => ⟨a, vs, e1, h1.imp (fun q => FL.grow hh hp hx q) id, RDs.grow hh hp hx _ _ h2⟩
theorem ER.grow {σV : L2.St} {σ : En} (h : ER K H φ mg σV σ) : ER K H' φ mg σV σ :=
  ⟨h.len, fun i w q => let ⟨v, h1, h2⟩ := h.at_ i w q; ⟨v, h1, RW.grow hh hp hx h2⟩⟩
end
theorem SR.grow {S : So} {p : Addr} {us vs : List V} (hs : SR K H φ S) (hh : p ∈ φ.h) (hp : H p = some (.lst us)) : SR K (upd H p (.lst vs)) φ S := by
  obtain ⟨np, _⟩ := hs.hid p hh
  refine ⟨hs.len, hs.nd, fun i a ob h1 h2 => OR.grow hh hp (fun b hb => upd_ne hb) (fun e => np (e ▸ List.mem_of_getElem? h1)) (hs.ob i a ob h1 h2), fun b hb => ?_⟩
  by_cases e : b = p
  · subst e; exact ⟨np, vs, upd_same⟩
  · obtain ⟨h1, ws, h2⟩ := hs.hid b hb
    exact ⟨h1, ws, by rw [upd_ne e]; exact h2⟩
mutual
theorem RD.sub (e : ∀ b, b ∉ φ'.l ∧ b ∉ φ'.h → b ∉ φ.l ∧ b ∉ φ.h) : ∀ (d : PyData) (v : V), RD K H φ' d v → RD K H φ d v
  | .none, _, h => h
  | .bool _, _, h => h
  | .int _, _, h => h
  | .str _, _, h => h
  | .list ds, _, ⟨a, vs, e1, h1, h2⟩ => ⟨a, vs, e1, ⟨h1.1, e a h1.2⟩, RDs.sub e ds vs h2⟩
  | .tuple ds, _, ⟨a, vs, e1, h1, h2⟩ => ⟨a, vs, e1, h1, RDs.sub e ds vs h2⟩
  | .dict _, _, h => h
theorem RDs.sub (e : ∀ b, b ∉ φ'.l ∧ b ∉ φ'.h → b ∉ φ.l ∧ b ∉ φ.h) : ∀ (ds : List PyData) (vs : List V), RDs K H φ' ds vs → RDs K H φ ds vs
  | [], _, h => h
  | d :: ds, _, ⟨v, r, e1, h1, h2⟩ => ⟨v, r, e1, RD.sub e d v h1, RDs.sub e ds r h2⟩
end
/-- the store cut back to what stood before -/
theorem SR.cut {S' : So} {k : Nat} (hs : SR K H' φ' S') (e : Ext φ H φ' H') (hk : φ.l.length = k) : SR K H' φ (S'.take k) := by
  obtain ⟨t, ht⟩ := e.pre
  have hle : k ≤ S'.length := by rw [← hs.len, ← ht]; simp [hk]
  refine ⟨by simp [hk]; omega, ?_, fun i a o h1 h2 => ?_, fun b hb => ?_⟩
  · have := hs.nd; rw [← ht, List.nodup_append] at this; exact this.1
  · have hi : i < φ.l.length := (List.getElem?_eq_some_iff.mp h1).1
    have h1' : φ'.l[i]? = some a := by rw [← ht, List.getElem?_append_left hi]; exact h1
    have h2' : S'[i]? = some o := by rw [List.getElem?_take_of_lt (by omega)] at h2; exact h2
    have := hs.ob i a o h1' h2'
    have cut : ∀ {ds vs}, RDs K H' φ' ds vs → RDs K H' φ ds vs := fun {ds vs} h => RDs.sub (fun b hb => ⟨fun hb' => hb.1 (by rw [← ht]; exact List.mem_append_left _ hb'), fun hb' => hb.2 (e.hsub hb')⟩) ds vs h
    cases o with
    | lst xs => obtain ⟨vs, q1, q2⟩ := this; exact ⟨vs, q1, cut q2⟩
    | dk xs => obtain ⟨vs, q1, q2, q3⟩ := this; exact ⟨vs, q1, q2, cut q3⟩
    | dt xs => obtain ⟨vs, q1, q2, q3⟩ := this; exact ⟨vs, q1, q2, cut q3⟩
    | lkK xs => obtain ⟨vs, q1, q2, q3⟩ := this; exact ⟨vs, q1, q2, cut q3⟩
    | lkT xs => obtain ⟨vs, q1, q2, q3⟩ := this; exact ⟨vs, q1, q2, cut q3⟩
  · obtain ⟨h1, vs, h2⟩ := hs.hid b (e.hsub hb)
    exact ⟨fun hm => h1 (by rw [← ht]; exact List.mem_append_left _ hm), vs, h2⟩
theorem RD.cut (e : Ext φ H φ' H') {d : PyData} {v : V} (h : RD K H' φ' d v) : RD K H' φ d v :=
  RD.sub (fun b hb => ⟨fun hb' => hb.1 (e.pre.subset hb'), fun hb' => hb.2 (e.hsub hb')⟩) d v h
theorem RDs.cut (e : Ext φ H φ' H') {d : List PyData} {v : List V} (h : RDs K H' φ' d v) : RDs K H' φ d v :=
  RDs.sub (fun b hb => ⟨fun hb' => hb.1 (e.pre.subset hb'), fun hb' => hb.2 (e.hsub hb')⟩) d v h
/-- .. back to an earlier store, nothing of it changed its place -/
theorem Ext.cut (e : Ext φ H φ' H') : Ext φ H φ H' := ⟨List.prefix_refl _, ⟨[], rfl, fun _ h => by cases h⟩, e.trk, fun b o h n => ⟨(e.kept b o h n).1, n⟩, e.tups, e.frz⟩
end
end CL
end

section
/-! part CLFn -/
set_option Elab.async false
set_option linter.all false
set_option maxRecDepth 100000
/-! CLFn: what a def promises where no repr runs around it; calls of such defs. -/
namespace CL
open PySem PySem.Spec PyProof.Rows L2

/-- as the layer's FnOk, and nothing guards a repr around -/
structure FnG (P : Program) (w : World) (K : PySem.W.Frag) (mg : Str → Option Value) (base : Heap) (CX : CXT) (k : Nat) (f : Addr) (fd : FuncData) (ps : List Str) (sp : Sp) : Prop where
  len : ∀ vs H Q E, sp vs H Q E → vs.length = ps.length
  run : ∀ (A : Around) (outer : List Env) (s : Shared) (H : Hp) (args : Args) (us : List Value) (vs : List V) (Q : VK) (E : XK), A.guards = some [] → Room k A → Env0 P w K mg base A outer s H →
    BindsTo s fd args (ps.zip us) → Vals vs us → sp vs H Q E → codeAny (model P w) A (.call (.ref f) args) (CR CX outer P w H s Q E) s
theorem FnG.mono {P : Program} {w : World} {K : PySem.W.Frag} {mg : Str → Option Value} {base : Heap} {CX : CXT} {j k : Nat} {f : Addr} {fd : FuncData} {ps : List Str} {sp : Sp} (F : FnG P w K mg base CX j f fd ps sp) (h : j ≤ k) : FnG P w K mg base CX k f fd ps sp :=
  { F with run := fun A o s H a us vs Q E g r => F.run A o s H a us vs Q E g (r.mono h) }
/-- an exception's wish, by the slots where it is raised -/
abbrev EK := L2.St → XK
abbrev EN : EK := fun _ => E0
/-- what a call at these slots lets out is taken -/
def PaAt (CX : CXT) (X : Cx) (E : EK) : Prop := ∀ (σ : L2.St) (pins : List (Addr × Obj)) (H : Hp) (s : Shared) (e : Value) (s' : Shared), Inv X pins σ H s → CX X.stack H s (E σ) e s' → X.xe e s'
theorem pa0 {X : Cx} {E : EK} : PaAt CX0 X E := fun _ _ _ _ _ _ _ h => h.elim
def tCallX (sp : Sp) (dvs : List V) (E : EK) (t : TA) : TE := fun σ H Q => t σ H fun vs H1 => sp (vs ++ dvs) H1 Q (E σ)
section
variable {X : Cx} {CX : CXT} {k i : Nat} {f : Addr} {fd : FuncData} {ps : List Str} {sp : Sp} {E : EK} {x : Str} {p pos : Pos} {e : Expr} {es : List Expr} {t : TA} {ds : List Value} {dvs : List V}
theorem runG {pins : List (Addr × Obj)} {σ : L2.St} {H : Hp} {s : Shared} {Q : VK} {us : List Value} {vs : List V} (F : FnG X.prog X.w X.K X.mg X.base CX k f fd ps sp) (hg : X.A.guards = some []) (hr : Room k X.A) (hb : Binds X.K fd ps ds) (hd : Vals dvs ds) (hx : PaAt CX X E)
    (I : Inv X pins σ H s) (r : Vals vs us) (h : sp (vs ++ dvs) H Q (E σ)) : wpAny (model X.prog X.w) X.A (call (.ref f) us) (EP X pins σ Q) X.xe s := by
  have ra := r.append hd
  have hl := F.len _ _ _ _ h
  rw [ra.length] at hl
  apply wpAny_call
  refine codeAny_mono (F.run X.A X.stack s H ⟨us, []⟩ _ _ Q (E σ) hg hr I.env0 (hb s us I.kIn hl) ra h) ?_
  intro r s' hq
  match r, hq with
  | .error e, hq => exact hx σ pins H s e s' I hq
  | .ok (.ret u), hq => exact I.after hq
/-- a def of the module, called by its name -/
theorem pe_fnG (F : FnG X.prog X.w X.K X.mg X.base CX k f fd ps sp) (hgd : X.A.guards = some []) (hr : Room k X.A) (hg : Gl X x) (hm : X.mg x = some (.ref f)) (hk : PySem.W.keepIn X.K (.ref f) = true) (hb : Binds X.K fd ps ds) (hd : Vals dvs ds) (hx : PaAt CX X E)
    (ha : PA X (e :: es) t) (hdb : (x == ("__debug__" : Str)) = false) (he : starEach (e :: es) X.env = (false, eval e X.env) :: starEach es X.env) (hpl : (backTo pos (starEach es X.env)).any (·.1) = false) :
    PE X (.Call (.Name x p) (e :: es) [] pos) (tCallX sp dvs E t) where
  run := fun pins s σ H Q I h => wpAny_Call_Name_kw (ld_glob I hg hm (PySem.W.callWith_K (h₀ := X.base) I.ok.mod.kin hk (thn (ha.run pos pins s σ H _ I h) fun us s1 ⟨vs, H1, I1, r, q⟩ => ⟨I1.kIn, runG F hgd hr hb hd hx I1 r q⟩) he hpl) hdb)
theorem pe_fnG0 (F : FnG X.prog X.w X.K X.mg X.base CX k f fd ps sp) (hgd : X.A.guards = some []) (hr : Room k X.A) (hg : Gl X x) (hm : X.mg x = some (.ref f)) (hk : PySem.W.keepIn X.K (.ref f) = true) (hb : Binds X.K fd ps ds) (hd : Vals dvs ds) (hx : PaAt CX X E)
    (hdb : (x == ("__debug__" : Str)) = false) : PE X (.Call (.Name x p) [] [] pos) (tCallX sp dvs E tNil) where
  run := fun pins s σ H Q I h => wpAny_Call_Name_kw (ld_glob I hg hm (PySem.W.callWith_K0 I.kIn hk (runG (us := []) (vs := []) F hgd hr hb hd hx I .nil h)) hdb)
/-- a def that a local name holds; which one is told by its address -/
def tHeld (i : Nat) (S : Addr → Option Sp) (E : EK) (t : TA) : TE := fun σ H Q => ∃ f sp, σ[i]? = some (some (.ref f)) ∧ S f = some sp ∧ t σ H fun vs H1 => sp vs H1 Q (E σ)
structure HeldG (X : Cx) (CX : CXT) (k : Nat) (f : Addr) (sp : Sp) : Prop where
  ex : ∃ (fd : FuncData) (ps : List Str), FnG X.prog X.w X.K X.mg X.base CX k f fd ps sp ∧ PySem.W.keepIn X.K (.ref f) = true ∧ Binds X.K fd ps []
theorem pe_heldG {S : Addr → Option Sp} (hS : ∀ f sp, S f = some sp → HeldG X CX k f sp) (hgd : X.A.guards = some []) (hr : Room k X.A) (hN : X.N[i]? = some x) (hv : Vis X.env.scope x) (hx : PaAt CX X E)
    (ha : PA X (e :: es) t) (hdb : (x == ("__debug__" : Str)) = false) (hcd : (x == ("__classdict__" : Str)) = false) (he : starEach (e :: es) X.env = (false, eval e X.env) :: starEach es X.env) (hpl : (backTo pos (starEach es X.env)).any (·.1) = false) :
    PE X (.Call (.Name x p) (e :: es) [] pos) (tHeld i S E t) where
  run := fun pins s σ H Q I h => by
    obtain ⟨f, sp, hs, hsp, ht⟩ := h
    obtain ⟨fd, ps, F, hk, hb⟩ := (hS f sp hsp).ex
    refine wpAny_Call_Name_kw (thn ((pe_var (pos := p) hN hv hdb hcd).run pins s σ H (fun v H1 => v = .ref f ∧ H1 = H) I ⟨.ref f, hs, rfl, rfl⟩) ?_)
    rintro u s1 ⟨v, H1, I1, r1, rfl, rfl⟩
    cases r1
    refine PySem.W.callWith_K (h₀ := X.base) I.ok.mod.kin hk (thn (ha.run pos pins s1 σ H1 _ I1 ht) fun us s2 ⟨vs, H2, I2, r, q⟩ => ⟨I2.kIn, ?_⟩) he hpl
    exact runG (dvs := []) F hgd hr hb .nil hx I2 r (by rw [List.append_nil]; exact q)
end
/-- a def of the text, by its body -/
theorem fnG_of {CX : CXT} {P : Program} {w : World} {K : PySem.W.Frag} {mg : Str → Option Value} {base : Heap} {k : Nat} {f : Addr} {x qual : Str} {st : Stmt} {fd : FuncData} {N ps : List Str} {sp : Sp} (F : Fun K x qual st f fd) (Sc : FnScope N ps (defScope st))
    (len : ∀ vs H Q E, sp vs H Q E → vs.length = ps.length)
    (hbody : ∀ (cdv : Value) (A : Around) (outer : List Env) (s : Shared) (H : Hp) (vs : List V) (Q : VK) (E : XK), A.guards = some [] → Room k (A.deeper (envOfC qual (defScope st) s.heap.objs.size f cdv)) → sp vs H Q E →
      ∃ t, PSs (cxOf CX P w K mg base N qual (defScope st) f cdv A outer s H E) (defBody st) t ∧ t { nx := fun _ H' => Q .non H', rt := Q } (L2.start N vs) H) : FnG P w K mg base CX (k + 1) f fd ps sp := by
  obtain ⟨oc, od, kV, doc, pm, an, cdv, ct, osl, rfl, lk, hcd⟩ := F.ex
  refine ⟨len, fun A outer s H args us vs Q E hgd hr e0 hb r hsp => ?_⟩
  have stay : ∀ b o, base.get? b = some o → s.heap.get? b = some o := fun b o e => (e0.bs b o e).1
  have KX : K.In s.heap := e0.mod.kin.keeps stay
  have kinds : ∀ y ∈ ps.zip us, (defScope st).names.lookup y.1 = some .local ∨ ((defScope st).names.lookup y.1 = some .cell ∧ ((cellsFrom (s.heap.objs.size + 1) (defScope st).names []).lookup y.1).isSome = true) := by
    rintro ⟨n, v⟩ hy
    exact (Sc.par n (List.of_mem_zip hy).1).imp id fun q => ⟨q, PySem.W.cellsFrom_some _ _ _ (.inl q)⟩
  refine codeAny_call_function hr.depth (KX _ _ lk) rfl Sc.co Sc.gen rfl (PySem.W.codeRec_of KX hcd) (hb _ _ _ _ (wpAny_newFunctionEnv_cells Sc.kind kinds fun env he s1 x => ?_))
  subst he
  have lim : s.heap.NoLimit := e0.mod.nolimit.keeps stay
  refine ⟨lim.keeps x.toInCall.keep, codeAny_func ?_⟩
  obtain ⟨t, ht, hq⟩ := hbody cdv A outer s H vs Q E hgd (hr.deeper _) hsp
  refine wpAny_mono (ht.run [] s1 _ H _ (inv_start Sc hr.hd e0 (len _ _ _ _ hsp) r x) hq) (fun fl s' hs => ?_) fun _ _ hs => hs
  match fl, hs with
  | .ret u, ⟨v, _, H', J, rv, q⟩ => exact ⟨v, H', J.os, J.bare, J.base, J.hok, rv, q⟩
  | .next, ⟨_, H', J, q⟩ => exact ⟨.non, H', J.os, J.bare, J.base, J.hok, rfl, q⟩
  | .brk, ⟨_, _, _, q⟩ => exact False.elim q
  | .cont, ⟨_, _, _, q⟩ => exact False.elim q
/-! ### the law's end -/
/-- the script's object, read and never written -/
def scriptH (a : Addr) (o : Obj) (xs : List V) : Hp := fun b => if b = a then some (.frz o (.lst xs)) else none
theorem law_callG {P : Program} {w : World} {K : PySem.W.Frag} {mg mb : Str → Option Value} {CX : CXT} {k : Nat} {fa a : Addr} {fd : FuncData} {x : Str} {sp : Sp} {s₁ : Shared} {vs : List Value} {ns : List Int}
    (KX : K.In s₁.heap) (hns : s₁.heap.Ns mainGlobals mg) (hb : s₁.heap.Ns builtinsNs mb) (hbb : ∀ x : Str, x ≠ "__name__" → mb x = bootBuiltins x) (hlim : s₁.heap.NoLimit) (hg : s₁.gens = #[])
    (ha : s₁.heap.get? a = some { cls := .type "list", data := .seq vs.toArray }) (hi : IntsAre vs ns) (hl : ns.length ≤ sizeLine) (hr : Room k callerA)
    (F : ∀ base : Heap, K.In base → base.Ns mainGlobals mg → FnG P w K mg base CX k fa fd [x] sp) (hbind : ∀ (s : Shared) (u : Value), BindsTo s fd ⟨[u], []⟩ [(x, u)])
    (hsp : ∀ H : Hp, ((∃ o, H = scriptH a o (ns.map V.int)) ∨ (H = (fun _ => none) ∧ KL K a (ns.map V.int))) → sp [.ref a] H (fun v _ => v = .bl true) fun _ _ _ => False)
    (hCX : ∀ H e s', CX [] H s₁ (fun _ _ _ => False) e s' → False) :
    codeAny (model P w) callerA (.call (.ref fa) ⟨[.ref a], []⟩) (fun r s' => r = .ok (.ret (.bool true)) ∧ OldK s₁.heap s'.heap ∧ s'.os = s₁.os ∧ AllBare s'.gens) s₁ := by
  have rv := vals_ints hi
  have lenV := hi.length
  generalize ho : ({ cls := .type "list", data := .seq vs.toArray } : Obj) = o at ha
  -- what is tracked at the entry: the script alone, or nothing
  suffices core : ∀ H : Hp, (∀ b u, H b = some u → b = a ∧ u = .frz o (.lst (ns.map V.int))) → (H a ≠ none → K.lookup a = none) → ((∃ o, H = scriptH a o (ns.map V.int)) ∨ (H = (fun _ => none) ∧ KL K a (ns.map V.int))) →
      codeAny (model P w) callerA (.call (.ref fa) ⟨[.ref a], []⟩) (fun r s' => r = .ok (.ret (.bool true)) ∧ OldK s₁.heap s'.heap ∧ s'.os = s₁.os ∧ AllBare s'.gens) s₁ by
    cases hk : K.lookup a with
    | none =>
      refine core (scriptH a o (ns.map V.int)) (fun b u e => ?_) (fun _ => hk) (.inl ⟨o, rfl⟩)
      by_cases hb : b = a
      · subst hb; exact ⟨rfl, (Option.some.inj ((if_pos rfl).symm.trans e)).symm⟩
      · exact absurd ((if_neg hb).symm.trans e) (by simp)
    | some ob =>
      have e := KX a ob hk
      rw [ha] at e
      cases e
      subst ho
      exact core (fun _ => none) (fun b u e => by cases e) (fun z => absurd rfl z) (.inr ⟨rfl, _, vs.toArray, _, hk, rfl, rfl, rfl, by rw [List.size_toArray, lenV]; exact hl, by simpa using rv⟩)
  intro H hH hka hcase
  have Hn : ∀ {b}, b ≠ a → H b = none := fun {b} hb => by
    cases q : H b with
    | none => rfl
    | some u => exact absurd (hH b u q).1 hb
  have hok : HOk P w H s₁.heap := fun b u z => by
    obtain ⟨rfl, rfl⟩ := hH b u z
    exact ⟨ha, by rw [List.length_map]; exact hl, vs, _, rv, by rw [ha, ← ho]⟩
  have away : ∀ {b : Addr} {ob : Obj} {es : Array DictEntry} {ep : Nat}, s₁.heap.get? b = some ob → ob.data = .dict es ep → H b = none := fun {b ob es ep} e d => Hn fun hb => by
    subst hb; rw [ha] at e; cases e; rw [← ho] at d; cases d
  have nsK : ∀ {b : Addr} {m : Str → Option Value}, s₁.heap.Ns b m → (hidT s₁.heap H).Ns b m := fun {b m} ⟨ob, es, ep, e, d, r⟩ => ⟨ob, es, ep, hidT_get e (away e d), d, r⟩
  have kb : K.In (hidT s₁.heap H) := fun b ob e => hidT_get (KX b ob e) (by
    cases q : H b with
    | none => rfl
    | some u =>
      obtain ⟨rfl, _⟩ := hH b u q
      rw [hka (by rw [q]; simp)] at e; cases e)
  have md : Mod K mg (hidT s₁.heap H) := ⟨kb, nsK hns, ⟨mb, nsK hb, hbb⟩, let ⟨mc, h1, h2⟩ := hlim; ⟨mc, nsK h1, h2⟩⟩
  have e0 : Env0 P w K mg (hidT s₁.heap H) callerA [] s₁ H := ⟨rfl, md, fun b ob e => of_hidT e, Nat.le_of_eq (hidT_size _ _), trivial, fun b hb => absurd (show b ∈ ([] : List Addr) from hb) (by simp), hok, AllBare.of_eq hg⟩
  refine codeAny_mono ((F _ kb (nsK hns)).run callerA [] s₁ H ⟨[.ref a], []⟩ [.ref a] [.ref a] _ _ rfl hr e0 (hbind s₁ (.ref a)) (.cons rfl .nil) (hsp H hcase)) fun r s' h => ?_
  match r, h with
  | .error e, h => exact (hCX H e s' h).elim
  | .ok (.ret u), ⟨v, H', os, bare, un, hok', r', q⟩ =>
    have q : v = .bl true := q
    subst q
    cases r'
    refine ⟨rfl, OldK.of_keep fun b ob e => ?_, os, bare⟩
    cases q : H b with
    | none => exact un.keep b ob e q (fun z => absurd (show b ∈ ([] : List Addr) from z) (by simp)) (by simp)
    | some u =>
      obtain ⟨rfl, rfl⟩ := hH b u q
      obtain ⟨e2, _⟩ := hok' b _ (un.frzs b o _ q)
      rw [ha] at e; cases e
      exact e2
/-- the walk of a law row: its def's promise, told once for the module's written part and names -/
theorem walkG {l : PySem.W.OpenLaw} {n k : Nat} {q : Program} {loose : List Str} {XP : (Str → Option Value) → Heap → Prop} {YP : World → Heap → Prop} {d : DefRec} {K : Params → PySem.W.Frag} {CX : World → CXT} {sp : World → (Str → Option Value) → Sp} {x : Str}
    (hn : l.most = some n) (hn2 : n ≤ sizeLine) (hdf : d.params.defaults = []) (hr : Room k callerA) (hY : ∀ (w : World) (h : Heap), YP w h → (K w.params).In h)
    (F : ∀ (w : World) (mg : Str → Option Value) (fa : Addr) (h : Heap), (K w.params).In h → h.Ns mainGlobals mg → mg d.name = some (.ref fa) →
      ∃ fd : FuncData, (∀ (s : Shared) (u : Value), BindsTo s fd ⟨[u], []⟩ [(x, u)]) ∧
        ∀ base : Heap, (K w.params).In base → base.Ns mainGlobals mg → FnG l.prog w (K w.params) mg base (CX w) k fa fd [x] (sp w mg))
    (hsp : ∀ (w : World) (mg : Str → Option Value) (H : Hp) (a : Addr) (ns : List Int), ns.length ≤ n → ((∃ o, H = scriptH a o (ns.map V.int)) ∨ (H = (fun _ => none) ∧ KL (K w.params) a (ns.map V.int))) → sp w mg [.ref a] H (fun v _ => v = .bl true) fun _ _ _ => False)
    (hCX : ∀ (w : World) (H : Hp) (s : Shared) (e : Value) (s' : Shared), CX w [] H s (fun _ _ _ => False) e s' → False) :
    PySem.W.WalkO q loose XP YP l.row.toRowW d [] (fun f vs => PySem.call f vs) :=
  Att.attach_call hn hdf fun w s₀ s₁ mg mb fa o pm cd doc a vs ns G Y ho hd hcd hmg hobj hints hlen hg => by
    have KX := hY w _ Y
    obtain ⟨fd, hb, hF⟩ := F w mg fa _ KX G.T.g hmg
    exact law_callG KX G.T.g G.T.b G.T.builtins G.T.nolimit hg hobj hints (Nat.le_trans hlen hn2) hr hF hb (fun H h => hsp w mg H a ns hlen h) fun H e s' => hCX w H s₁ e s'
end CL
end

section
/-! part CLCtl -/
set_option Elab.async false
set_option linter.all false
set_option maxRecDepth 100000
/-! CLCtl: readings by denotations; names, operators, tests, calls, statements, loops. -/
namespace CL
open PySem PySem.Spec PyProof.Rows L2

section
variable (K : PySem.W.Frag) (mg : Str → Option Value) (E : XK)
/-- what is wanted of an exception -/
def XR (x : XV) (H : Hp) (φ : Fi) : Prop :=
  ∀ (C : Addr), mg x.cls = some (.ref C) → (x.fs = [] → E (.ref C) none H) ∧
    ∀ (a : Addr) (vs : List V), H a = some (.xd ((x.fs.map (·.1)).zip vs)) → RDs K H φ (x.fs.map (·.2)) vs → E (.ref C) (some a) H
def oE (φ : Fi) (H : Hp) (Q : VK) : RE W → Prop
  | .ok w S' => ∀ φ' H' v, Ext φ H φ' H' → SR K H' φ' S' → RW K H' φ' mg w v → Q v H'
  | .xc x S' => ∀ φ' H', Ext φ H φ' H' → SR K H' φ' S' → XR K mg E x H' φ'
def oT (φ : Fi) (H : Hp) (Q : Bool → Hp → Prop) : RE Bool → Prop
  | .ok w S' => ∀ φ' H', Ext φ H φ' H' → SR K H' φ' S' → Q w H'
  | .xc x S' => ∀ φ' H', Ext φ H φ' H' → SR K H' φ' S' → XR K mg E x H' φ'
def oA (φ : Fi) (H : Hp) (Q : List V → Hp → Prop) : RE (List W) → Prop
  | .ok ws S' => ∀ φ' H' vs, Ext φ H φ' H' → SR K H' φ' S' → RWs K H' φ' mg ws vs → Q vs H'
  | .xc x S' => ∀ φ' H', Ext φ H φ' H' → SR K H' φ' S' → XR K mg E x H' φ'
def tE (E : EK) (d : DE) : TE := fun σV H Q => ∃ φ σ S r, SR K H φ S ∧ ER K H φ mg σV σ ∧ d σ S = some r ∧ oE K mg (E σV) φ H Q r
def tT (E : EK) (d : DT) : TT := fun σV H Q => ∃ φ σ S r, SR K H φ S ∧ ER K H φ mg σV σ ∧ d σ S = some r ∧ oT K mg (E σV) φ H Q r
def tA (E : EK) (d : DA) : TA := fun σV H Q => ∃ φ σ S r, SR K H φ S ∧ ER K H φ mg σV σ ∧ d σ S = some r ∧ oA K mg (E σV) φ H Q r
def oS (E : EK) (φ : Fi) (H : Hp) (D : Ends) : Out → Prop
  | .nx σ' S' => ∀ φ' H' σV', Ext φ H φ' H' → SR K H' φ' S' → ER K H' φ' mg σV' σ' → D.nx σV' H'
  | .rt w S' => ∀ φ' H' v, Ext φ H φ' H' → SR K H' φ' S' → RW K H' φ' mg w v → D.rt v H'
  | .bk σ' S' => ∀ φ' H' σV', Ext φ H φ' H' → SR K H' φ' S' → ER K H' φ' mg σV' σ' → D.bk σV' H'
  | .ct σ' S' => ∀ φ' H' σV', Ext φ H φ' H' → SR K H' φ' S' → ER K H' φ' mg σV' σ' → D.ct σV' H'
  | .xc x σ' S' => ∀ φ' H' σV', Ext φ H φ' H' → SR K H' φ' S' → ER K H' φ' mg σV' σ' → XR K mg (E σV') x H' φ'
def tS (E : EK) (d : DS) : TS := fun D σV H => ∃ φ σ S o, SR K H φ S ∧ ER K H φ mg σV σ ∧ d σ S = some o ∧ oS K mg E φ H D o
/-- a two-place operation -/
def rO (g : So → W → W → Option W) : R2 := fun v1 v2 H Q => ∃ φ S x y w, SR K H φ S ∧ RW K H φ mg x v1 ∧ RW K H φ mg y v2 ∧ g S x y = some w ∧
  ∀ φ' H' v, Ext φ H φ' H' → SR K H' φ' S → RW K H' φ' mg w v → Q v H'
def rU1 (g : So → W → Option W) : V → Hp → VK → Prop := fun v1 H Q => ∃ φ S x w, SR K H φ S ∧ RW K H φ mg x v1 ∧ g S x = some w ∧
  ∀ φ' H' v, Ext φ H φ' H' → SR K H' φ' S → RW K H' φ' mg w v → Q v H'
def rC (g : So → List W → Option W) : List V → Hp → VK → Prop := fun vs H Q => ∃ φ S ws w, SR K H φ S ∧ RWs K H φ mg ws vs ∧ g S ws = some w ∧
  ∀ φ' H' v, Ext φ H φ' H' → SR K H' φ' S → RW K H' φ' mg w v → Q v H'
/-- a method, which may write -/
def rM (g : So → W → List W → Option (W × So)) : V → List V → Hp → VK → Prop := fun v1 vs H Q => ∃ φ S x ws w S', SR K H φ S ∧ RW K H φ mg x v1 ∧ RWs K H φ mg ws vs ∧ g S x ws = some (w, S') ∧
  ∀ φ' H' v, Ext φ H φ' H' → SR K H' φ' S' → RW K H' φ' mg w v → Q v H'
/-- a def's promise -/
def spF (F : DF) : Sp := fun vs H Q E => ∃ φ S ws r, SR K H φ S ∧ RWs K H φ mg ws vs ∧ F ws S = some r ∧ oE K mg E φ H Q r
end
abbrev SE (X : Cx) (E : EK) (e : Expr) (d : DE) : Prop := PE X e (tE X.K X.mg E d)
abbrev ST (X : Cx) (E : EK) (e : Expr) (d : DT) : Prop := PT X e (tT X.K X.mg E d)
abbrev SA (X : Cx) (E : EK) (es : List Expr) (d : DA) : Prop := PA X es (tA X.K X.mg E d)
abbrev SS (X : Cx) (E : EK) (s : Stmt) (d : DS) : Prop := PS X s (tS X.K X.mg E d)
abbrev SSs (X : Cx) (E : EK) (ss : List Stmt) (d : DS) : Prop := PSs X ss (tS X.K X.mg E d)

section
variable {X : Cx} {E : EK} {pos p : Pos}
theorem PEw {e : Expr} {t t' : TE} (h : PE X e t) (k : ∀ σ H Q, t' σ H Q → t σ H Q) : PE X e t' := ⟨fun pins s σ H Q I q => h.run pins s σ H Q I (k σ H Q q)⟩
theorem PTw {e : Expr} {t t' : TT} (h : PT X e t) (k : ∀ σ H Q, t' σ H Q → t σ H Q) : PT X e t' := ⟨fun pins s σ H Q I q => h.run pins s σ H Q I (k σ H Q q)⟩
theorem PWw {e : Expr} {t t' : TT} (h : PW X e t) (k : ∀ σ H Q, t' σ H Q → t σ H Q) : PW X e t' := ⟨fun wh pins s σ H Q I q => h.run wh pins s σ H Q I (k σ H Q q)⟩
theorem PAw {e : List Expr} {t t' : TA} (h : PA X e t) (k : ∀ σ H Q, t' σ H Q → t σ H Q) : PA X e t' := ⟨fun ps pins s σ H Q I q => h.run ps pins s σ H Q I (k σ H Q q)⟩
theorem PSw {e : Stmt} {t t' : TS} (h : PS X e t) (k : ∀ D σ H, t' D σ H → t D σ H) : PS X e t' := ⟨fun pins s σ H D I q => h.run pins s σ H D I (k D σ H q)⟩
theorem PSsw {e : List Stmt} {t t' : TS} (h : PSs X e t) (k : ∀ D σ H, t' D σ H → t D σ H) : PSs X e t' := ⟨fun pins s σ H D I q => h.run pins s σ H D I (k D σ H q)⟩

/-! ### names, constants -/
def dVar (i : Nat) : DE := fun σ S => match σ[i]? with
  | some (some w) => some (.ok w S)
  | _ => none
def dC (x : PyData) : DE := fun _ S => some (.ok (.d x) S)
def dG (x : Str) : DE := fun _ S => some (.ok (.g x) S)
theorem e_var (i : Nat) {x : Str} (hN : X.N[i]? = some x := by rfl) (hv : Vis X.env.scope x := by first | exact Or.inl rfl | exact Or.inr (Or.inl rfl) | exact Or.inr (Or.inr rfl)) (hd : (x == ("__debug__" : Str)) = false := by decide)
    (hcd : (x == ("__classdict__" : Str)) = false := by decide) : SE X E (.Name x p) (dVar i) := by
  refine PEw (pe_var hN hv hd hcd) fun σV H Q h => ?_
  obtain ⟨φ, σ, S, r, hs, he, hd, hq⟩ := h
  unfold dVar at hd
  split at hd
  · rename_i w hw
    cases hd
    obtain ⟨v, h1, h2⟩ := he.at_ i w hw
    exact ⟨v, h1, hq φ H v .refl hs h2⟩
  · cases hd
theorem e_c {e : Expr} {v : V} {x : PyData} (h : PE X e (tC v)) (hx : ∀ H φ, RD X.K H φ x v) : SE X E e (dC x) :=
  PEw h fun σV H Q ⟨φ, σ, S, r, hs, he, hd, hq⟩ => by cases hd; exact hq φ H v .refl hs (hx H φ)
theorem e_int {i j} : SE X E (.Constant (.int i) j p) (dC (.int i)) := e_c pe_int fun _ _ => rfl
theorem e_bl {b j} : SE X E (.Constant (.bool b) j p) (dC (.bool b)) := e_c pe_bl fun _ _ => rfl
theorem e_non {j} : SE X E (.Constant .none j p) (dC .none) := e_c pe_non fun _ _ => rfl
theorem e_str {x j} : SE X E (.Constant (.str x) j p) (dC (.str x)) := e_c pe_str fun _ _ => rfl
/-- a constant of the module -/
theorem e_glob {x : Str} {v : V} {u : Value} {c : PyData} (hm : X.mg x = some u) (hr : RelV v u) (hx : ∀ H φ, RD X.K H φ c v) (hg : Gl X x := by rfl) (hd : (x == ("__debug__" : Str)) = false := by decide) : SE X E (.Name x p) (dC c) :=
  e_c (pe_glob hg hm hr hd) hx
/-- a def of the module, as a value -/
theorem e_def {x : Str} {f : Addr} (hm : X.mg x = some (.ref f)) (hg : Gl X x := by rfl) (hd : (x == ("__debug__" : Str)) = false := by decide) : SE X E (.Name x p) (dG x) :=
  PEw (pe_glob (v := .ref f) hg hm rfl hd) fun σV H Q ⟨φ, σ, S, r, hs, he, hd, hq⟩ => by cases hd; exact hq φ H _ .refl hs ⟨f, hm, rfl⟩

/-! ### operators -/
def dBin (g : So → W → W → Option W) (a b : DE) : DE := fun σ S => bnd (a σ S) fun x S1 => bnd (b σ S1) fun y S2 => giv (g S2 x y) S2
def dUn (g : So → W → Option W) (a : DE) : DE := fun σ S => bnd (a σ S) fun x S1 => giv (g S1 x) S1
variable {a b c : Expr} {da db dc : DE}
theorem XR.keep {E : XK} {x : XV} {H H1 : Hp} {φ φ1 : Fi} {S : So} (e : Ext φ H φ1 H1)
    (h : ∀ φ' H', Ext φ H φ' H' → SR X.K H' φ' S → XR X.K X.mg E x H' φ') : ∀ φ' H', Ext φ1 H1 φ' H' → SR X.K H' φ' S → XR X.K X.mg E x H' φ' := fun φ' H' e' s => h φ' H' (e.trans e') s
theorem bin_rd {g : So → W → W → Option W} {r : R2} (hr : ∀ v1 v2 H Q, rO X.K X.mg g v1 v2 H Q → r v1 v2 H Q) (σV : L2.St) (H : Hp) (Q : VK) (h : tE X.K X.mg E (dBin g da db) σV H Q) : tOp r (tE X.K X.mg E da) (tE X.K X.mg E db) σV H Q := by
  obtain ⟨φ, σ, S, r', hs, he, hd, hq⟩ := h
  unfold dBin at hd
  match ha : da σ S, hd with
  | none, hd => cases hd
  | some (.xc x S1), hd =>
    cases hd
    exact ⟨φ, σ, S, .xc x S1, hs, he, ha, hq⟩
  | some (.ok x S1), hd =>
    refine ⟨φ, σ, S, .ok x S1, hs, he, ha, fun φ1 H1 v1 e1 s1 x1 => ?_⟩
    rw [bnd_ok] at hd
    match hb : db σ S1, hd with
    | none, hd => cases hd
    | some (.xc y S2), hd =>
      cases hd
      exact ⟨φ1, σ, S1, .xc y S2, s1, he.mono e1, hb, XR.keep e1 hq⟩
    | some (.ok y S2), hd =>
      refine ⟨φ1, σ, S1, .ok y S2, s1, he.mono e1, hb, fun φ2 H2 v2 e2 s2 y2 => hr _ _ _ _ ?_⟩
      rw [bnd_ok] at hd
      match hg : g S2 x y, hd with
      | none, hd => cases hd
      | some w, hd =>
        cases hd
        exact ⟨φ2, S2, x, y, w, s2, x1.mono e2, y2, hg, fun φ' H' v e' => hq φ' H' v ((e1.trans e2).trans e')⟩
theorem e_bin {op : Operator} {g : So → W → W → Option W} (ho : OpR X (binaryOp op) (rO X.K X.mg g)) (ha : SE X E a da) (hb : SE X E b db) : SE X E (.BinOp a op b pos) (dBin g da db) :=
  PEw (pe_op ho ha hb) fun σV H Q h => bin_rd (fun _ _ _ _ q => q) σV H Q h
theorem e_cmp {op : CmpOp} {g : So → W → W → Option W} (ho : OpR X (compareOp op) (rO X.K X.mg g)) (ha : SE X E a da) (hb : SE X E b db) (hm : behindInMarks op b = false := by first | exact nomark _ | rfl) : SE X E (.Compare a [op] [b] pos) (dBin g da db) :=
  PEw (pe_cmpR ho ha hb hm) fun σV H Q h => bin_rd (fun _ _ _ _ q => q) σV H Q h
theorem un_rd {g : So → W → Option W} (σV : L2.St) (H : Hp) (Q : VK) (h : tE X.K X.mg E (dUn g da) σV H Q) : tUn (rU1 X.K X.mg g) (tE X.K X.mg E da) σV H Q := by
  obtain ⟨φ, σ, S, r', hs, he, hd, hq⟩ := h
  unfold dUn at hd
  match ha : da σ S, hd with
  | none, hd => cases hd
  | some (.xc x S1), hd =>
    cases hd
    exact ⟨φ, σ, S, .xc x S1, hs, he, ha, hq⟩
  | some (.ok x S1), hd =>
    refine ⟨φ, σ, S, .ok x S1, hs, he, ha, fun φ1 H1 v1 e1 s1 x1 => ?_⟩
    rw [bnd_ok] at hd
    match hg : g S1 x, hd with
    | none, hd => cases hd
    | some w, hd =>
      cases hd
      exact ⟨φ1, S1, x, w, s1, x1, hg, fun φ' H' v e' => hq φ' H' v (e1.trans e')⟩
theorem e_un {op : UnaryOp} {g : So → W → Option W} (ho : UnR X (unaryOp op) (rU1 X.K X.mg g)) (ha : SE X E a da) : SE X E (.UnaryOp op a pos) (dUn g da) :=
  PEw (pe_un ho ha) un_rd

/-! ### tests -/
def bOf : W → Option Bool
  | .d (.bool b) => some b
  | _ => none
@[simp] theorem bOf_b (b : Bool) : bOf (.d (.bool b)) = some b := rfl
/-- a value that is a bool, as a test -/
def dB (d : DE) : DT := fun σ S => bnd (d σ S) fun w S1 => giv (bOf w) S1
theorem bOf_eq {w : W} {b : Bool} (h : bOf w = some b) : w = .d (.bool b) := by
  unfold bOf at h; split at h
  · cases h; rfl
  · cases h
theorem b_rd (σV : L2.St) (H : Hp) (Q : Bool → Hp → Prop) (h : tT X.K X.mg E (dB da) σV H Q) : tE X.K X.mg E da σV H fun x H' => ∃ k, x = .bl k ∧ Q k H' := by
  obtain ⟨φ, σ, S, r', hs, he, hd, hq⟩ := h
  unfold dB at hd
  match ha : da σ S, hd with
  | none, hd => cases hd
  | some (.xc x S1), hd => cases hd; exact ⟨φ, σ, S, .xc x S1, hs, he, ha, hq⟩
  | some (.ok x S1), hd =>
    refine ⟨φ, σ, S, .ok x S1, hs, he, ha, fun φ1 H1 v1 e1 s1 x1 => ?_⟩
    rw [bnd_ok] at hd
    match hg : bOf x, hd with
    | none, hd => cases hd
    | some k, hd =>
      cases hd
      rw [bOf_eq hg] at x1
      exact ⟨k, x1, hq φ1 H1 e1 s1⟩
theorem t_cmp {op : CmpOp} {g : So → W → W → Option W} (ho : OpR X (compareOp op) (rO X.K X.mg g)) (ha : SE X E a da) (hb : SE X E b db) (hm : behindInMarks op b = false := by first | exact nomark _ | rfl) : ST X E (.Compare a [op] [b] pos) (dB (dBin g da db)) := by
  refine PTw (pt_cmpR ho ha hb hm) fun σV H Q h => ?_
  have h1 := b_rd σV H Q h
  exact bin_rd (fun _ _ _ _ q => q) σV H _ h1
theorem t_val {e : Expr} {d : DE} (h : SE X E e d) (he : ∀ whole, isTrue e X.env whole = (do let v ← whole; standAt e.pos; holding [v] (truthy v)) := by intro _; rfl) : ST X E e (dB d) :=
  PTw (pt_val h he) fun σV H Q q => b_rd σV H Q q
/-- the truth of any value -/
def rd (S : So) : W → Option PyData
  | .d x => some x
  | .r n => match S[n]? with
    | some (.lst xs) => some (.list xs)
    | _ => none
  | .g _ => none
  | .s xs => some (.list xs)
@[simp] theorem rd_d (S : So) (x : PyData) : rd S (.d x) = some x := rfl
def truD : PyData → Option Bool
  | .none => some false
  | .bool b => some b
  | .int i => some (i != 0)
  | .list xs => some (!xs.isEmpty)
  | .tuple xs => some (!xs.isEmpty)
  | _ => none
def dTr (d : DE) : DT := fun σ S => bnd (d σ S) fun w S1 => giv ((rd S1 w).bind truD) S1
theorem RDs.isEmpty {K : PySem.W.Frag} {H : Hp} {φ : Fi} {ds : List PyData} {vs : List V} (h : RDs K H φ ds vs) : ds.isEmpty = vs.isEmpty := by
  cases ds with
  | nil => cases h; rfl
  | cons d ds => obtain ⟨v, r, e, _⟩ := h; subst e; rfl
theorem seqL_of {K : PySem.W.Frag} {mg : Str → Option Value} {H : Hp} {φ : Fi} {S : So} {w : W} {v : V} {ds : List PyData} (hs : SR K H φ S) (h : RW K H φ mg w v) (e : rd S w = some (.list ds)) : ∃ a vs, v = .ref a ∧ SqL K H a vs ∧ RDs K H φ ds vs := by
  cases w with
  | d x => cases e; obtain ⟨a, vs, e1, h1, h2⟩ := h; exact ⟨a, vs, e1, h1.sq, h2⟩
  | r n =>
    obtain ⟨a, h1, e1⟩ := h
    obtain ⟨o, h2, h3⟩ := hs.get h1
    unfold rd at e
    simp only [h2] at e
    cases o with
    | lst xs => cases e; obtain ⟨vs, q1, q2⟩ := h3; exact ⟨a, vs, e1, .of q1, q2⟩
    | dk _ => cases e
    | dt _ => cases e
    | lkK _ => cases e
    | lkT _ => cases e
  | g x => cases e
  | s xs => cases e; obtain ⟨a, vs, e1, h1, h2⟩ := h; exact ⟨a, vs, e1, h1.elim (fun q => q.sq) fun q => .inr q, h2⟩
theorem tup_of {K : PySem.W.Frag} {mg : Str → Option Value} {H : Hp} {φ : Fi} {S : So} {w : W} {v : V} {ds : List PyData} (h : RW K H φ mg w v) (e : rd S w = some (.tuple ds)) : ∃ a vs, v = .ref a ∧ TP K H a vs ∧ RDs K H φ ds vs := by
  cases w with
  | d x => cases e; exact h
  | r n =>
    unfold rd at e
    dsimp only at e
    split at e <;> cases e
  | g x => cases e
  | s xs => cases e
theorem seqT_of {K : PySem.W.Frag} {mg : Str → Option Value} {H : Hp} {φ : Fi} {S : So} {w : W} {v : V} {ds : List PyData} (h : RW K H φ mg w v) (e : rd S w = some (.tuple ds)) : ∃ a vs, v = .ref a ∧ SqT K H a vs ∧ RDs K H φ ds vs := by
  obtain ⟨a, vs, e1, h1, h2⟩ := tup_of h e
  exact ⟨a, vs, e1, h1.sq, h2⟩
theorem dp_of {K : PySem.W.Frag} {mg : Str → Option Value} {H : Hp} {φ : Fi} {S : So} {w : W} {v : V} {d : PyData} (hs : SR K H φ S) (h : RW K H φ mg w v) (e : rd S w = some d) : Dp K H v d := by
  cases w with
  | d x => cases e; exact RD.dp _ _ h
  | r n =>
    cases d with
    | list ds =>
      obtain ⟨a, vs, e1, h1, h2⟩ := seqL_of hs h e
      subst e1
      exact .lst h1 (RDs.dp _ _ h2)
    | _ =>
      unfold rd at e
      dsimp only at e
      split at e <;> cases e
  | g x => cases e
  | s xs =>
    cases e
    obtain ⟨a, vs, e1, h1, h2⟩ := h
    subst e1
    exact .lst (h1.elim (fun q => q.sq) fun q => .inr q) (RDs.dp _ _ h2)
theorem rd_eq {S : So} {w : W} {x : PyData} (h : rd S w = some x) (hl : ∀ ds, x ≠ .list ds) : w = .d x := by
  cases w with
  | d y => cases h; rfl
  | r n =>
    unfold rd at h
    dsimp only at h
    split at h
    · cases h; exact absurd rfl (hl _)
    · cases h
  | g _ => cases h
  | s xs => cases h; exact absurd rfl (hl _)
theorem t_tru {e : Expr} {d : DE} (h : SE X E e d) (he : ∀ whole, isTrue e X.env whole = (do let v ← whole; standAt e.pos; holding [v] (truthy v)) := by intro _; rfl) : ST X E e (dTr d) := by
  refine PTw (pt_truth h he) fun σV H Q q => ?_
  obtain ⟨φ, σ, S, r', hs, hen, hd, hq⟩ := q
  unfold dTr at hd
  match ha : d σ S, hd with
  | none, hd => cases hd
  | some (.xc x S1), hd => cases hd; exact ⟨φ, σ, S, .xc x S1, hs, hen, ha, hq⟩
  | some (.ok x S1), hd =>
    refine ⟨φ, σ, S, .ok x S1, hs, hen, ha, fun φ1 H1 v1 e1 s1 x1 => ?_⟩
    rw [bnd_ok] at hd
    match hg : (rd S1 x).bind truD, hd with
    | none, hd => cases hd
    | some k, hd =>
      cases hd
      refine ⟨k, ?_, hq φ1 H1 e1 s1⟩
      obtain ⟨y, hy, ht⟩ := Option.bind_eq_some_iff.mp hg
      cases y with
      | none => rw [rd_eq hy (by simp)] at x1; cases x1; cases ht; rfl
      | bool b => rw [rd_eq hy (by simp)] at x1; cases x1; cases ht; rfl
      | int i => rw [rd_eq hy (by simp)] at x1; cases x1; cases ht; rfl
      | str _ => cases ht
      | list ds =>
        obtain ⟨a, vs, e2, h1, h2⟩ := seqL_of s1 x1 hy
        subst e2; cases ht
        exact .inl ⟨vs, h1, by rw [RDs.isEmpty h2]⟩
      | tuple ds =>
        obtain ⟨a, vs, e2, h1, h2⟩ := seqT_of x1 hy
        subst e2; cases ht
        exact .inr (.inl ⟨vs, h1, by rw [RDs.isEmpty h2]⟩)
      | dict _ => cases ht
def dAndT (a b : DT) : DT := fun σ S => bnd (a σ S) fun k S1 => if k = true then b σ S1 else some (.ok false S1)
def dOrT (a b : DT) : DT := fun σ S => bnd (a σ S) fun k S1 => if k = true then some (.ok true S1) else b σ S1
def dNotT (a : DT) : DT := fun σ S => bnd (a σ S) fun k S1 => some (.ok (!k) S1)
variable {ta tb : DT} {es : List Expr}
theorem t_and1 (ha : ST X E a ta) : PW X (.BoolOp .And [a] pos) (tT X.K X.mg E ta) := pw_and1 ha
theorem t_or1 (ha : ST X E a ta) : PW X (.BoolOp .Or [a] pos) (tT X.K X.mg E ta) := pw_or1 ha
theorem t_and (ha : ST X E a ta) (hb : PW X (.BoolOp .And (b :: es) pos) (tT X.K X.mg E tb)) : PW X (.BoolOp .And (a :: b :: es) pos) (tT X.K X.mg E (dAndT ta tb)) := by
  refine PWw (pw_and ha hb) fun σV H Q q => ?_
  obtain ⟨φ, σ, S, r', hs, he, hd, hq⟩ := q
  unfold dAndT at hd
  match ha : ta σ S, hd with
  | none, hd => cases hd
  | some (.xc x S1), hd => cases hd; exact ⟨φ, σ, S, .xc x S1, hs, he, ha, hq⟩
  | some (.ok true S1), hd =>
    refine ⟨φ, σ, S, .ok true S1, hs, he, ha, fun φ1 H1 e1 s1 => ?_⟩
    refine iteT ?_
    simp only [bnd_ok, if_true] at hd
    refine ⟨φ1, σ, S1, r', s1, he.mono e1, hd, ?_⟩
    cases r' with
    | ok k S2 => exact fun φ' H' e' => hq φ' H' (e1.trans e')
    | xc x S2 => exact XR.keep e1 hq
  | some (.ok false S1), hd =>
    refine ⟨φ, σ, S, .ok false S1, hs, he, ha, fun φ1 H1 e1 s1 => ?_⟩
    cases hd
    exact hq φ1 H1 e1 s1
theorem t_or (ha : ST X E a ta) (hb : PW X (.BoolOp .Or (b :: es) pos) (tT X.K X.mg E tb)) : PW X (.BoolOp .Or (a :: b :: es) pos) (tT X.K X.mg E (dOrT ta tb)) := by
  refine PWw (pw_or ha hb) fun σV H Q q => ?_
  obtain ⟨φ, σ, S, r', hs, he, hd, hq⟩ := q
  unfold dOrT at hd
  match ha : ta σ S, hd with
  | none, hd => cases hd
  | some (.xc x S1), hd => cases hd; exact ⟨φ, σ, S, .xc x S1, hs, he, ha, hq⟩
  | some (.ok false S1), hd =>
    refine ⟨φ, σ, S, .ok false S1, hs, he, ha, fun φ1 H1 e1 s1 => ?_⟩
    refine iteF ?_
    simp only [bnd_ok, if_neg Bool.false_ne_true] at hd
    refine ⟨φ1, σ, S1, r', s1, he.mono e1, hd, ?_⟩
    cases r' with
    | ok k S2 => exact fun φ' H' e' => hq φ' H' (e1.trans e')
    | xc x S2 => exact XR.keep e1 hq
  | some (.ok true S1), hd =>
    refine ⟨φ, σ, S, .ok true S1, hs, he, ha, fun φ1 H1 e1 s1 => ?_⟩
    cases hd
    exact hq φ1 H1 e1 s1
theorem t_not (ha : ST X E a ta) : ST X E (.UnaryOp .Not a pos) (dNotT ta) := by
  refine PTw (pt_not ha) fun σV H Q q => ?_
  obtain ⟨φ, σ, S, r', hs, he, hd, hq⟩ := q
  unfold dNotT at hd
  match ha : ta σ S, hd with
  | none, hd => cases hd
  | some (.xc x S1), hd => cases hd; exact ⟨φ, σ, S, .xc x S1, hs, he, ha, hq⟩
  | some (.ok k S1), hd =>
    cases hd
    exact ⟨φ, σ, S, .ok k S1, hs, he, ha, fun φ1 H1 e1 s1 => hq φ1 H1 e1 s1⟩
/-- and, or, not as values: all but the last are bools -/
def dAnd (a b : DE) : DE := fun σ S => bnd (a σ S) fun x S1 => match bOf x with
  | some true => b σ S1
  | some false => some (.ok (.d (.bool false)) S1)
  | none => none
def dOr (a b : DE) : DE := fun σ S => bnd (a σ S) fun x S1 => match bOf x with
  | some true => some (.ok (.d (.bool true)) S1)
  | some false => b σ S1
  | none => none
theorem tE_ext {d : DE} {φ φ1 : Fi} {H H1 : Hp} {σ : En} {σV : L2.St} {S1 : So} {r : RE W} {Q : VK} (e1 : Ext φ H φ1 H1) (s1 : SR X.K H1 φ1 S1) (he : ER X.K H φ X.mg σV σ) (hd : d σ S1 = some r)
    (hq : oE X.K X.mg (E σV) φ H Q r) : tE X.K X.mg E d σV H1 Q := by
  refine ⟨φ1, σ, S1, r, s1, he.mono e1, hd, ?_⟩
  cases r with
  | ok k S2 => exact fun φ' H' v e' => hq φ' H' v (e1.trans e')
  | xc x S2 => exact XR.keep e1 hq
theorem e_one {op} {d : DE} (h : SE X E a d) : SE X E (.BoolOp op [a] pos) d := pe_one h
theorem e_and (ha : SE X E a da) (hb : SE X E (.BoolOp .And (b :: es) pos) db) : SE X E (.BoolOp .And (a :: b :: es) pos) (dAnd da db) := by
  refine PEw (pe_and ha hb) fun σV H Q q => ?_
  obtain ⟨φ, σ, S, r', hs, he, hd, hq⟩ := q
  unfold dAnd at hd
  match ha : da σ S, hd with
  | none, hd => cases hd
  | some (.xc x S1), hd => cases hd; exact ⟨φ, σ, S, .xc x S1, hs, he, ha, hq⟩
  | some (.ok x S1), hd =>
    refine ⟨φ, σ, S, .ok x S1, hs, he, ha, fun φ1 H1 v1 e1 s1 x1 => ?_⟩
    rw [bnd_ok] at hd
    match hg : bOf x, hd with
    | none, hd => cases hd
    | some true, hd =>
      rw [bOf_eq hg] at x1
      refine ⟨true, x1, ?_⟩
      refine iteT ?_
      exact tE_ext e1 s1 he hd hq
    | some false, hd =>
      rw [bOf_eq hg] at x1
      refine ⟨false, x1, ?_⟩
      refine iteF ?_
      cases hd
      exact hq φ1 H1 _ e1 s1 rfl
theorem e_or (ha : SE X E a da) (hb : SE X E (.BoolOp .Or (b :: es) pos) db) : SE X E (.BoolOp .Or (a :: b :: es) pos) (dOr da db) := by
  refine PEw (pe_or ha hb) fun σV H Q q => ?_
  obtain ⟨φ, σ, S, r', hs, he, hd, hq⟩ := q
  unfold dOr at hd
  match ha : da σ S, hd with
  | none, hd => cases hd
  | some (.xc x S1), hd => cases hd; exact ⟨φ, σ, S, .xc x S1, hs, he, ha, hq⟩
  | some (.ok x S1), hd =>
    refine ⟨φ, σ, S, .ok x S1, hs, he, ha, fun φ1 H1 v1 e1 s1 x1 => ?_⟩
    rw [bnd_ok] at hd
    match hg : bOf x, hd with
    | none, hd => cases hd
    | some false, hd =>
      rw [bOf_eq hg] at x1
      refine ⟨false, x1, ?_⟩
      refine iteF ?_
      exact tE_ext e1 s1 he hd hq
    | some true, hd =>
      rw [bOf_eq hg] at x1
      refine ⟨true, x1, ?_⟩
      refine iteT ?_
      cases hd
      exact hq φ1 H1 _ e1 s1 rfl
def dNot (a : DE) : DE := fun σ S => bnd (a σ S) fun x S1 => giv ((bOf x).map fun b => .d (.bool (!b))) S1
theorem e_not (ha : SE X E a da) : SE X E (.UnaryOp .Not a pos) (dNot da) := by
  refine PEw (pe_not ha) fun σV H Q q => ?_
  obtain ⟨φ, σ, S, r', hs, he, hd, hq⟩ := q
  unfold dNot at hd
  match ha : da σ S, hd with
  | none, hd => cases hd
  | some (.xc x S1), hd => cases hd; exact ⟨φ, σ, S, .xc x S1, hs, he, ha, hq⟩
  | some (.ok x S1), hd =>
    refine ⟨φ, σ, S, .ok x S1, hs, he, ha, fun φ1 H1 v1 e1 s1 x1 => ?_⟩
    rw [bnd_ok] at hd
    match hg : bOf x, hd with
    | none, hd => cases hd
    | some k, hd =>
      rw [bOf_eq hg] at x1
      cases hd
      exact ⟨k, x1, hq φ1 H1 _ e1 s1 rfl⟩
def dIf (t : DT) (a b : DE) : DE := fun σ S => bnd (t σ S) fun k S1 => if k = true then a σ S1 else b σ S1
theorem e_if {t : Expr} (ht : ST X E t ta) (ha : SE X E a da) (hb : SE X E b db) : SE X E (.IfExp t a b pos) (dIf ta da db) := by
  refine PEw (pe_ifExp ht ha hb) fun σV H Q q => ?_
  obtain ⟨φ, σ, S, r', hs, he, hd, hq⟩ := q
  unfold dIf at hd
  match ha : ta σ S, hd with
  | none, hd => cases hd
  | some (.xc x S1), hd => cases hd; exact ⟨φ, σ, S, .xc x S1, hs, he, ha, hq⟩
  | some (.ok true S1), hd =>
    refine ⟨φ, σ, S, .ok true S1, hs, he, ha, fun φ1 H1 e1 s1 => ?_⟩
    refine iteT ?_
    exact tE_ext e1 s1 he (by simpa using hd) hq
  | some (.ok false S1), hd =>
    refine ⟨φ, σ, S, .ok false S1, hs, he, ha, fun φ1 H1 e1 s1 => ?_⟩
    refine iteF ?_
    exact tE_ext e1 s1 he (by simpa using hd) hq

/-! ### arguments -/
def dNil : DA := fun _ S => some (.ok [] S)
def dCons (a : DE) (r : DA) : DA := fun σ S => bnd (a σ S) fun x S1 => bnd (r σ S1) fun xs S2 => some (.ok (x :: xs) S2)
theorem a_nil : SA X E [] dNil := PAw pa_nil fun σV H Q ⟨φ, σ, S, r, hs, he, hd, hq⟩ => by cases hd; exact hq φ H [] .refl hs rfl
theorem a_cons {dr : DA} (ha : SE X E a da) (hr : SA X E es dr) (hs : starEach (a :: es) X.env = (false, eval a X.env) :: starEach es X.env := by rfl) : SA X E (a :: es) (dCons da dr) := by
  refine PAw (pa_cons ha hr hs) fun σV H Q q => ?_
  obtain ⟨φ, σ, S, r', hs, he, hd, hq⟩ := q
  unfold dCons at hd
  match ha : da σ S, hd with
  | none, hd => cases hd
  | some (.xc x S1), hd => cases hd; exact ⟨φ, σ, S, .xc x S1, hs, he, ha, hq⟩
  | some (.ok x S1), hd =>
    refine ⟨φ, σ, S, .ok x S1, hs, he, ha, fun φ1 H1 v1 e1 s1 x1 => ?_⟩
    rw [bnd_ok] at hd
    match hb : dr σ S1, hd with
    | none, hd => cases hd
    | some (.xc y S2), hd =>
      cases hd
      exact ⟨φ1, σ, S1, .xc y S2, s1, he.mono e1, hb, XR.keep e1 hq⟩
    | some (.ok xs S2), hd =>
      cases hd
      exact ⟨φ1, σ, S1, .ok xs S2, s1, he.mono e1, hb, fun φ2 H2 vs e2 s2 y2 => hq φ2 H2 (v1 :: vs) (e1.trans e2) s2 ⟨v1, vs, rfl, x1.mono e2, y2⟩⟩
/-- a call of a built-in -/
def dCall (g : So → List W → Option W) (as : DA) : DE := fun σ S => bnd (as σ S) fun ws S1 => giv (g S1 ws) S1
theorem call_rd {g : So → List W → Option W} {das : DA} (σV : L2.St) (H : Hp) (Q : VK) (h : tE X.K X.mg E (dCall g das) σV H Q) : tCB (rC X.K X.mg g) (tA X.K X.mg E das) σV H Q := by
  obtain ⟨φ, σ, S, r', hs, he, hd, hq⟩ := h
  unfold dCall at hd
  match ha : das σ S, hd with
  | none, hd => cases hd
  | some (.xc x S1), hd => cases hd; exact ⟨φ, σ, S, .xc x S1, hs, he, ha, hq⟩
  | some (.ok ws S1), hd =>
    refine ⟨φ, σ, S, .ok ws S1, hs, he, ha, fun φ1 H1 vs e1 s1 x1 => ?_⟩
    rw [bnd_ok] at hd
    match hg : g S1 ws, hd with
    | none, hd => cases hd
    | some w, hd =>
      cases hd
      exact ⟨φ1, S1, ws, w, s1, x1, hg, fun φ' H' v e' => hq φ' H' v (e1.trans e')⟩
variable {x : Str} {das : DA}
theorem e_callB {id : String} {g : So → List W → Option W} (hc : CallR X (.builtin id) (rC X.K X.mg g)) (hm : X.mg x = none) (ha : SA X E (a :: es) das) (hg : Gl X x := by rfl) (hv : bootBuiltins x = some (.builtin id) := by decide +kernel) (hn : x ≠ "__name__" := by decide) (hdb : (x == ("__debug__" : Str)) = false := by decide)
    (he : starEach (a :: es) X.env = (false, eval a X.env) :: starEach es X.env := by rfl) (hpl : (backTo pos (starEach es X.env)).any (·.1) = false := by rfl) : SE X E (.Call (.Name x p) (a :: es) [] pos) (dCall g das) :=
  PEw (pe_callB hc hg hm hv ha hn hdb he hpl) call_rd
theorem e_callTy {T : String} {g : So → List W → Option W} (hc : CallR X (.type T) (rC X.K X.mg g)) (hm : X.mg x = none) (ha : SA X E (a :: es) das) (hg : Gl X x := by rfl) (hv : bootBuiltins x = some (.type T) := by decide +kernel) (hn : x ≠ "__name__" := by decide) (hdb : (x == ("__debug__" : Str)) = false := by decide)
    (he : starEach (a :: es) X.env = (false, eval a X.env) :: starEach es X.env := by rfl) (hpl : (backTo pos (starEach es X.env)).any (·.1) = false := by rfl) : SE X E (.Call (.Name x p) (a :: es) [] pos) (dCall g das) :=
  PEw (pe_callTy hc hg hm hv ha hn hdb he hpl) call_rd
/-- a call of a def -/
def dFn (F : DF) (as : DA) : DE := fun σ S => bnd (as σ S) fun ws S1 => F ws S1
theorem fn_rd {F : DF} (σV : L2.St) (H : Hp) (Q : VK) (h : tE X.K X.mg E (dFn F das) σV H Q) : tCallX (spF X.K X.mg F) [] E (tA X.K X.mg E das) σV H Q := by
  obtain ⟨φ, σ, S, r', hs, he, hd, hq⟩ := h
  unfold dFn at hd
  match ha : das σ S, hd with
  | none, hd => cases hd
  | some (.xc x S1), hd => cases hd; exact ⟨φ, σ, S, .xc x S1, hs, he, ha, hq⟩
  | some (.ok ws S1), hd =>
    refine ⟨φ, σ, S, .ok ws S1, hs, he, ha, fun φ1 H1 vs e1 s1 x1 => ?_⟩
    rw [bnd_ok] at hd
    refine ⟨φ1, S1, ws, r', s1, by rw [List.append_nil]; exact x1, hd, ?_⟩
    cases r' with
    | ok w S2 => exact fun φ' H' v e' => hq φ' H' v (e1.trans e')
    | xc x S2 => exact XR.keep e1 hq
variable {CX : CXT} {k : Nat} {f : Addr} {fd : FuncData} {ps : List Str} {F : DF}
theorem e_fn (hF : FnG X.prog X.w X.K X.mg X.base CX k f fd ps (spF X.K X.mg F)) (hgd : X.A.guards = some []) (hr : Room k X.A) (hm : X.mg x = some (.ref f)) (hk : PySem.W.keepIn X.K (.ref f) = true) (hb : Binds X.K fd ps []) (hx : PaAt CX X E)
    (ha : SA X E (a :: es) das) (hg : Gl X x := by rfl) (hdb : (x == ("__debug__" : Str)) = false := by decide) (he : starEach (a :: es) X.env = (false, eval a X.env) :: starEach es X.env := by rfl) (hpl : (backTo pos (starEach es X.env)).any (·.1) = false := by rfl) :
    SE X E (.Call (.Name x p) (a :: es) [] pos) (dFn F das) := PEw (pe_fnG hF hgd hr hg hm hk hb .nil hx ha hdb he hpl) fn_rd
theorem e_fn0 (hF : FnG X.prog X.w X.K X.mg X.base CX k f fd ps (spF X.K X.mg F)) (hgd : X.A.guards = some []) (hr : Room k X.A) (hm : X.mg x = some (.ref f)) (hk : PySem.W.keepIn X.K (.ref f) = true) (hb : Binds X.K fd ps []) (hx : PaAt CX X E)
    (hg : Gl X x := by rfl) (hdb : (x == ("__debug__" : Str)) = false := by decide) : SE X E (.Call (.Name x p) [] [] pos) (dFn F dNil) :=
  PEw (pe_fnG0 hF hgd hr hg hm hk hb .nil hx hdb) fun σV H Q h => by
    obtain ⟨φ, σ, S, r', hs, he, hd, hq⟩ := h
    exact ⟨φ, S, [], r', hs, rfl, hd, hq⟩
/-- a def that a local name holds: its function is looked up by its name -/
def dHeld (i : Nat) (T : Str → Option DF) (as : DA) : DE := fun σ S => match σ[i]? with
  | some (some (.g x)) => match T x with
    | some F => bnd (as σ S) fun ws S1 => F ws S1
    | none => none
  | _ => none
theorem e_held (i : Nat) {T : Str → Option DF} (hT : ∀ x F, T x = some F → ∃ f, X.mg x = some (.ref f) ∧ HeldG X CX k f (spF X.K X.mg F)) (hinj : ∀ x y f, (T x).isSome = true → (T y).isSome = true → X.mg x = some (.ref f) → X.mg y = some (.ref f) → x = y)
    (hgd : X.A.guards = some []) (hr : Room k X.A) (hx : PaAt CX X E) (ha : SA X E (a :: es) das) (hN : X.N[i]? = some x := by rfl) (hv : Vis X.env.scope x := by first | exact Or.inl rfl | exact Or.inr (Or.inl rfl) | exact Or.inr (Or.inr rfl))
    (hdb : (x == ("__debug__" : Str)) = false := by decide) (hcd : (x == ("__classdict__" : Str)) = false := by decide) (he : starEach (a :: es) X.env = (false, eval a X.env) :: starEach es X.env := by rfl) (hpl : (backTo pos (starEach es X.env)).any (·.1) = false := by rfl) :
    SE X E (.Call (.Name x p) (a :: es) [] pos) (dHeld i T das) := by
  classical
  let S : Addr → Option Sp := fun f => if h : ∃ y F, T y = some F ∧ X.mg y = some (.ref f) then some (spF X.K X.mg (Classical.choose (Classical.choose_spec h))) else none
  have hS : ∀ f sp, S f = some sp → HeldG X CX k f sp := fun f sp h => by
    by_cases hh : ∃ y F, T y = some F ∧ X.mg y = some (.ref f)
    · simp only [S, dif_pos hh] at h
      cases h
      obtain ⟨h1, h2⟩ := Classical.choose_spec (Classical.choose_spec hh)
      obtain ⟨g, h3, h4⟩ := hT _ _ h1
      rw [h2] at h3
      cases h3
      exact h4
    · simp only [S, dif_neg hh] at h; cases h
  refine PEw (pe_heldG (S := S) (i := i) hS hgd hr hN hv hx ha hdb hcd he hpl) fun σV H Q q => ?_
  obtain ⟨φ, σ, S', r', hs, hen, hd, hq⟩ := q
  unfold dHeld at hd
  split at hd
  · rename_i y hy
    split at hd
    · rename_i F hF
      obtain ⟨v, h1, f, h2, h3⟩ := hen.at_ i _ hy
      subst h3
      have hh : ∃ y F, T y = some F ∧ X.mg y = some (.ref f) := ⟨y, F, hF, h2⟩
      have hSf : S f = some (spF X.K X.mg F) := by
        simp only [S, dif_pos hh]
        obtain ⟨q1, q2⟩ := Classical.choose_spec (Classical.choose_spec hh)
        have e := hinj _ y f (by rw [q1]; rfl) (by rw [hF]; rfl) q2 h2
        have e2 : T (Classical.choose hh) = some F := by rw [e]; exact hF
        rw [q1] at e2
        rw [Option.some.inj e2]
      refine ⟨f, _, h1, hSf, ?_⟩
      have := fn_rd (X := X) (E := E) (F := F) (das := das) σV H Q ⟨φ, σ, S', r', hs, hen, hd, hq⟩
      obtain ⟨φ0, σ0, S0, r0, a1, a2, a3, a4⟩ := this
      refine ⟨φ0, σ0, S0, r0, a1, a2, a3, ?_⟩
      cases r0 with
      | ok ws S2 =>
        intro φ' H' vs e s' x'
        have h : spF X.K X.mg F (vs ++ []) H' Q (E σV) := a4 φ' H' vs e s' x'
        rw [List.append_nil] at h
        exact h
      | xc y S2 => exact a4
    · cases hd
  · cases hd
/-- o.m(..) of a built-in type, which may write -/
def dMt (g : So → W → List W → Option (W × So)) (o : DE) (as : DA) : DE := fun σ S => bnd (o σ S) fun x S1 => bnd (as σ S1) fun ws S2 => match g S2 x ws with
  | some (w, S3) => some (.ok w S3)
  | none => none
end
end CL
end

section
/-! part CLStm -/
set_option Elab.async false
set_option linter.all false
set_option maxRecDepth 100000
/-! CLStm: statements, loops, comprehensions, new objects, defs. -/
namespace CL
open PySem PySem.Spec PyProof.Rows L2

def bndS {α : Type} (σ : En) (m : M α) (f : α → So → Option Out) : Option Out := match m with
  | none => none
  | some (.xc x S) => some (.xc x σ S)
  | some (.ok a S) => f a S
@[simp] theorem bndS_ok {α : Type} (σ : En) (a : α) (S : So) (f : α → So → Option Out) : bndS σ (some (.ok a S)) f = f a S := rfl
@[simp] theorem bndS_none {α : Type} (σ : En) (f : α → So → Option Out) : bndS σ none f = none := rfl
@[simp] theorem bndS_xc {α : Type} (σ : En) (x : XV) (S : So) (f : α → So → Option Out) : bndS σ (some (.xc x S)) f = some (.xc x σ S) := rfl

section
variable {X : Cx} {E : EK} {pos p : Pos} {e : Expr} {d : DE} {st : Stmt} {sts : List Stmt} {ds es : DS}
theorem oS_keep {φ φ1 : Fi} {H H1 : Hp} {D : Ends} {o : Out} (e1 : Ext φ H φ1 H1) (h : oS X.K X.mg E φ H D o) : oS X.K X.mg E φ1 H1 D o := by
  cases o with
  | nx σ S => exact fun φ' H' σV e' => h φ' H' σV (e1.trans e')
  | rt w S => exact fun φ' H' σV e' => h φ' H' σV (e1.trans e')
  | bk σ S => exact fun φ' H' σV e' => h φ' H' σV (e1.trans e')
  | ct σ S => exact fun φ' H' σV e' => h φ' H' σV (e1.trans e')
  | xc x σ S => exact fun φ' H' σV e' => h φ' H' σV (e1.trans e')
theorem tS_ext {φ φ1 : Fi} {H H1 : Hp} {σ : En} {σV : L2.St} {S1 : So} {o : Out} {D : Ends} (e1 : Ext φ H φ1 H1) (s1 : SR X.K H1 φ1 S1) (he : ER X.K H1 φ1 X.mg σV σ) (hd : ds σ S1 = some o)
    (hq : oS X.K X.mg E φ H D o) : tS X.K X.mg E ds D σV H1 := ⟨φ1, σ, S1, o, s1, he, hd, oS_keep e1 hq⟩

/-! ### blocks -/
def sNil : DS := fun σ S => some (.nx σ S)
def sCons (a b : DS) : DS := fun σ S => match a σ S with
  | some (.nx σ1 S1) => b σ1 S1
  | o => o
theorem ss_nil : SSs X E [] sNil := PSsw pss_nil fun D σV H ⟨φ, σ, S, o, hs, he, hd, hq⟩ => by cases hd; exact hq φ H σV .refl hs he
theorem ss_cons (h1 : SS X E st ds) (h2 : SSs X E sts es) : SSs X E (st :: sts) (sCons ds es) := by
  refine PSsw (pss_cons h1 h2) fun D σV H q => ?_
  obtain ⟨φ, σ, S, o, hs, he, hd, hq⟩ := q
  unfold sCons at hd
  match ha : ds σ S, hd with
  | none, hd => cases hd
  | some (.nx σ1 S1), hd => exact ⟨φ, σ, S, .nx σ1 S1, hs, he, ha, fun φ1 H1 σV1 e1 s1 r1 => tS_ext e1 s1 r1 hd hq⟩
  | some (.rt w S1), hd => cases hd; exact ⟨φ, σ, S, .rt w S1, hs, he, ha, hq⟩
  | some (.bk w S1), hd => cases hd; exact ⟨φ, σ, S, .bk w S1, hs, he, ha, hq⟩
  | some (.ct w S1), hd => cases hd; exact ⟨φ, σ, S, .ct w S1, hs, he, ha, hq⟩
  | some (.xc w σ1 S1), hd => cases hd; exact ⟨φ, σ, S, .xc w σ1 S1, hs, he, ha, hq⟩
theorem ss_one (h1 : SS X E st ds) : SSs X E [st] ds := pss_one h1
/-- x = e -/
def sSet (i : Nat) (d : DE) : DS := fun σ S => bndS σ (d σ S) fun w S1 => some (.nx (σ.set i (some w)) S1)
theorem s_set (i : Nat) {x : Str} {pos' : Pos} (hN : X.N.Nodup) (he : SE X E e d) (hi : X.N[i]? = some x := by rfl) (hx : Loc X.env.scope x := by first | exact Or.inl rfl | exact Or.inr rfl) (hs : swapsWith e (some (.Name x pos')) pos.line X.env = pure false := by rfl)
    (hf : X.fn x = true ∨ X.env.scope.names.lookup x = some .local := by first | exact .inl rfl | exact .inr rfl) : SS X E (.Assign [.Name x pos'] e pos) (sSet i d) := by
  refine PSw (ps_set hN hi hx he hs hf) fun D σV H q => ?_
  obtain ⟨φ, σ, S, o, hs, hen, hd, hq⟩ := q
  unfold sSet at hd
  match ha : d σ S, hd with
  | none, hd => cases hd
  | some (.xc x S1), hd => cases hd; exact ⟨φ, σ, S, .xc x S1, hs, hen, ha, fun φ' H' e s => hq φ' H' σV e s (hen.mono e)⟩
  | some (.ok w S1), hd =>
    cases hd
    exact ⟨φ, σ, S, .ok w S1, hs, hen, ha, fun φ1 H1 v e1 s1 x1 => hq φ1 H1 _ e1 s1 ((hen.mono e1).set x1)⟩
def sDrop (d : DE) : DS := fun σ S => bndS σ (d σ S) fun _ S1 => some (.nx σ S1)
theorem s_expr (he : SE X E e d) (hs : swapsWith e none pos.line X.env = pure false := by rfl) : SS X E (.Expr e pos) (sDrop d) := by
  refine PSw (ps_expr he hs) fun D σV H q => ?_
  obtain ⟨φ, σ, S, o, hs, hen, hd, hq⟩ := q
  unfold sDrop at hd
  match ha : d σ S, hd with
  | none, hd => cases hd
  | some (.xc x S1), hd => cases hd; exact ⟨φ, σ, S, .xc x S1, hs, hen, ha, fun φ' H' e s => hq φ' H' σV e s (hen.mono e)⟩
  | some (.ok w S1), hd =>
    cases hd
    exact ⟨φ, σ, S, .ok w S1, hs, hen, ha, fun φ1 H1 v e1 s1 x1 => hq φ1 H1 _ e1 s1 (hen.mono e1)⟩
def sRet (d : DE) : DS := fun σ S => bndS σ (d σ S) fun w S1 => some (.rt w S1)
theorem s_ret (he : SE X E e d) : SS X E (.Return (some e) pos) (sRet d) := by
  refine PSw (ps_ret he) fun D σV H q => ?_
  obtain ⟨φ, σ, S, o, hs, hen, hd, hq⟩ := q
  unfold sRet at hd
  match ha : d σ S, hd with
  | none, hd => cases hd
  | some (.xc x S1), hd => cases hd; exact ⟨φ, σ, S, .xc x S1, hs, hen, ha, fun φ' H' e s => hq φ' H' σV e s (hen.mono e)⟩
  | some (.ok w S1), hd => cases hd; exact ⟨φ, σ, S, .ok w S1, hs, hen, ha, hq⟩
def sIf (t : DT) (a b : DS) : DS := fun σ S => bndS σ (t σ S) fun k S1 => if k = true then a σ S1 else b σ S1
theorem s_if {c : Expr} {a b : List Stmt} {dt : DT} {da db : DS} (ht : ST X E c dt) (ha : SSs X E a da) (hb : SSs X E b db) : SS X E (.If c a b pos) (sIf dt da db) := by
  refine PSw (ps_if ht ha hb) fun D σV H q => ?_
  obtain ⟨φ, σ, S, o, hs, hen, hd, hq⟩ := q
  unfold sIf at hd
  match ha : dt σ S, hd with
  | none, hd => cases hd
  | some (.xc x S1), hd => cases hd; exact ⟨φ, σ, S, .xc x S1, hs, hen, ha, fun φ' H' e s => hq φ' H' σV e s (hen.mono e)⟩
  | some (.ok true S1), hd =>
    exact ⟨φ, σ, S, .ok true S1, hs, hen, ha, fun φ1 H1 e1 s1 => iteT (tS_ext e1 s1 (hen.mono e1) (by simpa using hd) hq)⟩
  | some (.ok false S1), hd =>
    exact ⟨φ, σ, S, .ok false S1, hs, hen, ha, fun φ1 H1 e1 s1 => iteF (tS_ext e1 s1 (hen.mono e1) (by simpa using hd) hq)⟩
def sNever : DS := fun _ _ => none
theorem s_never : SS X E st sNever := PSw ps_never fun D σV H ⟨φ, σ, S, o, hs, he, hd, hq⟩ => by cases hd
def sPass : DS := fun σ S => some (.nx σ S)
theorem s_pass : SS X E (.Pass pos) sPass := PSw ps_pass fun D σV H ⟨φ, σ, S, o, hs, he, hd, hq⟩ => by cases hd; exact hq φ H σV .refl hs he
def sBreak : DS := fun σ S => some (.bk σ S)
theorem s_break : SS X E (.Break pos) sBreak := PSw ps_break fun D σV H ⟨φ, σ, S, o, hs, he, hd, hq⟩ => by cases hd; exact hq φ H σV .refl hs he
def sCont : DS := fun σ S => some (.ct σ S)
theorem s_continue : SS X E (.Continue pos) sCont := PSw ps_continue fun D σV H ⟨φ, σ, S, o, hs, he, hd, hq⟩ => by cases hd; exact hq φ H σV .refl hs he

/-! ### targets -/
/-- a name in slot i, or a tuple of names -/
inductive Tg where
  | nm (i : Nat)
  | tp (is : List Nat)
def setW : En → List Nat → List W → Option En
  | σ, [], [] => some σ
  | σ, i :: is, w :: ws => setW (σ.set i (some w)) is ws
  | _, _, _ => none
def setV : L2.St → List Nat → List V → L2.St
  | σ, i :: is, v :: vs => setV (σ.set i (some v)) is vs
  | σ, _, _ => σ
def bindT : Tg → W → En → Option En
  | .nm i, w, σ => some (σ.set i (some w))
  | .tp is, .d (.tuple ds), σ => setW σ is (ds.map W.d)
  | _, _, _ => none
/-- a target's reading: how the slots change is told -/
def gT (K : PySem.W.Frag) : Tg → TG
  | .nm i => gName i
  | .tp is => fun v σ H Q => ∃ a xs, v = .ref a ∧ SqT K H a xs ∧ xs.length = is.length ∧ Q (setV σ is xs) H
theorem g_nm (i : Nat) {x : Str} (hN : X.N.Nodup) (hi : X.N[i]? = some x := by rfl) (hx : Loc X.env.scope x := by first | exact Or.inl rfl | exact Or.inr rfl) (hf : X.fn x = true ∨ X.env.scope.names.lookup x = some .local := by first | exact .inl rfl | exact .inr rfl) : PG X (.Name x pos) (gT X.K (.nm i)) := pg_name hN hi hx hf
structure PGw (X : Cx) (ts : List Expr) (is : List Nat) : Prop where
  run : ∃ t, PGs X ts t ∧ ∀ vs σ H Q, vs.length = is.length → Q (setV σ is vs) H → t vs σ H Q
theorem g_nil : PGw X [] [] := ⟨_, pgs_nil, fun vs σ H Q hl h => by cases vs with
  | nil => exact ⟨rfl, h⟩
  | cons _ _ => cases hl⟩
theorem g_cons {ts : List Expr} {is : List Nat} (i : Nat) {x : Str} (hN : X.N.Nodup) (h : PGw X ts is) (hi : X.N[i]? = some x := by rfl) (hx : Loc X.env.scope x := by first | exact Or.inl rfl | exact Or.inr rfl)
    (hf : X.fn x = true ∨ X.env.scope.names.lookup x = some .local := by first | exact .inl rfl | exact .inr rfl) (hs : (assignEach (.Name x pos :: ts) X.env).map (·.2) = assign (.Name x pos) X.env :: (assignEach ts X.env).map (·.2) := by rfl) : PGw X (.Name x pos :: ts) (i :: is) := by
  obtain ⟨t, h1, h2⟩ := h.run
  refine ⟨_, pgs_cons (pg_name hN hi hx hf) h1 hs, fun vs σ H Q hl q => ?_⟩
  cases vs with
  | nil => cases hl
  | cons v vs => exact ⟨v, vs, rfl, h2 vs _ H Q (by simpa using hl) q⟩
theorem PGweak {tg : Expr} {t t' : TG} (h : PG X tg t) (k : ∀ v σ H Q, t' v σ H Q → t v σ H Q) : PG X tg t' := ⟨fun pins s σ H v u Q I r q => h.run pins s σ H v u Q I r (k v σ H Q q)⟩
theorem g_tp {ts : List Expr} {is : List Nat} {k : Nat} (h : PGw X ts is) (hc : X.calm = true := by rfl) (hn : (assignEach ts X.env).length = is.length := by rfl) (hst : (assignEach ts X.env).findIdx? (·.1) = none := by rfl) : PG X (.Tuple ts k pos) (gT X.K (.tp is)) := by
  obtain ⟨t, h1, h2⟩ := h.run
  refine PGweak (pg_tup hc h1 hn hst) fun v σ H Q q => ?_
  obtain ⟨a, xs, e1, hq, hl, q⟩ := q
  exact ⟨a, xs, e1, hq, hl, h2 xs σ H Q hl q⟩
section
variable {K : PySem.W.Frag} {mg : Str → Option Value} {H : Hp} {φ : Fi}
theorem setW_er : ∀ {is : List Nat} {ds : List PyData} {vs : List V} {σ σ' : En} {σV : L2.St}, ER K H φ mg σV σ → RDs K H φ ds vs → setW σ is (ds.map W.d) = some σ' → ER K H φ mg (setV σV is vs) σ' ∧ vs.length = is.length
  | [], [], _, _, _, _, he, h, q => by cases h; cases q; exact ⟨he, rfl⟩
  | [], _ :: _, _, _, _, _, _, _, q => by cases q
  | _ :: _, [], _, _, _, _, _, _, q => by cases q
  | i :: is, d :: ds, _, σ, σ', σV, he, ⟨v, r, e, h, t⟩, q => by
    subst e
    obtain ⟨h1, h2⟩ := setW_er (he.set (w := .d d) h) t q
    exact ⟨h1, by simp [h2]⟩
theorem gT_ok {tg : Tg} {w : W} {v : V} {σ σ' : En} {σV : L2.St} {Q : L2.St → Hp → Prop} (he : ER K H φ mg σV σ) (hw : RW K H φ mg w v) (hb : bindT tg w σ = some σ')
    (q : ∀ σV', ER K H φ mg σV' σ' → Q σV' H) : gT K tg v σV H Q := by
  cases tg with
  | nm i => cases hb; exact q _ (he.set hw)
  | tp is =>
    cases w with
    | d x =>
      cases x with
      | tuple ds =>
        obtain ⟨a, vs, e1, h1, h2⟩ := hw
        obtain ⟨h3, h4⟩ := setW_er he h2 hb
        exact ⟨a, vs, e1, h1.sq, h4, q _ h3⟩
      | _ => cases hb
    | _ => cases hb
end
/-- target = e -/
def sAsg (tg : Tg) (d : DE) : DS := fun σ S => bndS σ (d σ S) fun w S1 => (bindT tg w σ).map fun σ1 => .nx σ1 S1
theorem s_asg {tg : Tg} {t : Expr} (he : SE X E e d) (hg : PG X t (gT X.K tg)) (hs : swapsWithSole [t] e pos.line X.env = pure false := by rfl) (hw : swappedStores [t] e X.env = pure none := by rfl)
    (h1 : (assignEach [t] X.env).map (·.2) = [assign t X.env] := by rfl) : SS X E (.Assign [t] e pos) (sAsg tg d) := by
  refine PSw (ps_asg he hg hs hw h1) fun D σV H q => ?_
  obtain ⟨φ, σ, S, o, hs, hen, hd, hq⟩ := q
  unfold sAsg at hd
  match ha : d σ S, hd with
  | none, hd => cases hd
  | some (.xc x S1), hd => cases hd; exact ⟨φ, σ, S, .xc x S1, hs, hen, ha, fun φ' H' e s => hq φ' H' σV e s (hen.mono e)⟩
  | some (.ok w S1), hd =>
    rw [bndS_ok] at hd
    match hb : bindT tg w σ, hd with
    | none, hd => cases hd
    | some σ1, hd =>
      cases hd
      exact ⟨φ, σ, S, .ok w S1, hs, hen, ha, fun φ1 H1 v e1 s1 x1 => gT_ok (hen.mono e1) x1 hb fun σV' h => hq φ1 H1 σV' e1 s1 h⟩
/-- a, b = x, y: both sides written -/
def sPar (is : List Nat) (as : DA) : DS := fun σ S => bndS σ (as σ S) fun ws S1 => (setW σ is ws).map fun σ1 => .nx σ1 S1
theorem setW_erW : ∀ {K : PySem.W.Frag} {mg : Str → Option Value} {H : Hp} {φ : Fi} {is : List Nat} {ws : List W} {vs : List V} {σ σ' : En} {σV : L2.St}, ER K H φ mg σV σ → RWs K H φ mg ws vs → setW σ is ws = some σ' → ER K H φ mg (setV σV is vs) σ' ∧ vs.length = is.length
  | _, _, _, _, [], [], _, _, _, _, he, h, q => by cases h; cases q; exact ⟨he, rfl⟩
  | _, _, _, _, [], _ :: _, _, _, _, _, _, _, q => by cases q
  | _, _, _, _, _ :: _, [], _, _, _, _, _, _, q => by cases q
  | _, _, _, _, i :: is, w :: ws, _, σ, σ', σV, he, ⟨v, r, e, h, t⟩, q => by
    subst e
    obtain ⟨h1, h2⟩ := setW_erW (he.set h) t q
    exact ⟨h1, by simp [h2]⟩
/-- .. by the model's swap of two plain local names -/
theorem s_par2 (i j : Nat) {x y : Str} {a b : Expr} {das : DA} {px py pt : Pos} {kt k2 pt2} (hN : X.N.Nodup) (ha : SA X E [a, b] das) (hi : X.N[i]? = some x := by rfl) (hj : X.N[j]? = some y := by rfl) (hij : i ≠ j := by decide)
    (hx : X.env.scope.names.lookup x = some .local := by rfl) (hy : X.env.scope.names.lookup y = some .local := by rfl) (hc : X.calm = true := by rfl)
    (hw : swappedStores [.Tuple [.Name x px, .Name y py] kt pt] (.Tuple [a, b] k2 pt2) X.env = pure (some [x, y]) := by rfl)
    (hs : swapsWithSole [.Tuple [.Name x px, .Name y py] kt pt] (.Tuple [a, b] k2 pt2) pos.line X.env = pure false := by rfl) :
    SS X E (.Assign [.Tuple [.Name x px, .Name y py] kt pt] (.Tuple [a, b] k2 pt2) pos) (sPar [i, j] das) := by
  refine PSw (ps_par hc hN hi hj hij hx hy ha hw hs) fun D σV H q => ?_
  obtain ⟨φ, σ, S, o, hs, hen, hd, hq⟩ := q
  unfold sPar at hd
  match ha : das σ S, hd with
  | none, hd => cases hd
  | some (.xc x S1), hd => cases hd; exact ⟨φ, σ, S, .xc x S1, hs, hen, ha, fun φ' H' e s => hq φ' H' σV e s (hen.mono e)⟩
  | some (.ok ws S1), hd =>
    rw [bndS_ok] at hd
    match hb : setW σ [i, j] ws, hd with
    | none, hd => cases hd
    | some σ1, hd =>
      cases hd
      refine ⟨φ, σ, S, .ok ws S1, hs, hen, ha, fun φ1 H1 vs e1 s1 x1 => ?_⟩
      obtain ⟨h1, h2⟩ := setW_erW (hen.mono e1) x1 hb
      match vs, h2 with
      | [v, w], _ => exact ⟨v, w, rfl, hq φ1 H1 _ e1 s1 h1⟩
/-- .. by a tuple made and taken apart -/
theorem s_parT {ts as : List Expr} {is : List Nat} {das : DA} {kt k2 : Nat} {pt pt2 : Pos} (hg : PGw X ts is) (ha : SA X E as das) (hsz : is.length ≤ 1000 := by decide) (hc : X.calm = true := by rfl) (hn : (assignEach ts X.env).length = is.length := by rfl) (hst : (assignEach ts X.env).findIdx? (·.1) = none := by rfl)
    (hs : swapsWithSole [.Tuple ts kt pt] (.Tuple as k2 pt2) pos.line X.env = pure false := by rfl) (hw : swappedStores [.Tuple ts kt pt] (.Tuple as k2 pt2) X.env = pure none := by rfl)
    (h1 : (assignEach [.Tuple ts kt pt] X.env).map (·.2) = [assign (.Tuple ts kt pt) X.env] := by rfl) : SS X E (.Assign [.Tuple ts kt pt] (.Tuple as k2 pt2) pos) (sPar is das) := by
  refine PSw (ps_asg (pe_tup ha) (g_tp hg hc hn hst) hs hw h1) fun D σV H q => ?_
  obtain ⟨φ, σ, S, o, hs, hen, hd, hq⟩ := q
  unfold sPar at hd
  match ha : das σ S, hd with
  | none, hd => cases hd
  | some (.xc x S1), hd => cases hd; exact ⟨φ, σ, S, .xc x S1, hs, hen, ha, fun φ' H' e s => hq φ' H' σV e s (hen.mono e)⟩
  | some (.ok ws S1), hd =>
    rw [bndS_ok] at hd
    match hb : setW σ is ws, hd with
    | none, hd => cases hd
    | some σ1, hd =>
      cases hd
      refine ⟨φ, σ, S, .ok ws S1, hs, hen, ha, fun φ1 H1 vs e1 s1 x1 => ?_⟩
      obtain ⟨h1, h2⟩ := setW_erW (hen.mono e1) x1 hb
      refine ⟨?_, fun p hp => ⟨p, vs, rfl, .of upd_same, h2, ?_⟩⟩
      · rw [h2, sizeLine_eq]; omega
      · have e2 := Ext.new (o := .tup vs) hp s1
        exact hq φ1 _ _ (e1.trans e2) (s1.new hp) (h1.mono e2)

/-! ### what is walked -/
mutual
def eqD : PyData → PyData → Bool
  | .none, .none => true
  | .bool a, .bool b => a == b
  | .int a, .int b => a == b
  | .str a, .str b => a == b
  | .list xs, .list ys => eqDs xs ys
  | .tuple xs, .tuple ys => eqDs xs ys
  | _, _ => false
def eqDs : List PyData → List PyData → Bool
  | [], [] => true
  | x :: xs, y :: ys => eqD x y && eqDs xs ys
  | _, _ => false
end
mutual
theorem eqD_eq : ∀ (x y : PyData), eqD x y = true → x = y
  | .none, .none, _ => rfl
  | .bool a, .bool b, h => by simp [eqD] at h; rw [h]
  | .int a, .int b, h => by simp [eqD] at h; rw [h]
  | .str a, .str b, h => by simp [eqD] at h; rw [h]
  | .list xs, .list ys, h => by rw [eqDs_eq xs ys (by simpa [eqD] using h)]
  | .tuple xs, .tuple ys, h => by rw [eqDs_eq xs ys (by simpa [eqD] using h)]
  | .none, .bool _, h | .none, .int _, h | .none, .str _, h | .none, .list _, h | .none, .tuple _, h | .none, .dict _, h => by simp [eqD] at h
  | .bool _, .none, h | .bool _, .int _, h | .bool _, .str _, h | .bool _, .list _, h | .bool _, .tuple _, h | .bool _, .dict _, h => by simp [eqD] at h
  | .int _, .none, h | .int _, .bool _, h | .int _, .str _, h | .int _, .list _, h | .int _, .tuple _, h | .int _, .dict _, h => by simp [eqD] at h
  | .str _, .none, h | .str _, .bool _, h | .str _, .int _, h | .str _, .list _, h | .str _, .tuple _, h | .str _, .dict _, h => by simp [eqD] at h
  | .list _, .none, h | .list _, .bool _, h | .list _, .int _, h | .list _, .str _, h | .list _, .tuple _, h | .list _, .dict _, h => by simp [eqD] at h
  | .tuple _, .none, h | .tuple _, .bool _, h | .tuple _, .int _, h | .tuple _, .str _, h | .tuple _, .list _, h | .tuple _, .dict _, h => by simp [eqD] at h
  | .dict _, .none, h | .dict _, .bool _, h | .dict _, .int _, h | .dict _, .str _, h | .dict _, .list _, h | .dict _, .tuple _, h | .dict _, .dict _, h => by simp [eqD] at h
theorem eqDs_eq : ∀ (x y : List PyData), eqDs x y = true → x = y
  | [], [], _ => rfl
  | x :: xs, y :: ys, h => by
    simp [eqDs] at h
    rw [eqD_eq x y h.1, eqDs_eq xs ys h.2]
  | [], _ :: _, h => by simp [eqDs] at h
  | _ :: _, [], h => by simp [eqDs] at h
end
mutual
def plD : PyData → Bool
  | .dict _ => false
  | .list xs => plDs xs
  | .tuple xs => plDs xs
  | _ => true
def plDs : List PyData → Bool
  | [] => true
  | x :: xs => plD x && plDs xs
end
mutual
theorem eqD_refl : ∀ x : PyData, plD x = true → eqD x x = true
  | .none, _ => rfl
  | .bool _, _ => by simp [eqD]
  | .int _, _ => by simp [eqD]
  | .str _, _ => by simp [eqD]
  | .list xs, h => eqDs_refl xs h
  | .tuple xs, h => eqDs_refl xs h
  | .dict _, h => by cases h
theorem eqDs_refl : ∀ xs : List PyData, plDs xs = true → eqDs xs xs = true
  | [], _ => rfl
  | x :: xs, h => by
    simp [plDs] at h
    simp [eqDs, eqD_refl x h.1, eqDs_refl xs h.2]
end
/-- the items, and the object of the store that is walked, if it is one -/
abbrev DI := En → So → M (List PyData × Option Nat)
def keepB (o : Option Nat) (ds : List PyData) (S : So) : Bool := match o with
  | none => true
  | some n => match S[n]? with
    | some (.lst ys) => eqDs ds ys
    | _ => false
structure ItD (K : PySem.W.Frag) (J : It) (ds : List PyData) (o : Option Nat) (φ0 : Fi) (H0 : Hp) : Prop where
  go : ∀ φ H S i d, Ext φ0 H0 φ H → SR K H φ S → keepB o ds S = true → ds[i]? = some d → J.go i H ∧ ∀ x H', J.yld i H x H' → Ext φ H φ H' ∧ SR K H' φ S ∧ RD K H' φ d x
  stop : ∀ φ H S, Ext φ0 H0 φ H → SR K H φ S → keepB o ds S = true → J.stop ds.length H
def oI (K : PySem.W.Frag) (mg : Str → Option Value) (E : XK) (φ : Fi) (H : Hp) (R : It → Hp → Prop) : RE (List PyData × Option Nat) → Prop
  | .ok ds S' => ∀ φ' H' J, Ext φ H φ' H' → SR K H' φ' S' → ItD K J ds.1 ds.2 φ' H' → ds.1.length ≤ sizeLine → R J H'
  | .xc x S' => ∀ φ' H', Ext φ H φ' H' → SR K H' φ' S' → XR K mg E x H' φ'
def iD (K : PySem.W.Frag) (mg : Str → Option Value) (E : EK) (d : DI) : TI := fun σV H R => ∃ φ σ S r, SR K H φ S ∧ ER K H φ mg σV σ ∧ d σ S = some r ∧ oI K mg (E σV) φ H R r
abbrev SI (X : Cx) (E : EK) (tg e : Expr) (d : DI) : Prop := PI X tg e (iD X.K X.mg E d)
theorem PIw {tg e : Expr} {t t' : TI} (h : PI X tg e t) (k : ∀ σ H R, t' σ H R → t σ H R) : PI X tg e t' := ⟨fun pins s σ H R I q => h.run pins s σ H R I (k σ H R q)⟩
/-- a list or a tuple is walked; its size is told -/
theorem pi_seqZ {tg l : Expr} {tl : TE} (hl : PE X l tl) : PI X tg l (fun σ H R => tl σ H fun x H1 => ∃ a xs, x = .ref a ∧
    ((SqL X.K H1 a xs ∧ (xs.length ≤ sizeLine → R (Itl X.K a) H1)) ∨ (SqT X.K H1 a xs ∧ (xs.length ≤ sizeLine → R (Itt X.K a) H1)))) := by
  refine ⟨fun pins s σ H R I h => ?_⟩
  refine thn (hl.run pins s σ H _ I h) fun v s1 ⟨x, H1, I1, r1, q1⟩ => ?_
  obtain ⟨a, xs, e, q⟩ := q1
  subst e
  cases r1
  have fresh : ∀ b ∈ [s1.heap.objs.size], FpOk X pins H1 b := fun b hb => by
    have e : b = s1.heap.objs.size := by simpa using hb
    rw [e]; exact I1.fpOk (Nat.le_refl _) (I1.hok.fresh (Nat.le_refl _))
  rcases q with ⟨hq, q⟩ | ⟨hq, q⟩
  · obtain ⟨its, rv, pl, hz⟩ := I1.list hq
    refine wpAny_pyIter_list pl.isList ?_
    exact ⟨_, _, _, _, H1, rfl, I1.kept (t' := s1.toks) fun b o e => Heap.get?_push_of_some _ e, turn_list a _, ⟨_, Heap.get?_push_size _ rfl, rfl, rfl⟩, fresh, q hz⟩
  · obtain ⟨its, rv, pl, hz⟩ := I1.tuple hq
    refine wpAny_pyIter_tuple (show s1.heap.IsTuple a its.toArray from pl) ?_
    exact ⟨_, _, _, _, H1, rfl, I1.kept (t' := s1.toks) fun b o e => Heap.get?_push_of_some _ e, turn_tuple a _, ⟨_, Heap.get?_push_size _ rfl, rfl, rfl⟩, fresh, q hz⟩
def dSeq (d : DE) : DI := fun σ S => bnd (d σ S) fun w S1 => match w with
  | .d (.list xs) => some (.ok (xs, none) S1)
  | .d (.tuple xs) => some (.ok (xs, none) S1)
  | .r n => match S1[n]? with
    | some (.lst xs) => some (.ok (xs, some n) S1)
    | _ => none
  | _ => none
theorem itl_it {K : PySem.W.Frag} {a : Addr} {vs : List V} {ds : List PyData} {φ : Fi} {H : Hp} (h : FL H φ a vs) (hd : RDs K H φ ds vs) : ItD K (Itl K a) ds none φ H where
  go := fun φ2 H2 S i d e s _ hi => by
    have hf := FL.sq (K := K) (h.mono e)
    have hr := RDs.mono e _ _ hd
    obtain ⟨v, hv, hw⟩ := hr.get hi
    exact ⟨⟨vs, v, hf, hv⟩, fun x H' ⟨e1, y⟩ => by subst e1; rw [Option.some.inj ((y vs hf).symm.trans hv)]; exact ⟨.refl, s, hw⟩⟩
  stop := fun φ2 H2 S e s _ => ⟨vs, (h.mono e).sq, by rw [hd.length]; exact Nat.le_refl _⟩
theorem itt_it {K : PySem.W.Frag} {a : Addr} {vs : List V} {ds : List PyData} {φ : Fi} {H : Hp} (h : TP K H a vs) (hd : RDs K H φ ds vs) : ItD K (Itt K a) ds none φ H where
  go := fun φ2 H2 S i d e s _ hi => by
    have hf := TP.sq (K := K) (TP.mono e h)
    have hr := RDs.mono e _ _ hd
    obtain ⟨v, hv, hw⟩ := hr.get hi
    exact ⟨⟨vs, v, hf, hv⟩, fun x H' ⟨e1, y⟩ => by subst e1; rw [Option.some.inj ((y vs hf).symm.trans hv)]; exact ⟨.refl, s, hw⟩⟩
  stop := fun φ2 H2 S e s _ => ⟨vs, (TP.mono e h).sq, by rw [hd.length]; exact Nat.le_refl _⟩
theorem itr_it {K : PySem.W.Frag} {a : Addr} {n : Nat} {ds : List PyData} {φ : Fi} {H : Hp} (h : φ.l[n]? = some a) : ItD K (Itl K a) ds (some n) φ H := by
  have key : ∀ φ2 H2 S, Ext φ H φ2 H2 → SR K H2 φ2 S → keepB (some n) ds S = true → ∃ vs, SqL K H2 a vs ∧ RDs K H2 φ2 ds vs := fun φ2 H2 S e s hk => by
    unfold keepB at hk
    dsimp only at hk
    split at hk
    · rename_i ys hy
      have e1 := eqDs_eq _ _ hk
      subst e1
      obtain ⟨t, ht⟩ := e.pre
      have h2 : φ2.l[n]? = some a := by rw [← ht, List.getElem?_append_left (List.getElem?_eq_some_iff.mp h).1]; exact h
      obtain ⟨vs, q1, q2⟩ := s.ob n a _ h2 hy
      exact ⟨vs, .of q1, q2⟩
    · cases hk
  refine ⟨fun φ2 H2 S i d e s hk hi => ?_, fun φ2 H2 S e s hk => ?_⟩
  · obtain ⟨vs, hf, hr⟩ := key φ2 H2 S e s hk
    obtain ⟨v, hv, hw⟩ := hr.get hi
    exact ⟨⟨vs, v, hf, hv⟩, fun x H' ⟨e1, y⟩ => by subst e1; rw [Option.some.inj ((y vs hf).symm.trans hv)]; exact ⟨.refl, s, hw⟩⟩
  · obtain ⟨vs, hf, hr⟩ := key φ2 H2 S e s hk
    exact ⟨vs, hf, by rw [hr.length]; exact Nat.le_refl _⟩
theorem i_seq {tg : Expr} (he : SE X E e d) : SI X E tg e (dSeq d) := by
  refine PIw (pi_seqZ he) fun σV H R q => ?_
  obtain ⟨φ, σ, S, r', hs, hen, hd, hq⟩ := q
  unfold dSeq at hd
  match ha : d σ S, hd with
  | none, hd => cases hd
  | some (.xc x S1), hd => cases hd; exact ⟨φ, σ, S, .xc x S1, hs, hen, ha, hq⟩
  | some (.ok w S1), hd =>
    refine ⟨φ, σ, S, .ok w S1, hs, hen, ha, fun φ1 H1 v e1 s1 x1 => ?_⟩
    rw [bnd_ok] at hd
    match w, hd, x1 with
    | .d (.list xs), hd, ⟨a, vs, e2, h1, h2⟩ =>
      cases hd
      exact ⟨a, vs, e2, .inl ⟨h1.sq, fun hz => hq φ1 H1 _ e1 s1 (itl_it h1 h2) (by rw [← h2.length]; exact hz)⟩⟩
    | .d (.tuple xs), hd, ⟨a, vs, e2, h1, h2⟩ =>
      cases hd
      exact ⟨a, vs, e2, .inr ⟨h1.sq, fun hz => hq φ1 H1 _ e1 s1 (itt_it h1 h2) (by rw [← h2.length]; exact hz)⟩⟩
    | .r n, hd, ⟨a, h1, e2⟩ =>
      dsimp only at hd
      split at hd
      · rename_i xs hx
        cases hd
        obtain ⟨vs, q1, q2⟩ := s1.ob n a _ h1 hx
        exact ⟨a, vs, e2, .inl ⟨.of q1, fun hz => hq φ1 H1 _ e1 s1 (itr_it h1) (by rw [← q2.length]; exact hz)⟩⟩
      · cases hd
/-- range(n), range(a, b) -/
def rng (a b : Int) : List PyData := (List.range (b - a).toNat).map fun (i : Nat) => .int (a + (i : Int))
def dRng1 (as : DA) : DI := fun σ S => bnd (as σ S) fun ws S1 => match ws with
  | [.d (.int n)] => if n < 16777216 ∧ -16777216 < n then some (.ok (rng 0 n, none) S1) else none
  | _ => none
def dRng2 (as : DA) : DI := fun σ S => bnd (as σ S) fun ws S1 => match ws with
  | [.d (.int m), .d (.int n)] => if n < 8000000 ∧ -8000000 < n ∧ m < 8000000 ∧ -8000000 < m then some (.ok (rng m n, none) S1) else none
  | _ => none
theorem rng_it {K : PySem.W.Frag} {a b : Int} {φ : Fi} {H : Hp} : ItD K (Itr a (b - a).toNat) (rng a b) none φ H where
  go := fun φ2 H2 S i d e s _ hi => by
    unfold rng at hi
    have hl : i < (b - a).toNat := by
      have := (List.getElem?_eq_some_iff.mp hi).1
      simpa using this
    simp [List.getElem?_range, hl] at hi
    exact ⟨hl, fun x H' ⟨e1, e2⟩ => by subst e1; subst hi; exact ⟨.refl, s, e2⟩⟩
  stop := fun φ2 H2 S e s _ => by show (b - a).toNat ≤ _; simp [rng]
theorem rng_len (a b : Int) : (rng a b).length = (b - a).toNat := by simp [rng]
theorem i_rng1 {tg a : Expr} {das : DA} (hm : X.mg "range" = none) (ha : SA X E [a] das) (hg : Gl X "range" := by rfl) (hs : starEach [a] X.env = [(false, eval a X.env)] := by rfl) : SI X E tg (.Call (.Name "range" p) [a] [] pos) (dRng1 das) := by
  refine PIw (pi_range1 hg hm ha hs) fun σV H R q => ?_
  obtain ⟨φ, σ, S, r', hs, hen, hd, hq⟩ := q
  unfold dRng1 at hd
  match ha : das σ S, hd with
  | none, hd => cases hd
  | some (.xc x S1), hd => cases hd; exact ⟨φ, σ, S, .xc x S1, hs, hen, ha, hq⟩
  | some (.ok ws S1), hd =>
    refine ⟨φ, σ, S, .ok ws S1, hs, hen, ha, fun φ1 H1 vs e1 s1 x1 => ?_⟩
    rw [bnd_ok] at hd
    split at hd
    · rename_i n
      split at hd
      · rename_i hn
        cases hd
        obtain ⟨v, r, e2, h1, h2⟩ := x1
        cases h1; cases h2
        refine ⟨n, e2, by omega, by omega, ?_⟩
        have := hq φ1 H1 (Itr 0 (n - 0).toNat) e1 s1 rng_it (by rw [rng_len, sizeLine_eq]; omega)
        simpa using this
      · cases hd
    · cases hd
theorem i_rng2 {tg a b : Expr} {das : DA} (hm : X.mg "range" = none) (ha : SA X E [a, b] das) (hg : Gl X "range" := by rfl) (hs : starEach [a, b] X.env = [(false, eval a X.env), (false, eval b X.env)] := by rfl) (hs2 : starEach [b] X.env = [(false, eval b X.env)] := by rfl) : SI X E tg (.Call (.Name "range" p) [a, b] [] pos) (dRng2 das) := by
  refine PIw (pi_range2 hg hm ha hs hs2) fun σV H R q => ?_
  obtain ⟨φ, σ, S, r', hs, hen, hd, hq⟩ := q
  unfold dRng2 at hd
  match ha : das σ S, hd with
  | none, hd => cases hd
  | some (.xc x S1), hd => cases hd; exact ⟨φ, σ, S, .xc x S1, hs, hen, ha, hq⟩
  | some (.ok ws S1), hd =>
    refine ⟨φ, σ, S, .ok ws S1, hs, hen, ha, fun φ1 H1 vs e1 s1 x1 => ?_⟩
    rw [bnd_ok] at hd
    split at hd
    · rename_i m n
      split at hd
      · rename_i hn
        cases hd
        obtain ⟨v, r, e2, h1, v2, r2, e3, h2, h3⟩ := x1
        cases h1; cases h2; cases h3
        subst e3
        exact ⟨m, n, e2, ⟨by omega, by omega, by omega, by omega⟩, hq φ1 H1 _ e1 s1 rng_it (by rw [rng_len, sizeLine_eq]; omega)⟩
      · cases hd
    · cases hd

/-! ### for -/
def forGo (o : Option Nat) (all : List PyData) (tg : Tg) (body : DS) : List PyData → DS
  | [], σ, S => if keepB o all S = true then some (.nx σ S) else none
  | x :: xs, σ, S => if keepB o all S = true then
      match bindT tg (.d x) σ with
      | none => none
      | some σ1 => match body σ1 S with
        | some (.nx σ2 S2) => forGo o all tg body xs σ2 S2
        | some (.ct σ2 S2) => forGo o all tg body xs σ2 S2
        | some (.bk σ2 S2) => some (.nx σ2 S2)
        | r => r
    else none
def sFor (tg : Tg) (it : DI) (body : DS) : DS := fun σ S => bndS σ (it σ S) fun p S1 => forGo p.2 p.1 tg body p.1 σ S1
theorem s_for {tg : Tg} {t iter : Expr} {body : List Stmt} {di : DI} {db : DS} (hi : SI X E t iter di) (hg : PG X t (gT X.K tg)) (hb : SSs X E body db) (hp : PassesOwn (model X.prog X.w) X.A X.env X.xe := by first | exact PassesOwn.never | assumption) (hc : X.calm = true := by rfl)
    (hs : ∀ x, foldedSetIterable iter X.env x = pure x := by intro _; rfl) : SS X E (.For t iter body [] pos) (sFor tg di db) := by
  refine PSw (ps_for hp hc hi hg hb hs) fun D σV H q => ?_
  obtain ⟨φ, σ, S, r, hs, hen, hd, hq⟩ := q
  unfold sFor at hd
  match ha : di σ S, hd with
  | none, hd => cases hd
  | some (.xc x S1), hd => cases hd; exact ⟨φ, σ, S, .xc x S1, hs, hen, ha, fun φ' H' e s => hq φ' H' σV e s (hen.mono e)⟩
  | some (.ok (ds, o) S1), hd =>
    rw [bndS_ok] at hd
    dsimp only at hd
    refine ⟨φ, σ, S, .ok (ds, o) S1, hs, hen, ha, fun φ1 H1 J e1 s1 it hz => ?_⟩
    have hq1 := oS_keep e1 hq
    refine ⟨fun i m σV2 H2 => ∃ φ2 σ2 S2, i + m = ds.length ∧ Ext φ1 H1 φ2 H2 ∧ SR X.K H2 φ2 S2 ∧ ER X.K H2 φ2 X.mg σV2 σ2 ∧ forGo o ds tg db (ds.drop i) σ2 S2 = some r,
      ⟨ds.length, φ1, σ, S1, by omega, .refl, s1, hen.mono e1, hd⟩, fun i m σV2 H2 hW => ?_⟩
    obtain ⟨φ2, σ2, S2, hm, e2, s2, en2, hf⟩ := hW
    by_cases hlt : i < ds.length
    · have hdr : ds.drop i = ds[i] :: ds.drop (i + 1) := List.drop_eq_getElem_cons hlt
      rw [hdr] at hf
      unfold forGo at hf
      split at hf
      · rename_i hk
        obtain ⟨go, yl⟩ := it.go φ2 H2 S2 i ds[i] e2 s2 hk (List.getElem?_eq_getElem hlt)
        refine .inr ⟨go, fun σ' H' => ∃ φ3 σ3 S3, i + 1 + (m - 1) = ds.length ∧ Ext φ1 H1 φ3 H' ∧ SR X.K H' φ3 S3 ∧ ER X.K H' φ3 X.mg σ' σ3 ∧ forGo o ds tg db (ds.drop (i + 1)) σ3 S3 = some r,
          fun σ' H' hN => ⟨m - 1, by omega, hN⟩, fun x H' hy => ?_⟩
        obtain ⟨e3, s3, x3⟩ := yl x H' hy
        match hbd : bindT tg (.d ds[i]) σ2, hf with
        | none, hf => cases hf
        | some σ3, hf =>
          refine gT_ok (en2.mono e3) (w := .d ds[i]) x3 hbd fun σV3 en3 => ?_
          have e13 := e2.trans e3
          dsimp only at hf
          match hbody : db σ3 S2, hf with
          | none, hf => cases hf
          | some (.nx σ4 S4), hf => exact ⟨φ2, σ3, S2, _, s3, en3, hbody, fun φ5 H5 σV5 e5 s5 en5 => ⟨φ5, σ4, S4, by omega, e13.trans e5, s5, en5, hf⟩⟩
          | some (.ct σ4 S4), hf => exact ⟨φ2, σ3, S2, _, s3, en3, hbody, fun φ5 H5 σV5 e5 s5 en5 => ⟨φ5, σ4, S4, by omega, e13.trans e5, s5, en5, hf⟩⟩
          | some (.bk σ4 S4), hf => cases hf; exact ⟨φ2, σ3, S2, _, s3, en3, hbody, oS_keep (o := .nx σ4 S4) e13 hq1⟩
          | some (.rt w S4), hf => cases hf; exact ⟨φ2, σ3, S2, _, s3, en3, hbody, oS_keep (o := .rt w S4) e13 hq1⟩
          | some (.xc w σ4 S4), hf => cases hf; exact ⟨φ2, σ3, S2, _, s3, en3, hbody, oS_keep (o := .xc w σ4 S4) e13 hq1⟩
      · cases hf
    · have hi : i = ds.length := by omega
      subst hi
      rw [List.drop_length] at hf
      unfold forGo at hf
      split at hf
      · rename_i hk
        cases hf
        exact .inl ⟨it.stop φ2 H2 S2 e2 s2 hk, oS_keep e2 hq1 φ2 H2 σV2 .refl s2 en2⟩
      · cases hf
end
end CL
end

section
/-! part CLNew -/
set_option Elab.async false
set_option linter.all false
set_option maxRecDepth 100000
/-! CLNew: lists that are made (as values, as objects), comprehensions, defs by their bodies. -/
namespace CL
open PySem PySem.Spec PyProof.Rows L2

abbrev DN := En → So → M (List PyData)
section
variable (K : PySem.W.Frag) (mg : Str → Option Value) (E : XK)
/-- a new list stands at a free place -/
def oN (φ : Fi) (H : Hp) (Q : VK) : RE (List PyData) → Prop
  | .ok xs S' => ∀ φ' H' p vs, Ext φ H φ' H' → SR K H' φ' S' → H' p = none → RDs K H' φ' xs vs → Q (.ref p) (upd H' p (.lst vs))
  | .xc x S' => ∀ φ' H', Ext φ H φ' H' → SR K H' φ' S' → XR K mg E x H' φ'
def tN (E : EK) (d : DN) : TE := fun σV H Q => ∃ φ σ S r, SR K H φ S ∧ ER K H φ mg σV σ ∧ d σ S = some r ∧ oN K mg (E σV) φ H Q r
end
abbrev SN (X : Cx) (E : EK) (e : Expr) (d : DN) : Prop := PE X e (tN X.K X.mg E d)
def dFz (d : DN) : DE := fun σ S => bnd (d σ S) fun xs S1 => some (.ok (.d (.list xs)) S1)
def dNew (d : DN) : DE := fun σ S => bnd (d σ S) fun xs S1 => some (.ok (.r S1.length) (S1 ++ [.lst xs]))
section
variable {X : Cx} {E : EK} {pos p : Pos} {e a : Expr} {d : DE} {dn : DN} {es : List Expr} {das : DA}
theorem newFL {K : PySem.W.Frag} {H : Hp} {φ : Fi} {S : So} {p : Addr} {vs : List V} (hs : SR K H φ S) (hp : H p = none) : FL (upd H p (.lst vs)) φ p vs := ⟨.inl upd_same, hs.notin hp, hs.notinh hp⟩
theorem fz_rd (σV : L2.St) (H : Hp) (Q : VK) (q : tE X.K X.mg E (dFz dn) σV H Q) : tN X.K X.mg E dn σV H Q := by
  obtain ⟨φ, σ, S, r, hs, hen, hd, hq⟩ := q
  unfold dFz at hd
  match ha : dn σ S, hd with
  | none, hd => cases hd
  | some (.xc x S1), hd => cases hd; exact ⟨φ, σ, S, .xc x S1, hs, hen, ha, hq⟩
  | some (.ok xs S1), hd =>
    cases hd
    refine ⟨φ, σ, S, .ok xs S1, hs, hen, ha, fun φ1 H1 p vs e1 s1 hp x1 => ?_⟩
    have e2 := Ext.new (o := .lst vs) hp s1
    exact hq φ1 _ _ (e1.trans e2) (s1.new hp) ⟨p, vs, rfl, newFL s1 hp, RDs.mono e2 _ _ x1⟩
theorem e_fz (h : SN X E e dn) : SE X E e (dFz dn) := PEw h fz_rd
theorem e_new (h : SN X E e dn) : SE X E e (dNew dn) := by
  refine PEw h fun σV H Q q => ?_
  obtain ⟨φ, σ, S, r, hs, hen, hd, hq⟩ := q
  unfold dNew at hd
  match ha : dn σ S, hd with
  | none, hd => cases hd
  | some (.xc x S1), hd => cases hd; exact ⟨φ, σ, S, .xc x S1, hs, hen, ha, hq⟩
  | some (.ok xs S1), hd =>
    cases hd
    refine ⟨φ, σ, S, .ok xs S1, hs, hen, ha, fun φ1 H1 p vs e1 s1 hp x1 => ?_⟩
    have e2 := Ext.push (o := .lst vs) hp s1
    refine hq (φ1.push p) _ _ (e1.trans e2) (s1.push hp ⟨vs, upd_same, RDs.mono e2 _ _ x1⟩) ⟨p, ?_, rfl⟩
    show (φ1.l ++ [p])[S1.length]? = some p
    rw [← s1.len]; simp
/-! ### displays -/
def dats : List W → Option (List PyData)
  | [] => some []
  | .d x :: ws => (dats ws).map (x :: ·)
  | _ :: _ => none
theorem dats_rd {K : PySem.W.Frag} {mg : Str → Option Value} {H : Hp} {φ : Fi} : ∀ {ws : List W} {vs : List V} {xs : List PyData}, RWs K H φ mg ws vs → dats ws = some xs → RDs K H φ xs vs
  | [], _, _, h, e => by cases e; exact h
  | .d x :: ws, _, _, ⟨v, r, e1, h1, h2⟩, e => by
    obtain ⟨ys, e2, e3⟩ := Option.map_eq_some_iff.mp e
    subst e3
    exact ⟨v, r, e1, h1, dats_rd h2 e2⟩
  | .r _ :: _, _, _, _, e => by cases e
  | .g _ :: _, _, _, _, e => by cases e
  | .s _ :: _, _, _, _, e => by cases e
def small (n : Nat) : Bool := decide (n ≤ 16777216)
theorem small_le {n : Nat} (h : small n = true) : n ≤ sizeLine := by rw [sizeLine_eq]; exact of_decide_eq_true h
def datz (ws : List W) : Option (List PyData) := if small ws.length = true then dats ws else none
def dLst (as : DA) : DN := fun σ S => bnd (as σ S) fun ws S1 => giv (datz ws) S1
theorem datz_of {ws : List W} {xs : List PyData} (h : datz ws = some xs) : ws.length ≤ sizeLine ∧ dats ws = some xs := by
  unfold datz at h
  split at h
  · rename_i hs; exact ⟨small_le hs, h⟩
  · cases h
theorem RWs.length {K : PySem.W.Frag} {mg : Str → Option Value} {H : Hp} {φ : Fi} : ∀ {ws : List W} {vs : List V}, RWs K H φ mg ws vs → vs.length = ws.length
  | [], _, h => by cases h; rfl
  | _ :: _, _, ⟨_, _, e, _, h⟩ => by subst e; simp [RWs.length h]
theorem n_lst (ha : SA X E es das) : SN X E (.List es pos) (dLst das) := by
  refine PEw (pe_lst ha) fun σV H Q q => ?_
  obtain ⟨φ, σ, S, r, hs, hen, hd, hq⟩ := q
  unfold dLst at hd
  match ha : das σ S, hd with
  | none, hd => cases hd
  | some (.xc x S1), hd => cases hd; exact ⟨φ, σ, S, .xc x S1, hs, hen, ha, hq⟩
  | some (.ok ws S1), hd =>
    rw [bnd_ok] at hd
    match hg : datz ws, hd with
    | none, hd => cases hd
    | some xs, hd =>
      cases hd
      obtain ⟨z, hg⟩ := datz_of hg
      exact ⟨φ, σ, S, .ok ws S1, hs, hen, ha, fun φ1 H1 vs e1 s1 x1 => ⟨by rw [x1.length]; exact z, fun p hp => hq φ1 H1 p vs e1 s1 hp (dats_rd x1 hg)⟩⟩
def dTup (as : DA) : DE := fun σ S => bnd (as σ S) fun ws S1 => giv ((datz ws).map fun xs => .d (.tuple xs)) S1
theorem e_tup {k : Nat} (ha : SA X E es das) : SE X E (.Tuple es k pos) (dTup das) := by
  refine PEw (pe_tup ha) fun σV H Q q => ?_
  obtain ⟨φ, σ, S, r, hs, hen, hd, hq⟩ := q
  unfold dTup at hd
  match ha : das σ S, hd with
  | none, hd => cases hd
  | some (.xc x S1), hd => cases hd; exact ⟨φ, σ, S, .xc x S1, hs, hen, ha, hq⟩
  | some (.ok ws S1), hd =>
    rw [bnd_ok] at hd
    match hg : datz ws, hd with
    | none, hd => cases hd
    | some xs, hd =>
      cases hd
      obtain ⟨z, hg⟩ := datz_of hg
      refine ⟨φ, σ, S, .ok ws S1, hs, hen, ha, fun φ1 H1 vs e1 s1 x1 => ⟨by rw [x1.length]; exact z, fun p hp => ?_⟩⟩
      have e2 := Ext.new (o := .tup vs) hp s1
      exact hq φ1 _ _ (e1.trans e2) (s1.new hp) ⟨p, vs, rfl, upd_same, RDs.mono e2 _ _ (dats_rd x1 hg)⟩

/-! ### comprehensions -/
def wipeW (σ : En) : List Nat → En
  | [] => σ
  | v :: vs => (wipeW σ vs).set v none
theorem wipe_er {K : PySem.W.Frag} {mg : Str → Option Value} {H : Hp} {φ : Fi} {σV : L2.St} {σ : En} (h : ER K H φ mg σV σ) : ∀ vs : List Nat, ER K H φ mg (wipe σV vs) (wipeW σ vs)
  | [] => h
  | v :: vs => by
    have ih := wipe_er h vs
    refine ⟨by unfold wipe wipeW; simp [ih.len], fun i w q => ?_⟩
    unfold wipeW at q
    unfold wipe
    by_cases e : v = i
    · subst e
      by_cases hl : v < (wipeW σ vs).length
      · rw [List.getElem?_set_self hl] at q; cases q
      · rw [List.getElem?_eq_none (by simp; omega)] at q; cases q
    · rw [List.getElem?_set_ne e] at q
      obtain ⟨u, h1, h2⟩ := ih.at_ i w q
      exact ⟨u, by rw [List.getElem?_set_ne e]; exact h1, h2⟩
def subT (tg : Tg) (vs : List Nat) : Bool := match tg with
  | .nm i => vs.contains i
  | .tp is => is.all vs.contains
theorem wipe_at {σV : L2.St} : ∀ {vs : List Nat} {i : Nat}, (wipe σV vs)[i]? = if i ∈ vs then (if i < σV.length then some none else none) else σV[i]?
  | [], i => by simp [wipe]
  | v :: vs, i => by
    unfold wipe
    by_cases e : v = i
    · subst e
      rw [List.getElem?_set_self']
      rw [wipe_at]
      by_cases h1 : v ∈ vs <;> by_cases h2 : v < σV.length <;> simp [h1, h2]
    · rw [List.getElem?_set_ne e, wipe_at]
      by_cases h1 : i ∈ vs
      · simp [h1]
      · simp [h1, Ne.symm e]
theorem wipe_ext {σV σW : L2.St} {vs : List Nat} (hl : σV.length = σW.length) (h : ∀ i, i ∉ vs → σV[i]? = σW[i]?) : wipe σV vs = wipe σW vs := by
  refine List.ext_getElem? fun i => ?_
  rw [wipe_at, wipe_at, hl]
  by_cases hi : i ∈ vs
  · rw [if_pos hi, if_pos hi]
  · rw [if_neg hi, if_neg hi, h i hi]
theorem setV_out : ∀ {is : List Nat} {xs : List V} {σV : L2.St} {i : Nat}, i ∉ is → (setV σV is xs)[i]? = σV[i]?
  | [], _, _, _, _ => rfl
  | _ :: _, [], _, _, _ => rfl
  | j :: is, x :: xs, σV, i, h => by
    unfold setV
    rw [setV_out (fun z => h (List.mem_cons_of_mem _ z)), List.getElem?_set_ne fun z => h (by subst z; exact List.mem_cons_self)]
theorem setV_len : ∀ {is : List Nat} {xs : List V} {σV : L2.St}, (setV σV is xs).length = σV.length
  | [], _, _ => rfl
  | _ :: _, [], _ => rfl
  | j :: is, x :: xs, σV => by unfold setV; rw [setV_len]; simp
theorem wipe_len {σV : L2.St} {vs : List Nat} : (wipe σV vs).length = σV.length := wipe_length _ _
theorem wipe_in {σV : L2.St} {vs : List Nat} : wipe (wipe σV vs) vs = wipe σV vs := wipe_ext wipe_len fun i hi => by rw [wipe_at, if_neg hi]
theorem gT_wipe {K : PySem.W.Frag} {mg : Str → Option Value} {H : Hp} {φ : Fi} {tg : Tg} {w : W} {v : V} {σ σ' : En} {σV : L2.St} {vs : List Nat} {Q : L2.St → Hp → Prop} (he : ER K H φ mg (wipe σV vs) σ) (hw : RW K H φ mg w v) (hb : bindT tg w σ = some σ')
    (hsub : subT tg vs = true) (q : ∀ σV', ER K H φ mg σV' σ' → wipe σV' vs = wipe σV vs → Q σV' H) : gT K tg v (wipe σV vs) H Q := by
  cases tg with
  | nm i =>
    cases hb
    refine q _ (he.set hw) (Eq.trans (wipe_ext (by simp) fun j hj => ?_) wipe_in)
    rw [List.getElem?_set_ne]
    intro e; subst e
    exact hj (by simpa [subT] using hsub)
  | tp is =>
    cases w with
    | d x =>
      cases x with
      | tuple ds =>
        obtain ⟨a, us, e1, h1, h2⟩ := hw
        obtain ⟨h3, h4⟩ := setW_er he h2 hb
        refine ⟨a, us, e1, h1.sq, h4, q _ h3 (Eq.trans (wipe_ext setV_len fun j hj => setV_out fun hm => hj ?_) wipe_in)⟩
        have := List.all_eq_true.mp hsub j hm
        simpa using this
      | _ => cases hb
    | _ => cases hb
def dYes : DT := fun _ S => some (.ok true S)
abbrev STs (X : Cx) (E : EK) (ifs : List Expr) (d : DT) : Prop := PTs X ifs (tT X.K X.mg E d)
theorem ts_nil : STs X E [] dYes := ⟨fun pins s σ H Q I ⟨φ, σ', S, r, hs, he, hd, hq⟩ => by cases hd; exact pts_nil.run pins s σ H Q I (hq φ H .refl hs)⟩
theorem ts_one {c : Expr} {dt : DT} (h : ST X E c dt) : STs X E [c] dt := pts_one h
def lcGo (o : Option Nat) (all : List PyData) (vs : List Nat) (σ : En) (tg : Tg) (cond : DT) (elt : DE) : List PyData → List PyData → So → M (List PyData)
  | [], acc, S => if keepB o all S = true then some (.ok acc S) else none
  | x :: xs, acc, S => if keepB o all S = true then
      match bindT tg (.d x) (wipeW σ vs) with
      | none => none
      | some σ1 => match cond σ1 S with
        | some (.ok true S1) => match elt σ1 S1 with
          | some (.ok (.d y) S2) => lcGo o all vs σ tg cond elt xs (acc ++ [y]) S2
          | _ => none
        | some (.ok false S1) => lcGo o all vs σ tg cond elt xs acc S1
        | _ => none
    else none
def dLc (vs : List Nat) (it : DI) (tg : Tg) (cond : DT) (elt : DE) : DN := fun σ S => bnd (it σ S) fun p S1 => lcGo p.2 p.1 vs σ tg cond elt p.1 [] S1
theorem RDs.unhide {K : PySem.W.Frag} {H : Hp} {φ2 : Fi} {h : List Addr} (hs : ∀ b ∈ h, b ∈ φ2.h) {ds : List PyData} {vs : List V} (q : RDs K H φ2 ds vs) : RDs K H ⟨φ2.l, h⟩ ds vs := RDs.sub (φ := ⟨φ2.l, h⟩) (φ' := φ2) (fun b hb => ⟨hb.1, fun z => hb.2 (hs b z)⟩) ds vs q
theorem SR.unhide {K : PySem.W.Frag} {H : Hp} {φ2 : Fi} {h : List Addr} {S : So} (hs : ∀ b ∈ h, b ∈ φ2.h) (q : SR K H φ2 S) : SR K H ⟨φ2.l, h⟩ S :=
  ⟨q.len, q.nd, fun i a o h1 h2 => by
    have := q.ob i a o h1 h2
    cases o with
    | lst xs => obtain ⟨vs, q1, q2⟩ := this; exact ⟨vs, q1, RDs.unhide hs q2⟩
    | dk xs => obtain ⟨vs, q1, q2, q3⟩ := this; exact ⟨vs, q1, q2, RDs.unhide hs q3⟩
    | dt xs => obtain ⟨vs, q1, q2, q3⟩ := this; exact ⟨vs, q1, q2, RDs.unhide hs q3⟩
    | lkK xs => obtain ⟨vs, q1, q2, q3⟩ := this; exact ⟨vs, q1, q2, RDs.unhide hs q3⟩
    | lkT xs => obtain ⟨vs, q1, q2, q3⟩ := this; exact ⟨vs, q1, q2, RDs.unhide hs q3⟩, fun b hb => q.hid b (hs b hb)⟩
/-- what stands between two turns: the list at D is hidden -/
structure LcSt (X : Cx) (φ1 : Fi) (H1 : Hp) (D : Addr) (σV : L2.St) (σ : En) (φ2 : Fi) (H2 : Hp) (S2 : So) (acc : List PyData) : Prop where
  hD : H1 D = none
  ext : Ext φ1 H1 φ2 H2
  hh : D ∈ φ2.h
  sr : SR X.K H2 φ2 S2
  er : ER X.K H2 φ2 X.mg σV σ
  at_ : ∃ vs, H2 D = some (.lst vs) ∧ RDs X.K H2 φ2 acc vs
theorem LcSt.step {φ1 φ2 φ3 : Fi} {H1 H2 H3 : Hp} {D : Addr} {σV : L2.St} {σ : En} {S2 S3 : So} {acc : List PyData} (L : LcSt X φ1 H1 D σV σ φ2 H2 S2 acc) (e : Ext φ2 H2 φ3 H3) (s : SR X.K H3 φ3 S3) : LcSt X φ1 H1 D σV σ φ3 H3 S3 acc := by
  obtain ⟨vs, h1, h2⟩ := L.at_
  have nD : D ∉ φ2.l := (L.sr.hid D L.hh).1
  exact ⟨L.hD, L.ext.trans e, e.hsub L.hh, s, L.er.mono e, vs, (e.kept D _ h1 nD).1, RDs.mono e _ _ h2⟩
theorem LcSt.add {φ1 φ2 : Fi} {H1 H2 : Hp} {D : Addr} {σV : L2.St} {σ : En} {S2 : So} {acc : List PyData} {vs : List V} {y : PyData} {v : V} (L : LcSt X φ1 H1 D σV σ φ2 H2 S2 acc) (hv : H2 D = some (.lst vs)) (hy : RD X.K H2 φ2 y v) :
    LcSt X φ1 H1 D σV σ φ2 (upd H2 D (.lst (vs ++ [v]))) S2 (acc ++ [y]) := by
  obtain ⟨us, h1, h2⟩ := L.at_
  rw [hv] at h1; cases h1
  have hx : ∀ b, b ≠ D → upd H2 D (.lst (vs ++ [v])) b = H2 b := fun b hb => upd_ne hb
  refine ⟨L.hD, ⟨L.ext.pre, L.ext.hid, fun b h => L.ext.trk b (upd_trk b h), fun b o h n => ?_, fun b ws h => TP.grow (K := X.K) hv hx (L.ext.tups b ws h), fun b o u h => (upd_ne (ne_of_none h L.hD)).trans (L.ext.frz b o u h)⟩, L.hh, L.sr.grow L.hh hv, L.er.grow L.hh hv hx, _, upd_same, RDs.append (RDs.grow L.hh hv hx _ _ h2) (RDs.one (RD.grow L.hh hv hx _ _ hy))⟩
  obtain ⟨a1, a2⟩ := L.ext.kept b o h n
  exact ⟨by rw [upd_ne (ne_of_none h L.hD)]; exact a1, a2⟩
theorem lc_rd {vs : List Nat} {di : DI} {tgd : Tg} {dt : DT} {de : DE} (hsub : subT tgd vs = true) (σV : L2.St) (H : Hp) (Q : VK) (q : tN X.K X.mg E (dLc vs di tgd dt de) σV H Q) :
    tLc (iD X.K X.mg E di) (gT X.K tgd) (tT X.K X.mg EN dt) (tE X.K X.mg EN de) vs σV H Q := by
  obtain ⟨φ, σ, S, r, hs, hen, hd, hq⟩ := q
  unfold dLc at hd
  match ha : di σ S, hd with
  | none, hd => cases hd
  | some (.xc x S1), hd => cases hd; exact ⟨φ, σ, S, .xc x S1, hs, hen, ha, hq⟩
  | some (.ok (ds, o) S1), hd =>
    rw [bnd_ok] at hd
    refine ⟨φ, σ, S, .ok (ds, o) S1, hs, hen, ha, fun φ1 H1 J e1 s1 itd hz D hD => ?_⟩
    have hz : ds.length ≤ sizeLine := hz
    refine ⟨fun i m H2 => ∃ φ2 S2 acc, i + m = ds.length ∧ acc.length ≤ i ∧ LcSt X φ1 H1 D σV σ φ2 H2 S2 acc ∧ lcGo o ds vs σ tgd dt de (ds.drop i) acc S2 = some r,
      ⟨ds.length, φ1.hide D, S1, [], by omega, Nat.le_refl _, ⟨hD, Ext.hide hD, List.mem_cons_self, s1.hide hD, (hen.mono e1).hide hD, [], upd_same, rfl⟩, hd⟩, fun i m H2 hW => ?_⟩
    obtain ⟨φ2, S2, acc, hm, hal, L, hf⟩ := hW
    by_cases hlt : i < ds.length
    · have hdr : ds.drop i = ds[i] :: ds.drop (i + 1) := List.drop_eq_getElem_cons hlt
      rw [hdr] at hf
      unfold lcGo at hf
      split at hf
      · rename_i hk
        obtain ⟨go, yl⟩ := itd.go φ2 H2 S2 i ds[i] L.ext L.sr hk (List.getElem?_eq_getElem hlt)
        refine .inr ⟨go, fun H' => ∃ φ3 S3 acc, i + 1 + (m - 1) = ds.length ∧ acc.length ≤ i + 1 ∧ LcSt X φ1 H1 D σV σ φ3 H' S3 acc ∧ lcGo o ds vs σ tgd dt de (ds.drop (i + 1)) acc S3 = some r,
          fun H' hN => ⟨m - 1, by omega, hN⟩, fun x H3 hy => ?_⟩
        obtain ⟨e3, s3, x3⟩ := yl x H3 hy
        have L3 := L.step e3 s3
        match hbd : bindT tgd (.d ds[i]) (wipeW σ vs), hf with
        | none, hf => cases hf
        | some σ3, hf =>
          refine gT_wipe (wipe_er L3.er vs) (w := .d ds[i]) x3 hbd hsub fun σV3 en3 hw => ⟨hw, ?_⟩
          dsimp only at hf
          match hct : dt σ3 S2, hf with
          | none, hf => cases hf
          | some (.xc x S4), hf => cases hf
          | some (.ok true S4), hf =>
            refine ⟨φ2, σ3, S2, _, s3, en3, hct, fun φ5 H5 e5 s5 => iteT ?_⟩
            have L5 := L3.step e5 s5
            dsimp only at hf
            match hce : de σ3 S4, hf with
            | none, hf => cases hf
            | some (.xc x S6), hf => cases hf
            | some (.ok (.r _) S6), hf => cases hf
            | some (.ok (.g _) S6), hf => cases hf
            | some (.ok (.s _) S6), hf => cases hf
            | some (.ok (.d y) S6), hf =>
              refine ⟨φ5, σ3, S4, _, s5, en3.mono e5, hce, fun φ7 H7 v e7 s7 x7 => ?_⟩
              have L7 := L5.step e7 s7
              obtain ⟨us, h1, h2⟩ := L7.at_
              refine ⟨us, h1, ?_, φ7, S6, acc ++ [y], by omega, by simp; omega, L7.add h1 x7, hf⟩
              rw [h2.length]
              omega
          | some (.ok false S4), hf =>
            refine ⟨φ2, σ3, S2, _, s3, en3, hct, fun φ5 H5 e5 s5 => iteF ?_⟩
            exact ⟨φ5, S4, acc, by omega, by omega, L3.step e5 s5, hf⟩
      · cases hf
    · have hi : i = ds.length := by omega
      subst hi
      rw [List.drop_length] at hf
      unfold lcGo at hf
      split at hf
      · rename_i hk
        cases hf
        refine .inl ⟨itd.stop φ2 H2 S2 L.ext L.sr hk, ?_⟩
        obtain ⟨us, h1, h2⟩ := L.at_
        have hx : ∀ b, b ≠ D → (fun b => if b = D then none else H2 b : Hp) b = H2 b := fun b hb => if_neg hb
        have nD : D ∉ φ2.l := (L.sr.hid D L.hh).1
        have hsub2 : ∀ b ∈ φ1.h, b ∈ φ2.h := fun b hb => L.ext.hsub hb
        have back : upd (fun b => if b = D then none else H2 b) D (.lst us) = H2 := by
          funext b
          by_cases e : b = D
          · subst e; rw [upd_same, h1]
          · rw [upd_ne e]; exact if_neg e
        have ext2 : Ext φ1 H1 ⟨φ2.l, φ1.h⟩ (fun b => if b = D then none else H2 b) := by
          refine ⟨L.ext.pre, ⟨[], rfl, fun _ h => by cases h⟩, fun b h => ?_, fun b u h n => ?_, fun b ws h => TP.grow (K := X.K) h1 hx (L.ext.tups b ws h), fun b o u h => (hx b (ne_of_none h hD)).trans (L.ext.frz b o u h)⟩
          · by_cases e : b = D
            · subst e; exact hD
            · exact L.ext.trk b (by rw [← hx b e]; exact h)
          · obtain ⟨a1, a2⟩ := L.ext.kept b u h n
            exact ⟨(hx b (ne_of_none h hD)).trans a1, a2⟩
        have sr2 : SR X.K (fun b => if b = D then none else H2 b) ⟨φ2.l, φ1.h⟩ S2 := by
          refine ⟨L.sr.len, L.sr.nd, fun j a ob q1 q2 => ?_, fun b hb => ?_⟩
          · have hne : a ≠ D := fun e => nD (e ▸ List.mem_of_getElem? q1)
            have w := OR.grow L.hh h1 hx hne (L.sr.ob j a ob q1 q2)
            cases ob with
            | lst xs => obtain ⟨vs, w1, w2⟩ := w; exact ⟨vs, w1, RDs.unhide hsub2 w2⟩
            | dk xs => obtain ⟨vs, w1, w2, w3⟩ := w; exact ⟨vs, w1, w2, RDs.unhide hsub2 w3⟩
            | dt xs => obtain ⟨vs, w1, w2, w3⟩ := w; exact ⟨vs, w1, w2, RDs.unhide hsub2 w3⟩
            | lkK xs => obtain ⟨vs, w1, w2, w3⟩ := w; exact ⟨vs, w1, w2, RDs.unhide hsub2 w3⟩
            | lkT xs => obtain ⟨vs, w1, w2, w3⟩ := w; exact ⟨vs, w1, w2, RDs.unhide hsub2 w3⟩
          · obtain ⟨w1, ws, w2⟩ := L.sr.hid b (hsub2 b hb)
            have hne : b ≠ D := fun e => s1.notinh hD (e ▸ hb)
            exact ⟨w1, ws, (hx b hne).trans w2⟩
        have := hq ⟨φ2.l, φ1.h⟩ _ D us (e1.trans ext2) sr2 (if_pos rfl) (RDs.unhide hsub2 (RDs.grow L.hh h1 hx _ _ h2))
        rw [back] at this
        exact this
      · cases hf
theorem n_lc {elt tg iter : Expr} {ifs : List Expr} {scope : Scope} (own : List (Str × Nat)) {di : DI} {tgd : Tg} {dt : DT} {de : DE} (hN : X.N.Nodup) (hi : SI X E tg iter di) (ok : BlkOk X.N X.env.scope scope own)
    (hg : ∀ (s : Shared) (H : Hp) (C : Addr) (cl : List (Str × Addr)) (fp : List Addr), PG (X.blk s H scope (compEnvC scope cl C X.env) fp) tg (gT X.K tgd)) (ht : ∀ (s : Shared) (H : Hp) (C : Addr) (cl : List (Str × Addr)) (fp : List Addr), STs (X.blk s H scope (compEnvC scope cl C X.env) fp) EN ifs dt)
    (he : ∀ (s : Shared) (H : Hp) (C : Addr) (cl : List (Str × Addr)) (fp : List Addr), SE (X.blk s H scope (compEnvC scope cl C X.env) fp) EN elt de) (hsub : subT tgd (own.map (·.2)) = true := by rfl) (hc : X.calm = true := by rfl) (hs : ∀ x, foldedSetIterable iter X.env x = pure x := by intro _; rfl) :
    SN X E (elt.ListComp [⟨tg, iter, ifs, 0⟩] scope pos) (dLc (own.map (·.2)) di tgd dt de) :=
  PEw (pe_lc (g := gT X.K tgd) (tt := tT X.K X.mg EN dt) (te := tE X.K X.mg EN de) hc hN hi ok hg ht he hs) (lc_rd hsub)
theorem set_rd {i : Nat} {d : DE} (D : Ends) (σV : L2.St) (H : Hp) (q : tS X.K X.mg E (sSet i d) D σV H) : tE X.K X.mg E d σV H fun x H1 => gName i x σV H1 D.nx := by
  obtain ⟨φ, σ, S, o, hs, hen, hd, hq⟩ := q
  unfold sSet at hd
  match ha : d σ S, hd with
  | none, hd => cases hd
  | some (.xc x S1), hd => cases hd; exact ⟨φ, σ, S, .xc x S1, hs, hen, ha, fun φ' H' e s => hq φ' H' σV e s (hen.mono e)⟩
  | some (.ok w S1), hd =>
    cases hd
    exact ⟨φ, σ, S, .ok w S1, hs, hen, ha, fun φ1 H1 v e1 s1 x1 => hq φ1 H1 _ e1 s1 ((hen.mono e1).set x1)⟩
/-- y = [..]: the model's own road where y is a plain local -/
theorem s_setLc (i : Nat) {y : Str} {py spos : Pos} {elt tg iter : Expr} {ifs : List Expr} {scope : Scope} (own : List (Str × Nat)) {di : DI} {tgd : Tg} {dt : DT} {de : DE} (hN : X.N.Nodup) (hi : SI X E tg iter di) (ok : BlkOk X.N X.env.scope scope own)
    (hg : ∀ (s : Shared) (H : Hp) (C : Addr) (cl : List (Str × Addr)) (fp : List Addr), PG (X.blk s H scope (compEnvC scope cl C X.env) fp) tg (gT X.K tgd)) (ht : ∀ (s : Shared) (H : Hp) (C : Addr) (cl : List (Str × Addr)) (fp : List Addr), STs (X.blk s H scope (compEnvC scope cl C X.env) fp) EN ifs dt)
    (he : ∀ (s : Shared) (H : Hp) (C : Addr) (cl : List (Str × Addr)) (fp : List Addr), SE (X.blk s H scope (compEnvC scope cl C X.env) fp) EN elt de)
    (hsw : swapsWith (.ListComp elt [⟨tg, iter, ifs, 0⟩] scope pos) (some (.Name y py)) spos.line X.env = pure true) (hy : X.N[i]? = some y := by rfl) (hyl : X.env.scope.names.lookup y = some .local := by rfl)
    (hsub : subT tgd (own.map (·.2)) = true := by rfl) (hc : X.calm = true := by rfl) (hs : ∀ x, foldedSetIterable iter X.env x = pure x := by intro _; rfl) :
    SS X E (.Assign [.Name y py] (elt.ListComp [⟨tg, iter, ifs, 0⟩] scope pos) spos) (sSet i (dFz (dLc (own.map (·.2)) di tgd dt de))) := by
  refine PSw (ps_setLc (g := gT X.K tgd) (tt := tT X.K X.mg EN dt) (te := tE X.K X.mg EN de) hc hN hy hyl hsw hi ok hg ht he hs) fun D σV H q => ?_
  exact lc_rd hsub _ _ _ (fz_rd _ _ _ (set_rd D σV H q))

/-! ### a def by its body -/
def startW (n : Nat) (ws : List W) : En := ws.map some ++ List.replicate (n - ws.length) none
/-- the objects that the def made are given up; a list that is handed back stands as a value -/
def gc (k : Nat) (w : W) (S' : So) : M W := match w with
  | .d x => some (.ok (.d x) (S'.take k))
  | .g x => some (.ok (.g x) (S'.take k))
  | .s _ => none
  | .r n => if n < k then some (.ok (.r n) (S'.take k)) else match S'[n]? with
    | some (.lst xs) => some (.ok (.d (.list xs)) (S'.take k))
    | _ => none
/-- .. but for the object that is handed back -/
def gcNew (k : Nat) (w : W) (S' : So) : M W := match w with
  | .d x => some (.ok (.d x) (S'.take k))
  | .g x => some (.ok (.g x) (S'.take k))
  | .s _ => none
  | .r n => if n < k then some (.ok (.r n) (S'.take k)) else match S'[n]? with
    | some o => some (.ok (.r k) (S'.take k ++ [o]))
    | _ => none
def fnB (G : Nat → W → So → M W) (np nN : Nat) (body : DS) : DF := fun ws S => if ws.length = np then
    match body (startW nN ws) S with
    | some (.nx _ S') => some (.ok (.d .none) (S'.take S.length))
    | some (.rt w S') => G S.length w S'
    | some (.xc x _ S') => some (.xc x (S'.take S.length))
    | _ => none
  else none
def GcOk (G : Nat → W → So → M W) : Prop := ∀ (K : PySem.W.Frag) (mg : Str → Option Value) (φ φ' : Fi) (H H' : Hp) (S' : So) (w : W) (v : V) (r : RE W), Ext φ H φ' H' → SR K H' φ' S' → RW K H' φ' mg w v → G φ.l.length w S' = some r →
  ∃ w2 S2 φ2, r = .ok w2 S2 ∧ Ext φ H φ2 H' ∧ SR K H' φ2 S2 ∧ RW K H' φ2 mg w2 v
theorem gc_ok : GcOk gc := by
  intro K mg φ φ' H H' S' w v r e s x h
  cases w with
  | d y => cases h; exact ⟨_, _, φ, rfl, e.cut, s.cut e rfl, RD.cut e x⟩
  | g y => cases h; exact ⟨_, _, φ, rfl, e.cut, s.cut e rfl, x⟩
  | s y => cases h
  | r n =>
    obtain ⟨a, h1, e1⟩ := x
    obtain ⟨t, ht⟩ := e.pre
    unfold gc at h
    dsimp only at h
    split at h
    · rename_i hn
      cases h
      exact ⟨_, _, φ, rfl, e.cut, s.cut e rfl, a, by rw [← ht, List.getElem?_append_left hn] at h1; exact h1, e1⟩
    · rename_i hn
      split at h
      · rename_i xs hx
        cases h
        obtain ⟨vs, q1, q2⟩ := s.ob n a _ h1 hx
        refine ⟨_, _, φ, rfl, e.cut, s.cut e rfl, a, vs, e1, ⟨.inl q1, fun hm => ?_, fun hm => (s.hid a (e.hsub hm)).1 (List.mem_of_getElem? h1)⟩, RDs.cut e q2⟩
        obtain ⟨i, hi, ei⟩ := List.getElem_of_mem hm
        have h2 : φ'.l[i]? = some a := by rw [← ht, List.getElem?_append_left hi, List.getElem?_eq_getElem hi, ei]
        have : i = n := (List.getElem?_inj (List.getElem?_eq_some_iff.mp h2).1 s.nd).mp (h2.trans h1.symm)
        omega
      · cases h
theorem gcNew_ok : GcOk gcNew := by
  intro K mg φ φ' H H' S' w v r e s x h
  cases w with
  | d y => cases h; exact ⟨_, _, φ, rfl, e.cut, s.cut e rfl, RD.cut e x⟩
  | g y => cases h; exact ⟨_, _, φ, rfl, e.cut, s.cut e rfl, x⟩
  | s y => cases h
  | r n =>
    obtain ⟨a, h1, e1⟩ := x
    obtain ⟨t, ht⟩ := e.pre
    unfold gcNew at h
    dsimp only at h
    split at h
    · rename_i hn
      cases h
      exact ⟨_, _, φ, rfl, e.cut, s.cut e rfl, a, by rw [← ht, List.getElem?_append_left hn] at h1; exact h1, e1⟩
    · rename_i hn
      split at h
      · rename_i o hx
        cases h
        have hm' : a ∈ φ'.l := List.mem_of_getElem? h1
        have na : a ∉ φ.l := fun hm => by
          obtain ⟨i, hi, ei⟩ := List.getElem_of_mem hm
          have h2 : φ'.l[i]? = some a := by rw [← ht, List.getElem?_append_left hi, List.getElem?_eq_getElem hi, ei]
          have : i = n := (List.getElem?_inj (List.getElem?_eq_some_iff.mp h2).1 s.nd).mp (h2.trans h1.symm)
          omega
        have sc := s.cut e rfl
        have hsub : ∀ b, b ∉ φ'.l ∧ b ∉ φ'.h → b ∉ (φ.push a).l ∧ b ∉ (φ.push a).h := fun b hb => ⟨fun hm => by
          rcases List.mem_append.mp hm with hm | hm
          · exact hb.1 (e.pre.subset hm)
          · rw [List.mem_singleton] at hm; subst hm; exact hb.1 hm', fun hm => hb.2 (e.hsub hm)⟩
        have orx : ∀ {b : Addr} {ob : O}, OR K H' φ' b ob → OR K H' (φ.push a) b ob := fun {b ob} w => by
          cases ob with
          | lst xs => obtain ⟨vs, w1, w2⟩ := w; exact ⟨vs, w1, RDs.sub hsub _ _ w2⟩
          | dk xs => obtain ⟨vs, w1, w2, w3⟩ := w; exact ⟨vs, w1, w2, RDs.sub hsub _ _ w3⟩
          | dt xs => obtain ⟨vs, w1, w2, w3⟩ := w; exact ⟨vs, w1, w2, RDs.sub hsub _ _ w3⟩
          | lkK xs => obtain ⟨vs, w1, w2, w3⟩ := w; exact ⟨vs, w1, w2, RDs.sub hsub _ _ w3⟩
          | lkT xs => obtain ⟨vs, w1, w2, w3⟩ := w; exact ⟨vs, w1, w2, RDs.sub hsub _ _ w3⟩
        have hle : φ.l.length ≤ S'.length := by rw [← s.len, ← ht]; simp
        have htk : (S'.take φ.l.length).length = φ.l.length := by simp; omega
        refine ⟨_, _, φ.push a, rfl, ⟨List.prefix_append _ _, ⟨[], rfl, fun _ h => by cases h⟩, e.trk, fun b u h nb => ⟨(e.kept b u h nb).1, fun hm => ?_⟩, e.tups, e.frz⟩, ⟨?_, ?_, fun i b ob q1 q2 => ?_, fun b hb => ?_⟩, a, ?_, e1⟩
        · rcases List.mem_append.mp hm with hm | hm
          · exact nb hm
          · rw [List.mem_singleton] at hm; subst hm; exact (e.kept b u h nb).2 hm'
        · show (φ.l ++ [a]).length = _
          rw [List.length_append, List.length_append, htk]; rfl
        · show (φ.l ++ [a]).Nodup
          rw [List.nodup_append]
          refine ⟨sc.nd, by simp, fun c hc d hd => ?_⟩
          rw [List.mem_singleton] at hd; subst hd
          intro z; subst z; exact na hc
        · have q1 : (φ.l ++ [a])[i]? = some b := q1
          by_cases hi : i < φ.l.length
          · rw [List.getElem?_append_left hi] at q1
            rw [List.getElem?_append_left (by rw [htk]; exact hi), List.getElem?_take_of_lt hi] at q2
            exact orx (s.ob i b ob (by rw [← ht, List.getElem?_append_left hi]; exact q1) q2)
          · have hi2 : i = φ.l.length := by
              have := (List.getElem?_eq_some_iff.mp q1).1
              simp at this; omega
            subst hi2
            rw [List.getElem?_append_right (Nat.le_refl _)] at q1
            rw [List.getElem?_append_right (by rw [htk]; exact Nat.le_refl _), htk] at q2
            simp at q1 q2
            subst q1; subst q2
            exact orx (s.ob n a _ h1 hx)
        · obtain ⟨w1, us, w2⟩ := s.hid b (e.hsub hb)
          refine ⟨fun hm => ?_, us, w2⟩
          rcases List.mem_append.mp hm with hm | hm
          · exact w1 (e.pre.subset hm)
          · rw [List.mem_singleton] at hm; subst hm; exact w1 hm'
        · show (φ.l ++ [a])[φ.l.length]? = some a
          simp
      · cases h
theorem RWs.get {K : PySem.W.Frag} {mg : Str → Option Value} {H : Hp} {φ : Fi} : ∀ {ws : List W} {vs : List V} {i : Nat} {w : W}, RWs K H φ mg ws vs → ws[i]? = some w → ∃ v, vs[i]? = some v ∧ RW K H φ mg w v
  | [], _, _, _, _, e => by simp at e
  | _ :: _, _, 0, _, ⟨v, r, e, h, _⟩, e2 => by subst e; simp at e2; subst e2; exact ⟨v, rfl, h⟩
  | _ :: _, _, i + 1, d, ⟨v, r, e, _, h⟩, e2 => by
    subst e
    obtain ⟨u, h1, h2⟩ := RWs.get (i := i) (w := d) h (by simpa using e2)
    exact ⟨u, by simpa using h1, h2⟩
theorem start_er {K : PySem.W.Frag} {mg : Str → Option Value} {H : Hp} {φ : Fi} {ws : List W} {vs : List V} {N : List Str} (h : RWs K H φ mg ws vs) : ER K H φ mg (L2.start N vs) (startW N.length ws) := by
  have hl := h.length
  refine ⟨by simp [L2.start, startW, hl], fun i w q => ?_⟩
  unfold startW at q
  by_cases hi : i < ws.length
  · rw [List.getElem?_append_left (by simpa using hi), List.getElem?_map] at q
    obtain ⟨w', e1, e2⟩ := Option.map_eq_some_iff.mp q
    cases e2
    obtain ⟨v, h1, h2⟩ := h.get e1
    refine ⟨v, ?_, h2⟩
    unfold L2.start
    rw [List.getElem?_append_left (by simpa [hl] using hi), List.getElem?_map, h1]; rfl
  · rw [List.getElem?_append_right (by simpa using Nat.le_of_not_lt hi)] at q
    have := List.mem_of_getElem? q
    rw [List.mem_replicate] at this
    cases this.2
theorem mk_fn {P : Program} {w : World} {K : PySem.W.Frag} {mg : Str → Option Value} {base : Heap} {x qual : Str} {st : Stmt} {f : Addr} {fd : FuncData} {N ps : List Str} {k : Nat} {G : Nat → W → So → M W} {d : DS} (hG : GcOk G) (F : Fun K x qual st f fd) (Sc : FnScope N ps (defScope st))
    (hbody : ∀ (cdv : Value) (A : Around) (outer : List Env) (s : Shared) (H : Hp) (E : XK), A.guards = some [] → Room k (A.deeper (envOfC qual (defScope st) s.heap.objs.size f cdv)) → SSs (cxOf CX0 P w K mg base N qual (defScope st) f cdv A outer s H E).nox (fun _ => E) (defBody st) d) :
    FnG P w K mg base CX0 (k + 1) f fd ps (spF K mg (fnB G ps.length N.length d)) := by
  refine fnG_of F Sc (fun vs H Q E h => ?_) (fun cdv A outer s H vs Q E hgd hr h => ?_)
  · obtain ⟨φ, S, ws, r, hs, hw, hF, hq⟩ := h
    unfold fnB at hF
    split at hF
    · rename_i hl; rw [hw.length, hl]
    · cases hF
  · refine ⟨_, (hbody cdv A outer s H E hgd hr).nox, ?_⟩
    obtain ⟨φ, S, ws, r, hs, hw, hF, hq⟩ := h
    unfold fnB at hF
    split at hF
    · have en := start_er (N := N) hw
      match hb : d (startW N.length ws) S, hF with
      | none, hF => cases hF
      | some (.nx σ' S'), hF =>
        cases hF
        exact ⟨φ, _, S, _, hs, en, hb, fun φ' H' σV' e s' _ => hq φ H' .non e.cut (s'.cut e hs.len) rfl⟩
      | some (.rt w S'), hF =>
        refine ⟨φ, _, S, _, hs, en, hb, fun φ' H' v e s' xw => ?_⟩
        dsimp only at hF
        rw [← hs.len] at hF
        obtain ⟨w2, S2, φ2, rfl, e2, s2, x2⟩ := hG K mg φ φ' H H' S' w v r e s' xw hF
        exact hq φ2 H' v e2 s2 x2
      | some (.xc y σ' S'), hF =>
        cases hF
        refine ⟨φ, _, S, _, hs, en, hb, fun φ' H' _ e s' _ C hC => ?_⟩
        have := hq φ H' e.cut (s'.cut e hs.len) C hC
        exact ⟨this.1, fun a us h1 h2 => this.2 a us h1 (RDs.cut e h2)⟩
      | some (.bk _ _), hF => cases hF
      | some (.ct _ _), hF => cases hF
    · cases hF
end
end CL
end

section
/-! part CLOpA -/
set_option Elab.async false
set_option linter.all false
set_option maxRecDepth 100000
/-! CLOpA: numbers, comparisons, joins. -/
namespace CL
open PySem PySem.Spec PyProof.Rows L2

section
variable {X : Cx} {E : EK} {pos p : Pos}
theorem opw {f : Value → Value → Sem Value} {r r' : R2} (h : OpR X f r) (k : ∀ v1 v2 H Q, r' v1 v2 H Q → r v1 v2 H Q) : OpR X f r' :=
  fun pins s σ H x y v u Q I rx ry q => h pins s σ H x y v u Q I rx ry (k x y H Q q)
theorem callw {f : Value} {r r' : List V → Hp → VK → Prop} (h : CallR X f r) (k : ∀ vs H Q, r' vs H Q → r vs H Q) : CallR X f r' :=
  fun pins s σ H xs us Q I rx q => h pins s σ H xs us Q I rx (k xs H Q q)
/-- an operation on data as it is read -/
def on2 (f : PyData → PyData → Option PyData) : So → W → W → Option W := fun S x y => match rd S x, rd S y with
  | some a, some b => (f a b).map W.d
  | _, _ => none
@[simp] theorem on2_d (f : PyData → PyData → Option PyData) (S : So) (a b : PyData) : on2 f S (.d a) (.d b) = (f a b).map W.d := rfl
def on1 (f : PyData → Option PyData) : So → W → Option W := fun S x => match rd S x with
  | some a => (f a).map W.d
  | _ => none
@[simp] theorem on1_d (f : PyData → Option PyData) (S : So) (a : PyData) : on1 f S (.d a) = (f a).map W.d := rfl
theorem on2_of {f : PyData → PyData → Option PyData} {S : So} {x y w : W} (h : on2 f S x y = some w) : ∃ a b c, rd S x = some a ∧ rd S y = some b ∧ f a b = some c ∧ w = .d c := by
  unfold on2 at h
  split at h
  · rename_i a b h1 h2
    obtain ⟨c, h3, h4⟩ := Option.map_eq_some_iff.mp h
    exact ⟨a, b, c, h1, h2, h3, h4.symm⟩
  · cases h
theorem on1_of {f : PyData → Option PyData} {S : So} {x w : W} (h : on1 f S x = some w) : ∃ a c, rd S x = some a ∧ f a = some c ∧ w = .d c := by
  unfold on1 at h
  split at h
  · rename_i a h1
    obtain ⟨c, h3, h4⟩ := Option.map_eq_some_iff.mp h
    exact ⟨a, c, h1, h3, h4.symm⟩
  · cases h
section
variable {K : PySem.W.Frag} {mg : Str → Option Value} {H : Hp} {φ : Fi} {S : So}
theorem int_of {x : W} {v : V} {i : Int} (h : RW K H φ mg x v) (e : rd S x = some (.int i)) : v = .int i := by
  rw [rd_eq e (by simp)] at h; exact h
theorem bl_of {x : W} {v : V} {i : Bool} (h : RW K H φ mg x v) (e : rd S x = some (.bool i)) : v = .bl i := by
  rw [rd_eq e (by simp)] at h; exact h
theorem str_of {x : W} {v : V} {i : Str} (h : RW K H φ mg x v) (e : rd S x = some (.str i)) : v = .str i := by
  rw [rd_eq e (by simp)] at h; exact h
end
/-! ### whole numbers -/
def i2 (f : Int → Int → Option PyData) : PyData → PyData → Option PyData
  | .int a, .int b => f a b
  | _, _ => none
@[simp] theorem i2_ii (f : Int → Int → Option PyData) (a b : Int) : i2 f (.int a) (.int b) = f a b := rfl
theorem i2_of {f : Int → Int → Option PyData} {x y c : PyData} (h : i2 f x y = some c) : ∃ a b, x = .int a ∧ y = .int b ∧ f a b = some c := by
  unfold i2 at h
  split at h
  · exact ⟨_, _, rfl, rfl, h⟩
  · cases h
/-- an operator on two ints, from the layer's rule -/
theorem int_op {g : Value → Value → Sem Value} {C : Int → Int → Prop} {r : Int → Int → V} {f : Int → Int → Option PyData} (h : OpR X g (rI C r)) (k : ∀ a b c, f a b = some c → C a b ∧ ∀ H φ, RD X.K H φ c (r a b)) : OpR X g (rO X.K X.mg (on2 (i2 f))) :=
  opw h fun v1 v2 H Q ⟨φ, S, x, y, w, hs, hx, hy, hg, hq⟩ => by
    obtain ⟨a, b, c, h1, h2, h3, rfl⟩ := on2_of hg
    obtain ⟨i, j, rfl, rfl, h4⟩ := i2_of h3
    obtain ⟨q1, q2⟩ := k i j c h4
    exact ⟨i, j, int_of hx h1, int_of hy h2, q1, hq φ H _ .refl hs (q2 H φ)⟩
theorem int_op0 {g : Value → Value → Sem Value} {r : Int → Int → V} {f : Int → Int → Option PyData} (h : OpR X g (rI0 r)) (k : ∀ a b c, f a b = some c → ∀ H φ, RD X.K H φ c (r a b)) : OpR X g (rO X.K X.mg (on2 (i2 f))) :=
  opw h fun v1 v2 H Q ⟨φ, S, x, y, w, hs, hx, hy, hg, hq⟩ => by
    obtain ⟨a, b, c, h1, h2, h3, rfl⟩ := on2_of hg
    obtain ⟨i, j, rfl, rfl, h4⟩ := i2_of h3
    exact ⟨i, j, int_of hx h1, int_of hy h2, hq φ H _ .refl hs (k i j c h4 H φ)⟩
def mulI (a b : Int) : Option PyData := if (-18446744073709551616 < a ∧ a < 18446744073709551616) ∨ (-18446744073709551616 < b ∧ b < 18446744073709551616) then some (.int (a * b)) else none
theorem o_mul : OpR X (binaryOp .Mult) (rO X.K X.mg (on2 (i2 mulI))) := int_op op_mul fun a b c h => by
  unfold mulI at h
  split at h
  · rename_i hc
    cases h
    exact ⟨hc.imp (fun q => by constructor <;> omega) (fun q => by constructor <;> omega), fun _ _ => rfl⟩
  · cases h
def modI (a b : Int) : Option PyData := if 0 < b then some (.int (a % b)) else none
theorem o_mod : OpR X (binaryOp .Mod) (rO X.K X.mg (on2 (i2 modI))) := int_op op_mod fun a b c h => by
  unfold modI at h
  split at h
  · rename_i hc; cases h; exact ⟨hc, fun _ _ => rfl⟩
  · cases h
def divI (a b : Int) : Option PyData := if 0 < b ∧ b < 1073741824 then some (.int (a / b)) else none
theorem o_div : OpR X (binaryOp .FloorDiv) (rO X.K X.mg (on2 (i2 divI))) := int_op op_fdiv fun a b c h => by
  unfold divI at h
  split at h
  · rename_i hc; cases h; exact ⟨hc, fun _ _ => rfl⟩
  · cases h
def powI (a b : Int) : Option PyData := if 0 ≤ b ∧ b ≤ 1000 ∧ 0 ≤ a ∧ a < 1000000 then some (.int (a ^ b.toNat)) else none
theorem o_pow : OpR X (binaryOp .Pow) (rO X.K X.mg (on2 (i2 powI))) := int_op op_pow fun a b c h => by
  unfold powI at h
  split at h
  · rename_i hc; cases h; exact ⟨⟨hc.1, by omega, by omega⟩, fun _ _ => rfl⟩
  · cases h
def negI : PyData → Option PyData
  | .int a => some (.int (-a))
  | _ => none
theorem o_neg : UnR X (unaryOp .USub) (rU1 X.K X.mg (on1 negI)) := fun pins s σ H x v Q I rx ⟨φ, S, w0, w, hs, hx, hg, hq⟩ => by
  obtain ⟨a, c, h1, h2, rfl⟩ := on1_of hg
  cases a with
  | int i => cases h2; exact un_neg pins s σ H x v Q I rx ⟨i, int_of hx h1, hq φ H _ .refl hs rfl⟩
  | _ => cases h2
/-! ### order -/
mutual
def ltD : PyData → PyData → Bool
  | .bool a, .bool b => !a && b
  | .int a, .int b => decide (a < b)
  | .str a, .str b => decide (a.cps.toList < b.cps.toList)
  | .list xs, .list ys => ltDs xs ys
  | .tuple xs, .tuple ys => ltDs xs ys
  | _, _ => false
def ltDs : List PyData → List PyData → Bool
  | [], [] => false
  | [], _ :: _ => true
  | _ :: _, [] => false
  | x :: xs, y :: ys => if PyData.eqv x y = true then ltDs xs ys else ltD x y
end
mutual
theorem dataLt_eq : ∀ (x y : PyData), PySem.W.alike x y = true → PySem.W.dataLt x y = ltD x y
  | .none, .none, _ => by simp [PySem.W.dataLt, PySem.W.keyToks, ltD, PyProof.Rows.lexLt]
  | .bool a, .bool b, _ => by rw [PySem.W.dataLt_bool]; cases a <;> cases b <;> simp [ltD, b2i]
  | .int a, .int b, _ => by rw [PySem.W.dataLt_int]; rfl
  | .str a, .str b, _ => by rw [PySem.W.dataLt_str]; rfl
  | .list xs, .list ys, h => dataLts_eq xs ys (by simpa [PySem.W.alike] using h)
  | .tuple xs, .tuple ys, h => dataLts_eq xs ys (by simpa [PySem.W.alike] using h)
  | .none, .bool _, h | .none, .int _, h | .none, .str _, h | .none, .list _, h | .none, .tuple _, h | .none, .dict _, h => by simp [PySem.W.alike] at h
  | .bool _, .none, h | .bool _, .int _, h | .bool _, .str _, h | .bool _, .list _, h | .bool _, .tuple _, h | .bool _, .dict _, h => by simp [PySem.W.alike] at h
  | .int _, .none, h | .int _, .bool _, h | .int _, .str _, h | .int _, .list _, h | .int _, .tuple _, h | .int _, .dict _, h => by simp [PySem.W.alike] at h
  | .str _, .none, h | .str _, .bool _, h | .str _, .int _, h | .str _, .list _, h | .str _, .tuple _, h | .str _, .dict _, h => by simp [PySem.W.alike] at h
  | .list _, .none, h | .list _, .bool _, h | .list _, .int _, h | .list _, .str _, h | .list _, .tuple _, h | .list _, .dict _, h => by simp [PySem.W.alike] at h
  | .tuple _, .none, h | .tuple _, .bool _, h | .tuple _, .int _, h | .tuple _, .str _, h | .tuple _, .list _, h | .tuple _, .dict _, h => by simp [PySem.W.alike] at h
  | .dict _, .none, h | .dict _, .bool _, h | .dict _, .int _, h | .dict _, .str _, h | .dict _, .list _, h | .dict _, .tuple _, h | .dict _, .dict _, h => by simp [PySem.W.alike] at h
theorem dataLts_eq : ∀ (xs ys : List PyData), PySem.W.alikeAll xs ys = true → PySem.W.rowLt xs ys = ltDs xs ys
  | [], [], _ => by simp [PySem.W.rowLt, PySem.W.keyToksAll, ltDs, PyProof.Rows.lexLt, PyProof.Rows.itemLt]
  | [], _ :: _, _ => by simp [PySem.W.rowLt, PySem.W.keyToksAll, ltDs, PyProof.Rows.lexLt, PyProof.Rows.itemLt]
  | _ :: _, [], _ => by simp [PySem.W.rowLt, PySem.W.keyToksAll, ltDs, PyProof.Rows.lexLt, PyProof.Rows.itemLt]
  | x :: xs, y :: ys, h => by
    obtain ⟨h1, h2⟩ := PySem.W.alike_all_cons h
    unfold PySem.W.rowLt
    rw [PySem.W.dataLt_cons h1]
    unfold ltDs
    by_cases e : PyData.eqv x y = true
    · rw [if_pos e, if_pos e]; exact dataLts_eq xs ys h2
    · rw [if_neg e, if_neg e]; exact dataLt_eq x y h1
end
/-- x < y of alike data -/
def ltP (x y : PyData) : Option PyData := if PySem.W.alike x y = true ∧ eqD x .none = false ∧ decide (x.depth ≤ 60) = true then some (.bool (ltD x y)) else none
theorem o_lt (hu : X.A.units + 64 < cLine) : OpR X (compareOp .Lt) (rO X.K X.mg (on2 ltP)) := by
  intro pins s σ H x y v u Q I rx ry h
  obtain ⟨φ, S, w1, w2, w, hs, hx, hy, hg, hq⟩ := h
  obtain ⟨a, b, c, h1, h2, h3, rfl⟩ := on2_of hg
  unfold ltP at h3
  split at h3
  · rename_i hc
    obtain ⟨ha, hn, hd⟩ := hc
    cases h3
    obtain ⟨as, r1⟩ := Dp.reads I a x v (dp_of hs hx h1) rx
    obtain ⟨bs, r2⟩ := Dp.reads I b y u (dp_of hs hy h2) ry
    have hd := of_decide_eq_true hd
    refine PySem.W.rcLt_alike a b X.A s v u as bs r1 r2 ha (fun e => by subst e; simp [eqD] at hn) ?_ X.prog X.w X.xe _ ?_
    · have : min a.depth b.depth ≤ a.depth := Nat.min_le_left _ _
      omega
    · rw [dataLt_eq a b ha]
      exact ⟨.bl _, H, I, rfl, hq φ H _ .refl hs rfl⟩
  · cases h3
def cmpI (f : Int → Int → Bool) (a b : Int) : Option PyData := some (.bool (f a b))
def leI (a b : Int) : Option PyData := some (.bool (decide (a ≤ b)))
def gtI (a b : Int) : Option PyData := some (.bool (decide (b < a)))
def geI (a b : Int) : Option PyData := some (.bool (decide (b ≤ a)))
theorem o_leI : OpR X (compareOp .LtE) (rO X.K X.mg (on2 (i2 leI))) := int_op0 op_le fun a b c h => by cases h; exact fun _ _ => rfl
theorem o_gtI : OpR X (compareOp .Gt) (rO X.K X.mg (on2 (i2 gtI))) := int_op0 op_gt fun a b c h => by cases h; exact fun _ _ => rfl
theorem o_geI : OpR X (compareOp .GtE) (rO X.K X.mg (on2 (i2 geI))) := int_op0 op_ge fun a b c h => by cases h; exact fun _ _ => rfl
/-- x <= y of texts -/
def s2 (f : Str → Str → Option PyData) : PyData → PyData → Option PyData
  | .str a, .str b => f a b
  | _, _ => none
@[simp] theorem s2_ss (f : Str → Str → Option PyData) (a b : Str) : s2 f (.str a) (.str b) = f a b := rfl
theorem s2_of {f : Str → Str → Option PyData} {x y c : PyData} (h : s2 f x y = some c) : ∃ a b, x = .str a ∧ y = .str b ∧ f a b = some c := by
  unfold s2 at h
  split at h
  · exact ⟨_, _, rfl, rfl, h⟩
  · cases h
def leSs (a b : Str) : Option PyData := some (.bool (!decide (b.cps.toList < a.cps.toList)))
def leS : PyData → PyData → Option PyData := s2 leSs
theorem o_leS : OpR X (compareOp .LtE) (rO X.K X.mg (on2 leS)) :=
  opw op_le_str fun v1 v2 H Q ⟨φ, S, x, y, w, hs, hx, hy, hg, hq⟩ => by
    obtain ⟨a, b, c, h1, h2, h3, rfl⟩ := on2_of hg
    obtain ⟨i, j, rfl, rfl, h4⟩ := s2_of h3
    cases h4
    exact ⟨i, j, str_of hx h1, str_of hy h2, hq φ H _ .refl hs rfl⟩
/-- c in t, of texts -/
def inS (a b : Str) : Bool := !(Builtin.Str.occurrences b a 0 b.length 1).isEmpty
/-! ### == and in, of data -/
def okD (x : PyData) : Bool := SeqAt.shaped x
def eqP (x y : PyData) : Option PyData := if (okD x && okD y) = true then some (.bool (PyData.eqv x y)) else none
def neP (x y : PyData) : Option PyData := if (okD x && okD y) = true then some (.bool (!PyData.eqv x y)) else none
theorem o_eq (hu : X.A.units + 64 < cLine) : OpR X (compareOp .Eq) (rO X.K X.mg (on2 eqP)) :=
  opw (op_eqD hu) fun v1 v2 H Q ⟨φ, S, x, y, w, hs, hx, hy, hg, hq⟩ => by
    obtain ⟨a, b, c, h1, h2, h3, rfl⟩ := on2_of hg
    unfold eqP at h3
    split at h3
    · rename_i hc
      rw [Bool.and_eq_true] at hc
      cases h3
      exact ⟨a, b, dp_of hs hx h1, dp_of hs hy h2, hc.1, hc.2, hq φ H _ .refl hs rfl⟩
    · cases h3
theorem o_ne (hu : X.A.units + 64 < cLine) : OpR X (compareOp .NotEq) (rO X.K X.mg (on2 neP)) :=
  opw (op_neD hu) fun v1 v2 H Q ⟨φ, S, x, y, w, hs, hx, hy, hg, hq⟩ => by
    obtain ⟨a, b, c, h1, h2, h3, rfl⟩ := on2_of hg
    unfold neP at h3
    split at h3
    · rename_i hc
      rw [Bool.and_eq_true] at hc
      cases h3
      exact ⟨a, b, dp_of hs hx h1, dp_of hs hy h2, hc.1, hc.2, hq φ H _ .refl hs rfl⟩
    · cases h3
def memD (x : PyData) (ys : List PyData) : Bool := ys.any fun z => PyData.eqv z x
/-- x in y: y a list, a tuple, a text -/
def inP (neg : Bool) : PyData → PyData → Option PyData
  | x, .list ys => if (okD x && okD (.list ys)) = true then some (.bool (memD x ys ^^ neg)) else none
  | x, .tuple ys => if (okD x && okD (.tuple ys)) = true then some (.bool (memD x ys ^^ neg)) else none
  | .str a, .str b => some (.bool (inS a b ^^ neg))
  | _, _ => none
theorem o_in (hu : X.A.units + 65 < cLine) : OpR X (compareOp .In) (rO X.K X.mg (on2 (inP false))) := by
  intro pins s σ H x y v u Q I rx ry h
  obtain ⟨φ, S, w1, w2, w, hs, hx, hy, hg, hq⟩ := h
  obtain ⟨a, b, c, h1, h2, h3, rfl⟩ := on2_of hg
  unfold inP at h3
  split at h3
  · rename_i ys
    split at h3
    · rename_i hc
      rw [Bool.and_eq_true] at hc
      cases h3
      refine op_inD hu pins s σ H x y v u Q I rx ry ⟨_, _, dp_of hs hx h1, dp_of hs hy h2, hc.1, hc.2, ?_⟩
      have := hq φ H (.bl (memD a ys ^^ false)) .refl hs rfl
      rw [Bool.xor_false] at this
      exact this
    · cases h3
  · rename_i ys
    split at h3
    · rename_i hc
      rw [Bool.and_eq_true] at hc
      cases h3
      obtain ⟨as, r1⟩ := Dp.reads I a x v (dp_of hs hx h1) rx
      obtain ⟨bs, r2⟩ := Dp.reads I (.tuple ys) y u (dp_of hs hy h2) ry
      refine SeqAt.in_tuple_reads r2 r1 (SeqAt.canLay_of_shaped hc.2) (SeqAt.canLay_of_shaped hc.1) (room_in_shaped hc.1 hu) ⟨.bl _, H, I, rfl, ?_⟩
      have := hq φ H (.bl (memD a ys ^^ false)) .refl hs rfl
      rw [Bool.xor_false] at this
      exact this
    · cases h3
  · rename_i i j
    cases h3
    refine op_in_str pins s σ H x y v u Q I rx ry ⟨i, j, str_of hx h1, str_of hy h2, ?_⟩
    have := hq φ H (.bl (inS i j ^^ false)) .refl hs rfl
    rw [Bool.xor_false] at this
    exact this
  · cases h3
theorem o_notin (hu : X.A.units + 65 < cLine) : OpR X (compareOp .NotIn) (rO X.K X.mg (on2 (inP true))) := by
  intro pins s σ H x y v u Q I rx ry h
  obtain ⟨φ, S, w1, w2, w, hs, hx, hy, hg, hq⟩ := h
  obtain ⟨a, b, c, h1, h2, h3, rfl⟩ := on2_of hg
  unfold inP at h3
  split at h3
  · rename_i ys
    split at h3
    · rename_i hc
      rw [Bool.and_eq_true] at hc
      cases h3
      refine op_notInD hu pins s σ H x y v u Q I rx ry ⟨_, _, dp_of hs hx h1, dp_of hs hy h2, hc.1, hc.2, ?_⟩
      have := hq φ H (.bl (memD a ys ^^ true)) .refl hs rfl
      rw [Bool.xor_true] at this
      exact this
    · cases h3
  · rename_i ys
    split at h3
    · rename_i hc
      rw [Bool.and_eq_true] at hc
      cases h3
      obtain ⟨as, r1⟩ := Dp.reads I a x v (dp_of hs hx h1) rx
      obtain ⟨bs, r2⟩ := Dp.reads I (.tuple ys) y u (dp_of hs hy h2) ry
      refine SeqAt.notIn_tuple_reads r2 r1 (SeqAt.canLay_of_shaped hc.2) (SeqAt.canLay_of_shaped hc.1) (room_in_shaped hc.1 hu) ⟨.bl _, H, I, rfl, ?_⟩
      have := hq φ H (.bl (memD a ys ^^ true)) .refl hs rfl
      rw [Bool.xor_true] at this
      exact this
    · cases h3
  · rename_i i j
    cases h3
    refine op_notIn_str pins s σ H x y v u Q I rx ry ⟨i, j, str_of hx h1, str_of hy h2, ?_⟩
    have := hq φ H (.bl (inS i j ^^ true)) .refl hs rfl
    rw [Bool.xor_true] at this
    exact this
  · cases h3
/-! ### is -/
def isN (neg : Bool) : So → W → W → Option W := fun _ x y => match y with
  | .d .none => match x with
    | .d .none => some (.d (.bool (true ^^ neg)))
    | _ => some (.d (.bool (false ^^ neg)))
  | _ => none
theorem non_iff {K : PySem.W.Frag} {mg : Str → Option Value} {H : Hp} {φ : Fi} : ∀ {x : W} {v : V}, RW K H φ mg x v → (v = .non ↔ x = .d .none)
  | .d .none, _, h => by cases h; simp
  | .d (.bool _), _, h => by cases h; simp
  | .d (.int _), _, h => by cases h; simp
  | .d (.str _), _, h => by cases h; simp
  | .d (.list _), _, ⟨a, vs, e, _⟩ => by subst e; simp
  | .d (.tuple _), _, ⟨a, vs, e, _⟩ => by subst e; simp
  | .d (.dict _), _, h => h.elim
  | .r _, _, ⟨a, _, e⟩ => by subst e; simp
  | .g _, _, ⟨a, _, e⟩ => by subst e; simp
  | .s _, _, ⟨a, vs, e, _⟩ => by subst e; simp
theorem isN_val {x y w : W} {S : So} {neg : Bool} (h : isN neg S x y = some w) : y = .d .none ∧ ((x = .d .none ∧ w = .d (.bool (true ^^ neg))) ∨ (x ≠ .d .none ∧ w = .d (.bool (false ^^ neg)))) := by
  unfold isN at h
  split at h
  · split at h
    · cases h; exact ⟨rfl, .inl ⟨rfl, rfl⟩⟩
    · rename_i hx; cases h; exact ⟨rfl, .inr ⟨fun e => hx e, rfl⟩⟩
  · cases h
theorem o_is : OpR X (compareOp .Is) (rO X.K X.mg (isN false)) :=
  opw op_isN fun v1 v2 H Q ⟨φ, S, x, y, w, hs, hx, hy, hg, hq⟩ => by
    obtain ⟨rfl, h⟩ := isN_val hg
    refine ⟨hy, ?_⟩
    rcases h with ⟨h, rfl⟩ | ⟨h, rfl⟩
    · rw [decide_eq_true ((non_iff hx).mpr h)]; exact hq φ H _ .refl hs rfl
    · rw [decide_eq_false fun e => h ((non_iff hx).mp e)]; exact hq φ H _ .refl hs rfl
theorem o_isnot : OpR X (compareOp .IsNot) (rO X.K X.mg (isN true)) :=
  opw op_notN fun v1 v2 H Q ⟨φ, S, x, y, w, hs, hx, hy, hg, hq⟩ => by
    obtain ⟨rfl, h⟩ := isN_val hg
    refine ⟨hy, ?_⟩
    rcases h with ⟨h, rfl⟩ | ⟨h, rfl⟩
    · rw [decide_eq_true ((non_iff hx).mpr h)]; exact hq φ H _ .refl hs rfl
    · rw [decide_eq_false fun e => h ((non_iff hx).mp e)]; exact hq φ H _ .refl hs rfl
/-! ### + and - -/
theorem cat_lists : OpR X (binaryOp .Add) (fun x y H Q => ∃ l b xs zs, x = .ref l ∧ y = .ref b ∧ Rd H l (.lst xs) ∧ Rd H b (.lst zs) ∧ xs.length + zs.length ≤ sizeLine ∧ ∀ p, H p = none → Q (.ref p) (upd H p (.lst (xs ++ zs)))) := by
  intro pins s σ H x y v u Q I rx ry h
  obtain ⟨l, b, xs, zs, rfl, rfl, hl, hb, hz, q⟩ := h
  cases rx
  cases ry
  obtain ⟨_, its, n, r, e⟩ := hl.ok I.hok
  obtain ⟨_, its2, n2, r2, e2⟩ := hb.ok I.hok
  have z1 := r.length
  have z2 := r2.length
  refine PySem.P.add_list e e2 ?_ (by rw [List.size_toArray, List.size_toArray]; omega)
  rw [show its.toArray ++ its2.toArray = (its ++ its2).toArray by simp]
  exact ⟨.ref _, _, I.lnew (t' := s.toks) (r.append r2) (by rw [List.length_append]; omega), rfl, q _ I.fresh⟩
def addP : PyData → PyData → Option PyData
  | .int a, .int b => some (.int (a + b))
  | .bool a, .int b => some (.int ((if a = true then 1 else 0) + b))
  | .str a, .str b => if small (a.length + b.length) = true then some (.str (a ++ b)) else none
  | .list a, .list b => if small (a.length + b.length) = true then some (.list (a ++ b)) else none
  | .tuple a, .tuple b => if small (a.length + b.length) = true then some (.tuple (a ++ b)) else none
  | _, _ => none
theorem rd_fl {K : PySem.W.Frag} {mg : Str → Option Value} {H : Hp} {φ : Fi} {S : So} {w : W} {v : V} {ds : List PyData} (hs : SR K H φ S) (h : RW K H φ mg w v) (e : rd S w = some (.list ds)) (hns : ∀ xs, w ≠ .s xs) : ∃ a vs, v = .ref a ∧ Rd H a (.lst vs) ∧ RDs K H φ ds vs := by
  cases w with
  | d x => cases e; obtain ⟨a, vs, e1, h1, h2⟩ := h; exact ⟨a, vs, e1, h1.1, h2⟩
  | r n =>
    obtain ⟨a, h1, e1⟩ := h
    obtain ⟨o, h2, h3⟩ := hs.get h1
    unfold rd at e
    simp only [h2] at e
    cases o with
    | lst xs => cases e; obtain ⟨vs, q1, q2⟩ := h3; exact ⟨a, vs, e1, .inl q1, q2⟩
    | dk _ => cases e
    | dt _ => cases e
    | lkK _ => cases e
    | lkT _ => cases e
  | g x => cases e
  | s xs => exact absurd rfl (hns xs)
/-- + : not of the script itself -/
def notS : W → Bool
  | .s _ => false
  | _ => true
def addW : So → W → W → Option W := fun S x y => if (notS x && notS y) = true then on2 addP S x y else none
@[simp] theorem addW_d (S : So) (a b : PyData) : addW S (.d a) (.d b) = (addP a b).map W.d := rfl
theorem o_add : OpR X (binaryOp .Add) (rO X.K X.mg addW) := by
  intro pins s σ H x y v u Q I rx ry h
  obtain ⟨φ, S, w1, w2, w, hs, hx, hy, hg, hq⟩ := h
  unfold addW at hg
  split at hg
  · rename_i hns
    rw [Bool.and_eq_true] at hns
    have n1 : ∀ xs, w1 ≠ .s xs := fun xs e => by subst e; exact absurd hns.1 (by simp [notS])
    have n2 : ∀ xs, w2 ≠ .s xs := fun xs e => by subst e; exact absurd hns.2 (by simp [notS])
    obtain ⟨a, b, c, h1, h2, h3, rfl⟩ := on2_of hg
    unfold addP at h3
    split at h3
    · cases h3
      exact op_add pins s σ H x y v u Q I rx ry ⟨_, _, int_of hx h1, int_of hy h2, hq φ H _ .refl hs rfl⟩
    · cases h3
      have e1 := bl_of hx h1
      have e2 := int_of hy h2
      subst e1; subst e2
      cases rx
      obtain ⟨t, rfl⟩ := ry
      exact PySem.IntBool.add_bool_int ⟨.int _, H, I.tok _, ⟨_, rfl⟩, hq φ H _ .refl hs rfl⟩
    · split at h3
      · rename_i hz
        cases h3
        exact op_add_str pins s σ H x y v u Q I rx ry ⟨_, _, str_of hx h1, str_of hy h2, small_le hz, hq φ H _ .refl hs rfl⟩
      · cases h3
    · split at h3
      · rename_i hz
        cases h3
        obtain ⟨l1, vs1, e1, f1, r1⟩ := rd_fl hs hx h1 n1
        obtain ⟨l2, vs2, e2, f2, r2⟩ := rd_fl hs hy h2 n2
        refine cat_lists pins s σ H x y v u Q I rx ry ⟨l1, l2, vs1, vs2, e1, e2, f1, f2, by rw [r1.length, r2.length]; exact small_le hz, fun p hp => ?_⟩
        have e := Ext.new (o := .lst (vs1 ++ vs2)) hp hs
        exact hq φ _ _ e (hs.new hp) ⟨p, _, rfl, newFL hs hp, RDs.mono e _ _ (RDs.append r1 r2)⟩
      · cases h3
    · split at h3
      · rename_i hz
        cases h3
        obtain ⟨l1, vs1, e1, f1, r1⟩ := tup_of hx h1
        obtain ⟨l2, vs2, e2, f2, r2⟩ := tup_of hy h2
        refine op_catA pins s σ H x y v u Q I rx ry ⟨l1, l2, vs1, vs2, e1, e2, f1.sq, f2.sq, by rw [r1.length, r2.length]; exact small_le hz, fun hz1 => ?_, fun hz1 hz2 => ?_, fun _ _ p hp => ?_⟩
        · have := r1.length
          rw [hz1] at this
          rw [List.length_eq_zero_iff.mp this.symm, List.nil_append] at hq
          exact hq φ H _ .refl hs ⟨l2, vs2, rfl, f2, r2⟩
        · have := r2.length
          rw [hz2] at this
          rw [List.length_eq_zero_iff.mp this.symm, List.append_nil] at hq
          exact hq φ H _ .refl hs ⟨l1, vs1, rfl, f1, r1⟩
        · have e := Ext.new (o := .tup (vs1 ++ vs2)) hp hs
          exact hq φ _ _ e (hs.new hp) ⟨p, _, rfl, upd_same, RDs.mono e _ _ (RDs.append r1 r2)⟩
      · cases h3
    · cases h3
  · cases hg
def subP : PyData → PyData → Option PyData
  | .int a, .int b => some (.int (a - b))
  | .bool a, .int b => some (.int ((if a = true then 1 else 0) - b))
  | _, _ => none
theorem o_sub : OpR X (binaryOp .Sub) (rO X.K X.mg (on2 subP)) := by
  intro pins s σ H x y v u Q I rx ry h
  obtain ⟨φ, S, w1, w2, w, hs, hx, hy, hg, hq⟩ := h
  obtain ⟨a, b, c, h1, h2, h3, rfl⟩ := on2_of hg
  unfold subP at h3
  split at h3
  · cases h3
    exact op_sub pins s σ H x y v u Q I rx ry ⟨_, _, int_of hx h1, int_of hy h2, hq φ H _ .refl hs rfl⟩
  · cases h3
    have e1 := bl_of hx h1
    have e2 := int_of hy h2
    subst e1; subst e2
    cases rx
    obtain ⟨t, rfl⟩ := ry
    exact PySem.IntBool.sub_bool_int ⟨.int _, H, I.tok _, ⟨_, rfl⟩, hq φ H _ .refl hs rfl⟩
  · cases h3
/-! ### chains of two comparisons -/
def dChain (g g' : So → W → W → Option W) (a b c : DE) : DE := fun σ S => bnd (a σ S) fun x S1 => bnd (b σ S1) fun y S2 => match (g S2 x y).bind bOf with
  | none => none
  | some false => some (.ok (.d (.bool false)) S2)
  | some true => bnd (c σ S2) fun z S3 => giv (g' S3 y z) S3
variable {a b c : Expr} {da db dc : DE}
theorem chain_rd {g g' : So → W → W → Option W} (σV : L2.St) (H : Hp) (Q : VK) (h : tE X.K X.mg E (dChain g g' da db dc) σV H Q) :
    tChain (rO X.K X.mg g) (rO X.K X.mg g') (tE X.K X.mg E da) (tE X.K X.mg E db) (tE X.K X.mg E dc) σV H Q := by
  obtain ⟨φ, σ, S, r', hs, he, hd, hq⟩ := h
  unfold dChain at hd
  match ha : da σ S, hd with
  | none, hd => cases hd
  | some (.xc x S1), hd => cases hd; exact ⟨φ, σ, S, .xc x S1, hs, he, ha, hq⟩
  | some (.ok x S1), hd =>
    refine ⟨φ, σ, S, .ok x S1, hs, he, ha, fun φ1 H1 v1 e1 s1 x1 => ?_⟩
    rw [bnd_ok] at hd
    match hb : db σ S1, hd with
    | none, hd => cases hd
    | some (.xc y S2), hd => cases hd; exact ⟨φ1, σ, S1, .xc y S2, s1, he.mono e1, hb, XR.keep e1 hq⟩
    | some (.ok y S2), hd =>
      refine ⟨φ1, σ, S1, .ok y S2, s1, he.mono e1, hb, fun φ2 H2 v2 e2 s2 y2 => ?_⟩
      rw [bnd_ok] at hd
      match hgb : (g S2 x y).bind bOf, hd with
      | none, hd => cases hd
      | some k, hd =>
        obtain ⟨w, hw, hk⟩ := Option.bind_eq_some_iff.mp hgb
        rw [bOf_eq hk] at hw
        refine ⟨φ2, S2, x, y, _, s2, x1.mono e2, y2, hw, fun φ3 H3 v3 e3 s3 x3 => ⟨k, x3, ?_⟩⟩
        have e13 := (e1.trans e2).trans e3
        cases k with
        | false =>
          refine iteF ?_
          cases hd
          exact hq φ3 H3 _ e13 s3 rfl
        | true =>
          refine iteT ?_
          dsimp only at hd
          match hc : dc σ S2, hd with
          | none, hd => cases hd
          | some (.xc z S4), hd => cases hd; exact ⟨φ3, σ, S2, .xc z S4, s3, he.mono e13, hc, XR.keep e13 hq⟩
          | some (.ok z S4), hd =>
            refine ⟨φ3, σ, S2, .ok z S4, s3, he.mono e13, hc, fun φ4 H4 v4 e4 s4 z4 => ?_⟩
            rw [bnd_ok] at hd
            match hg' : g' S4 y z, hd with
            | none, hd => cases hd
            | some w', hd =>
              cases hd
              exact ⟨φ4, S4, y, z, w', s4, (y2.mono e3).mono e4, z4, hg', fun φ' H' v e' => hq φ' H' v (e13.trans (e4.trans e'))⟩
theorem e_chain {op op' : CmpOp} {g g' : So → W → W → Option W} (ho : OpR X (compareOp op) (rO X.K X.mg g)) (ho' : OpR X (compareOp op') (rO X.K X.mg g')) (ha : SE X E a da) (hb : SE X E b db) (hc : SE X E c dc)
    (hm : lastMarks [op, op'] [b, c] = false := by with_unfolding_all rfl) : SE X E (.Compare a [op, op'] [b, c] pos) (dChain g g' da db dc) := PEw (pe_chain ho ho' ha hb hc hm) chain_rd
theorem t_chain {op op' : CmpOp} {g g' : So → W → W → Option W} (ho : OpR X (compareOp op) (rO X.K X.mg g)) (ho' : OpR X (compareOp op') (rO X.K X.mg g')) (ha : SE X E a da) (hb : SE X E b db) (hc : SE X E c dc)
    (hm : lastMarks [op, op'] [b, c] = false := by with_unfolding_all rfl) : ST X E (.Compare a [op, op'] [b, c] pos) (dB (dChain g g' da db dc)) :=
  PTw (pt_chain ho ho' ha hb hc hm) fun σV H Q h => chain_rd σV H _ (b_rd σV H Q h)
end
end CL
end

section
/-! part CLOpB -/
set_option Elab.async false
set_option linter.all false
set_option maxRecDepth 100000
/-! CLOpB: items, slices, len, tuple, list, all, isinstance, repr, str, texts, zip, methods of lists and texts. -/
namespace CL
open PySem PySem.Spec PyProof.Rows L2

section
variable {X : Cx} {E : EK} {pos p : Pos} {a b : Expr} {da db : DE}
/-! ### x[i] -/
def atP : PyData → PyData → Option PyData
  | .list xs, .int i => L2.atI xs i
  | .tuple xs, .int i => L2.atI xs i
  | .str z, .int i => if small z.length = true then (L2.atI z.cps.toList i).map fun c => .str ⟨#[c]⟩ else none
  | _, _ => none
theorem RDs.at_ {K : PySem.W.Frag} {H : Hp} {φ : Fi} {ds : List PyData} {vs : List V} {i : Int} {d : PyData} (h : RDs K H φ ds vs) (e : L2.atI ds i = some d) : ∃ v, L2.atI vs i = some v ∧ RD K H φ d v := by
  unfold L2.atI at e ⊢
  obtain ⟨j, h1, h2⟩ := Option.bind_eq_some_iff.mp e
  obtain ⟨v, h3, h4⟩ := h.get h2
  exact ⟨v, by rw [h.length, h1]; exact h3, h4⟩
theorem ix_rd (v1 v2 : V) (H : Hp) (Q : VK) (h : rO X.K X.mg (on2 atP) v1 v2 H Q) : rIx X.K v1 v2 H Q := by
  obtain ⟨φ, S, x, y, w, hs, hx, hy, hg, hq⟩ := h
  obtain ⟨c, d, e, h1, h2, h3, rfl⟩ := on2_of hg
  unfold atP at h3
  split at h3
  · rename_i xs i
    obtain ⟨l, vs, e1, f1, r1⟩ := seqL_of hs hx h1
    obtain ⟨v, q1, q2⟩ := r1.at_ h3
    exact .inl ⟨l, vs, i, v, e1, int_of hy h2, f1, q1, hq φ H v .refl hs q2⟩
  · rename_i xs i
    obtain ⟨l, vs, e1, f1, r1⟩ := seqT_of hx h1
    obtain ⟨v, q1, q2⟩ := r1.at_ h3
    exact .inr (.inl ⟨l, vs, i, v, e1, int_of hy h2, f1, q1, hq φ H v .refl hs q2⟩)
  · rename_i z i
    split at h3
    · rename_i hz
      obtain ⟨c, q1, q2⟩ := Option.map_eq_some_iff.mp h3
      subst q2
      exact .inr (.inr ⟨z, i, c, str_of hx h1, int_of hy h2, small_le hz, q1, hq φ H _ .refl hs rfl⟩)
    · cases h3
  · cases h3
def dIx (a b : DE) : DE := dBin (on2 atP) a b
theorem e_ix (ha : SE X E a da) (hb : SE X E b db) (hp : PlainIx b := by intro _ _; rfl) : SE X E (.Subscript a b pos) (dIx da db) :=
  PEw (pe_ix ix_seq ha hb hp) fun σV H Q h => bin_rd ix_rd σV H Q h
/-! ### x[lo:hi] -/
abbrev DO := En → So → M (Option Int)
section
variable (K : PySem.W.Frag) (mg : Str → Option Value) (E : XK)
def oO (φ : Fi) (H : Hp) (Q : Option Int → Hp → Prop) : RE (Option Int) → Prop
  | .ok w S' => ∀ φ' H', Ext φ H φ' H' → SR K H' φ' S' → Q w H'
  | .xc x S' => ∀ φ' H', Ext φ H φ' H' → SR K H' φ' S' → XR K mg E x H' φ'
def tO (E : EK) (d : DO) : TO := fun σV H Q => ∃ φ σ S r, SR K H φ S ∧ ER K H φ mg σV σ ∧ d σ S = some r ∧ oO K mg (E σV) φ H Q r
end
abbrev SO (X : Cx) (E : EK) (e : Option Expr) (d : DO) : Prop := PO X e (tO X.K X.mg E d)
theorem POw {e : Option Expr} {t t' : TO} (h : PO X e t) (k : ∀ σ H Q, t' σ H Q → t σ H Q) : PO X e t' := ⟨fun pins s σ H Q I q => h.run pins s σ H Q I (k σ H Q q)⟩
def dNoP : DO := fun _ S => some (.ok none S)
def intW : W → Option Int
  | .d (.int i) => some i
  | _ => none
def dPt (d : DE) : DO := fun σ S => bnd (d σ S) fun w S1 => giv ((intW w).map some) S1
theorem p_no : SO X E none dNoP := POw po_none fun σV H Q ⟨φ, σ, S, r, hs, he, hd, hq⟩ => by cases hd; exact hq φ H .refl hs
theorem intW_of {w : W} {i : Int} (h : intW w = some i) : w = .d (.int i) := by
  unfold intW at h; split at h
  · cases h; rfl
  · cases h
theorem p_e (ha : SE X E a da) : SO X E (some a) (dPt da) := by
  refine POw (po_some ha) fun σV H Q q => ?_
  obtain ⟨φ, σ, S, r', hs, he, hd, hq⟩ := q
  unfold dPt at hd
  match ha : da σ S, hd with
  | none, hd => cases hd
  | some (.xc x S1), hd => cases hd; exact ⟨φ, σ, S, .xc x S1, hs, he, ha, hq⟩
  | some (.ok x S1), hd =>
    rw [bnd_ok] at hd
    match hi : intW x, hd with
    | none, hd => cases hd
    | some i, hd =>
      cases hd
      rw [intW_of hi] at ha
      exact ⟨φ, σ, S, .ok (.d (.int i)) S1, hs, he, ha, fun φ1 H1 v1 e1 s1 x1 => ⟨i, x1, hq φ1 H1 e1 s1⟩⟩
def cutG {α : Type} (xs : List α) (lo hi : Option Int) : List α := (xs.drop (HT.sIx xs.length 0 lo)).take (HT.sIx xs.length xs.length hi - HT.sIx xs.length 0 lo)
theorem RDs.cutG {K : PySem.W.Frag} {H : Hp} {φ : Fi} {ds : List PyData} {vs : List V} {lo hi : Option Int} (h : RDs K H φ ds vs) : RDs K H φ (cutG ds lo hi) (cutV vs lo hi) := by
  unfold CL.cutG L2.cutV
  rw [h.length]
  exact RDs.take _ (RDs.drop _ h)
/-- of a tuple, of a text -/
def cutP (lo hi : Option Int) : PyData → Option PyData
  | .tuple xs => some (.tuple (cutG xs lo hi))
  | .str z => if small z.length = true then some (.str (Txt.slice z lo hi)) else none
  | _ => none
def dSl (a : DE) (l h : DO) : DE := fun σ S => bnd (a σ S) fun w S1 => bnd (l σ S1) fun lo S2 => bnd (h σ S2) fun hi S3 => giv ((rd S3 w).bind fun x => (cutP lo hi x).map W.d) S3
theorem sIx_whole {n : Nat} {lo hi : Option Int} {α : Type} {xs : List α} (hn : xs.length = n) (h : HT.sIx n 0 lo = 0 ∧ HT.sIx n n hi = n) : CL.cutG xs lo hi = xs := by
  unfold CL.cutG
  rw [hn, h.1, h.2, ← hn]
  simp
theorem sl_rd {dl dh : DO} (σV : L2.St) (H : Hp) (Q : VK) (h : tE X.K X.mg E (dSl da dl dh) σV H Q) :
    tSl (fun x lo hi H Q => rSlA X.K x lo hi H Q ∨ C8.rSlX x lo hi H Q) (tE X.K X.mg E da) (tO X.K X.mg E dl) (tO X.K X.mg E dh) σV H Q := by
  obtain ⟨φ, σ, S, r', hs, he, hd, hq⟩ := h
  unfold dSl at hd
  match ha : da σ S, hd with
  | none, hd => cases hd
  | some (.xc x S1), hd => cases hd; exact ⟨φ, σ, S, .xc x S1, hs, he, ha, hq⟩
  | some (.ok x S1), hd =>
    refine ⟨φ, σ, S, .ok x S1, hs, he, ha, fun φ1 H1 v1 e1 s1 x1 => ?_⟩
    rw [bnd_ok] at hd
    match hb : dl σ S1, hd with
    | none, hd => cases hd
    | some (.xc y S2), hd => cases hd; exact ⟨φ1, σ, S1, .xc y S2, s1, he.mono e1, hb, XR.keep e1 hq⟩
    | some (.ok lo S2), hd =>
      refine ⟨φ1, σ, S1, .ok lo S2, s1, he.mono e1, hb, fun φ2 H2 e2 s2 => ?_⟩
      rw [bnd_ok] at hd
      have e12 := e1.trans e2
      match hc : dh σ S2, hd with
      | none, hd => cases hd
      | some (.xc y S3), hd => cases hd; exact ⟨φ2, σ, S2, .xc y S3, s2, he.mono e12, hc, XR.keep e12 hq⟩
      | some (.ok hi S3), hd =>
        refine ⟨φ2, σ, S2, .ok hi S3, s2, he.mono e12, hc, fun φ3 H3 e3 s3 => ?_⟩
        rw [bnd_ok] at hd
        have e13 := e12.trans e3
        have x3 := (x1.mono e2).mono e3
        match hg : (rd S3 x).bind fun x => (cutP lo hi x).map W.d, hd with
        | none, hd => cases hd
        | some w, hd =>
          cases hd
          obtain ⟨y, h1, h2⟩ := Option.bind_eq_some_iff.mp hg
          obtain ⟨z, h3, h4⟩ := Option.map_eq_some_iff.mp h2
          subst h4
          unfold cutP at h3
          split at h3
          · cases h3
            obtain ⟨l, vs, e5, f1, r1⟩ := tup_of x3 h1
            refine .inl ⟨l, vs, e5, f1.sq, fun hw => ?_, fun hw p hp => ?_⟩
            · have e6 := sIx_whole (lo := lo) (hi := hi) r1.length.symm hw
              exact hq φ3 H3 _ e13 s3 ⟨l, vs, rfl, f1, by rw [e6]; exact r1⟩
            · have e := Ext.new (o := .tup (cutV vs lo hi)) hp s3
              exact hq φ3 _ _ (e13.trans e) (s3.new hp) ⟨p, _, rfl, upd_same, RDs.mono e _ _ r1.cutG⟩
          · split at h3
            · rename_i hz
              cases h3
              exact .inr ⟨_, str_of x3 h1, small_le hz, hq φ3 H3 _ e13 s3 rfl⟩
            · cases h3
          · cases h3
theorem e_sl {lo hi : Option Expr} {dl dh : DO} {p2 : Pos} (ha : SE X E a da) (hl : SO X E lo dl) (hh : SO X E hi dh) : SE X E (.Subscript a (.Slice lo hi none p2) pos) (dSl da dl dh) :=
  PEw (pe_slice (sl_tupA.or C8.sl_txt) ha hl hh) sl_rd
/-- of a list: a new list -/
def lstW (S : So) (w : W) : Option (List PyData) := (rd S w).bind fun
  | .list xs => some xs
  | _ => none
theorem lstW_of {S : So} {w : W} {xs : List PyData} (h : lstW S w = some xs) : rd S w = some (.list xs) := by
  obtain ⟨y, h1, h2⟩ := Option.bind_eq_some_iff.mp h
  cases y <;> simp at h2
  subst h2
  exact h1
def dSlL (a : DE) (l h : DO) : DN := fun σ S => bnd (a σ S) fun w S1 => bnd (l σ S1) fun lo S2 => bnd (h σ S2) fun hi S3 => giv ((lstW S3 w).map fun xs => cutG xs lo hi) S3
theorem slL_rd {dl dh : DO} (σV : L2.St) (H : Hp) (Q : VK) (h : tN X.K X.mg E (dSlL da dl dh) σV H Q) :
    tSl (rSlL X.K) (tE X.K X.mg E da) (tO X.K X.mg E dl) (tO X.K X.mg E dh) σV H Q := by
  obtain ⟨φ, σ, S, r', hs, he, hd, hq⟩ := h
  unfold dSlL at hd
  match ha : da σ S, hd with
  | none, hd => cases hd
  | some (.xc x S1), hd => cases hd; exact ⟨φ, σ, S, .xc x S1, hs, he, ha, hq⟩
  | some (.ok x S1), hd =>
    refine ⟨φ, σ, S, .ok x S1, hs, he, ha, fun φ1 H1 v1 e1 s1 x1 => ?_⟩
    rw [bnd_ok] at hd
    match hb : dl σ S1, hd with
    | none, hd => cases hd
    | some (.xc y S2), hd => cases hd; exact ⟨φ1, σ, S1, .xc y S2, s1, he.mono e1, hb, XR.keep e1 hq⟩
    | some (.ok lo S2), hd =>
      refine ⟨φ1, σ, S1, .ok lo S2, s1, he.mono e1, hb, fun φ2 H2 e2 s2 => ?_⟩
      rw [bnd_ok] at hd
      have e12 := e1.trans e2
      match hc : dh σ S2, hd with
      | none, hd => cases hd
      | some (.xc y S3), hd => cases hd; exact ⟨φ2, σ, S2, .xc y S3, s2, he.mono e12, hc, XR.keep e12 hq⟩
      | some (.ok hi S3), hd =>
        refine ⟨φ2, σ, S2, .ok hi S3, s2, he.mono e12, hc, fun φ3 H3 e3 s3 => ?_⟩
        rw [bnd_ok] at hd
        have x3 := (x1.mono e2).mono e3
        match hg : (lstW S3 x).map fun xs => CL.cutG xs lo hi, hd with
        | none, hd => cases hd
        | some w, hd =>
          cases hd
          obtain ⟨xs, h1, h2⟩ := Option.map_eq_some_iff.mp hg
          subst h2
          obtain ⟨l, vs, e5, f1, r1⟩ := seqL_of s3 x3 (lstW_of h1)
          exact ⟨l, vs, e5, f1, fun p hp => hq φ3 H3 p _ (e12.trans e3) s3 hp r1.cutG⟩
theorem n_sl {lo hi : Option Expr} {dl dh : DO} {p2 : Pos} (ha : SE X E a da) (hl : SO X E lo dl) (hh : SO X E hi dh) : SN X E (.Subscript a (.Slice lo hi none p2) pos) (dSlL da dl dh) :=
  PEw (pe_slice sl_list ha hl hh) slL_rd
/-! ### calls of built-ins -/
theorem one_of {K : PySem.W.Frag} {mg : Str → Option Value} {H : Hp} {φ : Fi} {w : W} {vs : List V} (h : RWs K H φ mg [w] vs) : ∃ v, vs = [v] ∧ RW K H φ mg w v := by
  obtain ⟨v, r, e, h1, h2⟩ := h; cases h2; exact ⟨v, e, h1⟩
theorem two_of {K : PySem.W.Frag} {mg : Str → Option Value} {H : Hp} {φ : Fi} {w u : W} {vs : List V} (h : RWs K H φ mg [w, u] vs) : ∃ v z, vs = [v, z] ∧ RW K H φ mg w v ∧ RW K H φ mg u z := by
  obtain ⟨v, r, e, h1, v2, r2, e2, h2, h3⟩ := h; cases h3; subst e2; exact ⟨v, v2, e, h1, h2⟩
/-- a function of one argument as it is read -/
def c1 (f : PyData → Option PyData) : So → List W → Option W
  | S, [w] => on1 f S w
  | _, _ => none
@[simp] theorem c1_d (f : PyData → Option PyData) (S : So) (a : PyData) : c1 f S [.d a] = (f a).map W.d := rfl
theorem c1_of {f : PyData → Option PyData} {S : So} {ws : List W} {w : W} (h : c1 f S ws = some w) : ∃ u x c, ws = [u] ∧ rd S u = some x ∧ f x = some c ∧ w = .d c := by
  unfold c1 at h
  split at h
  · obtain ⟨a, c, h1, h2, h3⟩ := on1_of h; exact ⟨_, a, c, rfl, h1, h2, h3⟩
  · cases h
def lenP : PyData → Option PyData
  | .list xs => some (.int xs.length)
  | .tuple xs => some (.int xs.length)
  | .str z => if small z.length = true then some (.int z.length) else none
  | _ => none
theorem b_len : CallR X (.builtin "len") (rC X.K X.mg (c1 lenP)) :=
  callw (call_len_seq.or call_len_str) fun vs H Q ⟨φ, S, ws, w, hs, hx, hg, hq⟩ => by
    obtain ⟨u, x, c, rfl, h1, h2, rfl⟩ := c1_of hg
    obtain ⟨v, rfl, hv⟩ := one_of hx
    unfold lenP at h2
    split at h2
    · cases h2
      obtain ⟨l, vs, rfl, f1, r1⟩ := seqL_of hs hv h1
      exact .inl ⟨l, vs, rfl, .inl f1, hq φ H _ .refl hs (by rw [r1.length]; rfl)⟩
    · cases h2
      obtain ⟨l, vs, rfl, f1, r1⟩ := seqT_of hv h1
      exact .inl ⟨l, vs, rfl, .inr f1, hq φ H _ .refl hs (by rw [r1.length]; rfl)⟩
    · split at h2
      · rename_i hz
        cases h2
        rw [str_of hv h1]
        exact .inr ⟨_, rfl, small_le hz, hq φ H _ .refl hs rfl⟩
      · cases h2
    · cases h2
def tupP : PyData → Option PyData
  | .list xs => some (.tuple xs)
  | .tuple xs => some (.tuple xs)
  | _ => none
theorem b_tuple : CallR X (.type "tuple") (rC X.K X.mg (c1 tupP)) :=
  callw call_tuple_of fun vs H Q ⟨φ, S, ws, w, hs, hx, hg, hq⟩ => by
    obtain ⟨u, x, c, rfl, h1, h2, rfl⟩ := c1_of hg
    obtain ⟨v, rfl, hv⟩ := one_of hx
    unfold tupP at h2
    split at h2
    · cases h2
      obtain ⟨l, vs, rfl, f1, r1⟩ := seqL_of hs hv h1
      refine ⟨l, vs, rfl, .inl ⟨f1, fun p hp => ?_⟩⟩
      have e := Ext.new (o := .tup vs) hp hs
      exact hq φ _ _ e (hs.new hp) ⟨p, _, rfl, upd_same, RDs.mono e _ _ r1⟩
    · cases h2
      obtain ⟨l, vs, rfl, f1, r1⟩ := tup_of hv h1
      exact ⟨l, vs, rfl, .inr ⟨f1.sq, hq φ H _ .refl hs ⟨l, vs, rfl, f1, r1⟩⟩⟩
    · cases h2
/-- a call that makes a list -/
def rCN (K : PySem.W.Frag) (mg : Str → Option Value) (g : So → List W → Option (List PyData)) : List V → Hp → VK → Prop := fun vs H Q => ∃ φ S ws xs, SR K H φ S ∧ RWs K H φ mg ws vs ∧ g S ws = some xs ∧
  ∀ φ' H' p us, Ext φ H φ' H' → SR K H' φ' S → H' p = none → RDs K H' φ' xs us → Q (.ref p) (upd H' p (.lst us))
def dCallN (g : So → List W → Option (List PyData)) (as : DA) : DN := fun σ S => bnd (as σ S) fun ws S1 => giv (g S1 ws) S1
theorem callN_rd {g : So → List W → Option (List PyData)} {das : DA} (σV : L2.St) (H : Hp) (Q : VK) (h : tN X.K X.mg E (dCallN g das) σV H Q) : tCB (rCN X.K X.mg g) (tA X.K X.mg E das) σV H Q := by
  obtain ⟨φ, σ, S, r', hs, he, hd, hq⟩ := h
  unfold dCallN at hd
  match ha : das σ S, hd with
  | none, hd => cases hd
  | some (.xc x S1), hd => cases hd; exact ⟨φ, σ, S, .xc x S1, hs, he, ha, hq⟩
  | some (.ok ws S1), hd =>
    refine ⟨φ, σ, S, .ok ws S1, hs, he, ha, fun φ1 H1 vs e1 s1 x1 => ?_⟩
    rw [bnd_ok] at hd
    match hg : g S1 ws, hd with
    | none, hd => cases hd
    | some w, hd =>
      cases hd
      exact ⟨φ1, S1, ws, w, s1, x1, hg, fun φ' H' p us e' => hq φ' H' p us (e1.trans e')⟩
variable {x : Str} {es : List Expr} {das : DA}
theorem n_callTy {T : String} {g : So → List W → Option (List PyData)} (hc : CallR X (.type T) (rCN X.K X.mg g)) (hm : X.mg x = none) (ha : SA X E (a :: es) das) (hg : Gl X x := by rfl) (hv : bootBuiltins x = some (.type T) := by decide +kernel) (hn : x ≠ "__name__" := by decide) (hdb : (x == ("__debug__" : Str)) = false := by decide)
    (he : starEach (a :: es) X.env = (false, eval a X.env) :: starEach es X.env := by rfl) (hpl : (backTo pos (starEach es X.env)).any (·.1) = false := by rfl) : SN X E (.Call (.Name x p) (a :: es) [] pos) (dCallN g das) :=
  PEw (pe_callTy hc hg hm hv ha hn hdb he hpl) callN_rd
theorem n_callB {id : String} {g : So → List W → Option (List PyData)} (hc : CallR X (.builtin id) (rCN X.K X.mg g)) (hm : X.mg x = none) (ha : SA X E (a :: es) das) (hg : Gl X x := by rfl) (hv : bootBuiltins x = some (.builtin id) := by decide +kernel) (hn : x ≠ "__name__" := by decide) (hdb : (x == ("__debug__" : Str)) = false := by decide)
    (he : starEach (a :: es) X.env = (false, eval a X.env) :: starEach es X.env := by rfl) (hpl : (backTo pos (starEach es X.env)).any (·.1) = false := by rfl) : SN X E (.Call (.Name x p) (a :: es) [] pos) (dCallN g das) :=
  PEw (pe_callB hc hg hm hv ha hn hdb he hpl) callN_rd
/-- list(x) -/
def listG : So → List W → Option (List PyData)
  | S, [w] => (rd S w).bind fun
    | .list xs => some xs
    | .tuple xs => some xs
    | _ => none
  | _, _ => none
theorem b_list : CallR X (.type "list") (rCN X.K X.mg listG) :=
  callw call_list_of fun vs H Q ⟨φ, S, ws, xs, hs, hx, hg, hq⟩ => by
    unfold listG at hg
    split at hg
    · obtain ⟨v, rfl, hv⟩ := one_of hx
      obtain ⟨y, h1, h2⟩ := Option.bind_eq_some_iff.mp hg
      cases y <;> simp at h2
      · subst h2
        obtain ⟨l, us, rfl, f1, r1⟩ := seqL_of hs hv h1
        exact ⟨l, us, rfl, .inl f1, fun p hp => hq φ H p us .refl hs hp r1⟩
      · subst h2
        obtain ⟨l, us, rfl, f1, r1⟩ := seqT_of hv h1
        exact ⟨l, us, rfl, .inr f1, fun p hp => hq φ H p us .refl hs hp r1⟩
    · cases hg
/-- all(xs) of a list of bools -/
def bools : List PyData → Option (List Bool)
  | [] => some []
  | .bool b :: r => (bools r).map (b :: ·)
  | _ :: _ => none
def allP : PyData → Option PyData
  | .list xs => (bools xs).map fun bs => .bool (bs.all id)
  | _ => none
theorem bools_of {K : PySem.W.Frag} {H : Hp} {φ : Fi} : ∀ {ds : List PyData} {vs : List V} {bs : List Bool}, RDs K H φ ds vs → bools ds = some bs → vs = bs.map V.bl
  | [], _, _, h, e => by cases e; exact h
  | .bool b :: ds, _, _, ⟨v, r, e1, h1, h2⟩, e => by
    obtain ⟨cs, e2, e3⟩ := Option.map_eq_some_iff.mp e
    subst e3; subst e1
    rw [bools_of h2 e2, show v = .bl b from h1]; rfl
  | .none :: _, _, _, _, e => by cases e
  | .int _ :: _, _, _, _, e => by cases e
  | .str _ :: _, _, _, _, e => by cases e
  | .list _ :: _, _, _, _, e => by cases e
  | .tuple _ :: _, _, _, _, e => by cases e
  | .dict _ :: _, _, _, _, e => by cases e
theorem b_all (hc : X.calm = true := by rfl) : CallR X (.builtin "all") (rC X.K X.mg (c1 allP)) :=
  callw (cr_all hc) fun vs H Q ⟨φ, S, ws, w, hs, hx, hg, hq⟩ => by
    obtain ⟨u, x, c, rfl, h1, h2, rfl⟩ := c1_of hg
    obtain ⟨v, rfl, hv⟩ := one_of hx
    unfold allP at h2
    split at h2
    · obtain ⟨bs, h3, h4⟩ := Option.map_eq_some_iff.mp h2
      subst h4
      obtain ⟨l, vs, rfl, f1, r1⟩ := seqL_of hs hv h1
      rw [bools_of r1 h3] at f1
      exact ⟨l, bs, rfl, f1, hq φ H _ .refl hs rfl⟩
    · cases h2
/-- isinstance(x, T), T a built-in type -/
def tyN : PyData → Option String
  | .none => none
  | .bool _ => some "bool"
  | .int _ => some "int"
  | .str _ => some "str"
  | .list _ => some "list"
  | .tuple _ => some "tuple"
  | .dict _ => none
def isiP (T : String) (x : PyData) : Option PyData := match x with
  | .none => some (.bool false)
  | .bool _ => some (.bool (T == "bool" || T == "int"))
  | .int _ => some (.bool (T == "int"))
  | .str _ => some (.bool (T == "str"))
  | .list _ => some (.bool (T == "list"))
  | .tuple _ => some (.bool (T == "tuple"))
  | .dict _ => none
/-- the types that are asked for here -/
def tyOk (T : String) : Bool := T == "bool" || T == "int" || T == "str" || T == "list" || T == "tuple"
theorem kit_none (T : String) (h : tyOk T = true) : kitB "NoneType" T = some false := by
  unfold tyOk at h; simp only [Bool.or_eq_true, beq_iff_eq] at h
  rcases h with ((((h | h) | h) | h) | h) <;> subst h <;> decide +kernel
theorem kit_bool (T : String) (h : tyOk T = true) : kitB "bool" T = some (T == "bool" || T == "int") := by
  unfold tyOk at h; simp only [Bool.or_eq_true, beq_iff_eq] at h
  rcases h with ((((h | h) | h) | h) | h) <;> subst h <;> decide +kernel
theorem kit_int (T : String) (h : tyOk T = true) : kitB "int" T = some (T == "int") := by
  unfold tyOk at h; simp only [Bool.or_eq_true, beq_iff_eq] at h
  rcases h with ((((h | h) | h) | h) | h) <;> subst h <;> decide +kernel
theorem kit_str (T : String) (h : tyOk T = true) : kitB "str" T = some (T == "str") := by
  unfold tyOk at h; simp only [Bool.or_eq_true, beq_iff_eq] at h
  rcases h with ((((h | h) | h) | h) | h) <;> subst h <;> decide +kernel
theorem kit_list (T : String) (h : tyOk T = true) : kitB "list" T = some (T == "list") := by
  unfold tyOk at h; simp only [Bool.or_eq_true, beq_iff_eq] at h
  rcases h with ((((h | h) | h) | h) | h) <;> subst h <;> decide +kernel
theorem kit_tuple (T : String) (h : tyOk T = true) : kitB "tuple" T = some (T == "tuple") := by
  unfold tyOk at h; simp only [Bool.or_eq_true, beq_iff_eq] at h
  rcases h with ((((h | h) | h) | h) | h) <;> subst h <;> decide +kernel
end
end CL
end

section
/-! part CLZip -/
set_option Elab.async false
set_option linter.all false
set_option maxRecDepth 100000
set_option maxHeartbeats 2000000
/-! CLZip: zip of two tuples, whatever the target: the tuple handed out last may be in use or not. -/
namespace CL
open PySem PySem.Spec PyProof.Rows L2
open RZ (nextOf_tuple_item nextOf_tuple_end ItzT)
section
variable {P : Program} {w : World} {A : Around} {E : Value → Shared → Prop} {s : Shared}
/-- the zip: v tells the tuple that it handed out last -/
def ZS (h : Heap) (z TI TO : Addr) (v : Value) (f : Bool) : Prop := h.get? z = some { cls := .type "zip", dict := none, data := .fields #[v, .bool f, .bool false, .ref TI, .ref TO], slots := #[] }
def Last (v : Value) : Prop := v = .none ∨ ∃ T : Addr, v = rawInt T
theorem zs_free {z TI TO : Addr} {v : Value} {f : Bool} {Q : Bool → Shared → Prop} (hz : ZS s.heap z TI TO v f) (hv : Last v) (hQ : ∀ (b : Bool) (h2 : Heap) (g : Bool), ZS h2 z TI TO v g → Heap.SameBut z s.heap h2 → Q b { s with heap := h2 }) :
    wpAny (model P w) A (Builtin.SmallTypes.ownedTupleIsFree (.ref z)) Q E s := by
  have stay := fun b => hQ b s.heap f hz (Heap.SameBut.refl _ _)
  unfold Builtin.SmallTypes.ownedTupleIsFree
  rcases hv with e | ⟨T, e⟩
  · subst e
    exact wpAny_bind (wpAny_field hz rfl (x := Value.none) rfl (wpAny_pure (stay true)))
  · subst e
    refine wpAny_bind (wpAny_field hz rfl (x := rawInt T) rfl ?_)
    have ask : ∀ {R : Option Obj → Shared → Prop}, R (s.heap.get? ((T : Int).toNat)) s → wpAny (model P w) A (loadIfAlive ((T : Int).toNat)) R E s := fun q _ _ _ => q
    refine wpAny_bind (m := loadIfAlive ((T : Int).toNat)) (ask ?_)
    cases s.heap.get? ((T : Int).toNat) with
    | none => exact wpAny_pure (stay true)
    | some o =>
      refine wpAny_bind (wpAny_field hz rfl (x := Value.bool f) rfl ?_)
      cases f with
      | true => exact wpAny_pure (stay false)
      | false => exact wpAny_bind (wpAny_setField_rec hz (by simp) fun h2 z2 k2 => wpAny_pure (hQ false h2 true z2 k2))
/-- where the zip's parts stand -/
structure ZA (h : Heap) (z TI TO i1 i2 l1 l2 : Addr) (k : Nat) (v : Value) (f : Bool) : Prop where
  z : ZS h z TI TO v f
  last : Last v
  ti : IsPair h TI (.ref i1) (.ref i2)
  to : ∃ a b, IsPair h TO a b
  a1 : h.IsTupleIter i1 l1 k
  a2 : h.IsTupleIter i2 l2 k
variable {z TI TO i1 i2 l1 l2 : Addr} {k : Nat} {v : Value} {f : Bool} {xs ys : Array Value} {x y : Value}
theorem zq_item {Q : Value → Shared → Prop} (D : ZipApart z TI TO i1 i2 l1 l2) (Z : ZA s.heap z TI TO i1 i2 l1 l2 k v f) (q1 : s.heap.IsTuple l1 xs) (q2 : s.heap.IsTuple l2 ys) (hx : xs[k]? = some x) (hy : ys[k]? = some y)
    (hQ : ∀ (h2 : Heap) (v2 : Value) (f2 : Bool), ZA h2 z TI TO i1 i2 l1 l2 (k + 1) v2 f2 → IsPair h2 s.heap.objs.size x y → (∀ c o, c ≠ z → c ≠ TO → c ≠ i1 → c ≠ i2 → s.heap.get? c = some o → h2.get? c = some o) → Q (.ref s.heap.objs.size) { s with heap := h2 }) :
    wpAny (model P w) A (Builtin.«zip.__next__» ⟨[.ref z], []⟩) (fun fin s' => ∃ u, fin = .done (.ret u) ∧ Q u s') E s := by
  refine wpAny_bind (m := field (.ref z) 2) (wpAny_field Z.z rfl (x := Value.bool false) rfl ?_)
  refine wpAny_bind (m := field (.ref z) 3) (wpAny_field Z.z rfl (x := Value.ref TI) rfl ?_)
  refine wpAny_bind (wpAny_seqItems Z.ti rfl (wpAny_bind (m := Builtin.SmallTypes.ownedTupleIsFree (.ref z)) (zs_free Z.z Z.last fun b ha g za sa => ?_)))
  have t0 := D.i1z; have t1 := D.i2z; have t2 := D.TOz
  have u1 := Z.a1.extBut sa.extBut D.i1z
  have u2 := Z.a2.extBut sa.extBut D.i2z
  have p1 := q1.extBut sa.extBut D.l1z
  have p2 := q2.extBut sa.extBut D.l2z
  have c1 : IsPair ha TI (.ref i1) (.ref i2) := sa.extBut _ _ D.TIz Z.ti
  obtain ⟨a0, b0, to0⟩ := Z.to
  have c2 : IsPair ha TO a0 b0 := sa.extBut _ _ D.TOz to0
  have size0 : ha.objs.size = s.heap.objs.size := sa.1
  cases b with
  | true =>
    simp only [if_true]
    refine wpAny_bind (wpAny_rule (wpAny_bind (wpAny_field za rfl (x := Value.ref TO) rfl (wpAny_bind (wpAny_setField_rec za (by simp) fun hb zb sb => ?_)))))
    replace zb : ZS hb z TI TO .ellipsis g := zb
    refine wpAny_bind ?_
    simp only [List.zipIdx_cons, List.zipIdx_nil, List.forIn_cons, List.forIn_nil]
    refine wpAny_bind (wpAny_bind (wpAny_onRaise (wpAny_bind (m := Builtin.SmallTypes.nextOf (.ref i1)) (nextOf_tuple_item (u1.extBut sb.extBut D.i1z) (p1.extBut sb.extBut D.l1z) hx fun hc j1 sc => wpAny_pure ?_))))
    have d2 : IsPair hc TO a0 b0 := sc.extBut _ _ D.TOi1 (sb.extBut _ _ D.TOz c2)
    refine wpAny_bind (wpAny_seqItems d2 rfl (wpAny_bind (wpAny_updateSeq_pair d2 fun hd d3 sd => ?_)))
    replace d3 : IsPair hd TO x b0 := d3
    refine wpAny_bind (wpAny_letGo (wpAny_pure (wpAny_bind (wpAny_bind (wpAny_onRaise (wpAny_bind (m := Builtin.SmallTypes.nextOf (.ref i2)) ?_))))))
    refine nextOf_tuple_item (((u2.extBut sb.extBut D.i2z).extBut sc.extBut D.i12.symm).extBut sd.extBut D.TOi2.symm) (((p2.extBut sb.extBut D.l2z).extBut sc.extBut D.l2i1).extBut sd.extBut D.l2TO) hy fun he j2 se => wpAny_pure ?_
    have d4 : IsPair he TO x b0 := se.extBut _ _ D.TOi2 d3
    refine wpAny_bind (wpAny_seqItems d4 rfl (wpAny_bind (wpAny_updateSeq_pair d4 fun hf d5 sf => ?_)))
    replace d5 : IsPair hf TO x y := d5
    refine wpAny_bind (wpAny_letGo (wpAny_pure (wpAny_pure (wpAny_bind (wpAny_seqItems d5 rfl (wpAny_bind (wpAny_newTuple ?_)))))))
    have size1 : hf.objs.size = s.heap.objs.size := by rw [sf.1, se.1, sd.1, sc.1, sb.1, sa.1]
    have zf : ZS hf z TI TO .ellipsis g := sf.extBut _ _ D.TOz.symm (se.extBut _ _ D.i2z.symm (sd.extBut _ _ D.TOz.symm (sc.extBut _ _ D.i1z.symm zb)))
    have old : ∀ c o, c ≠ z → c ≠ TO → c ≠ i1 → c ≠ i2 → s.heap.get? c = some o → hf.get? c = some o := fun c o n1 n2 n3 n4 e => sf.extBut _ _ n2 (se.extBut _ _ n4 (sd.extBut _ _ n2 (sc.extBut _ _ n3 (sb.extBut _ _ n1 (sa.extBut _ _ n1 e)))))
    have k1 : hf.IsTupleIter i1 l1 (k + 1) := ((j1.extBut sd.extBut D.TOi1.symm).extBut se.extBut D.i12).extBut sf.extBut D.TOi1.symm
    have k2 : hf.IsTupleIter i2 l2 (k + 1) := j2.extBut sf.extBut D.TOi2.symm
    have zlt : z < hf.objs.size := Heap.lt_size zf
    refine wpAny_bind (m := Builtin.SmallTypes.ownedTupleHandOut (.ref z) (.ref hf.objs.size)) ?_
    unfold Builtin.SmallTypes.ownedTupleHandOut
    have zg : ZS (hf.push { cls := .type "tuple", data := .seq #[x, y] }) z TI TO .ellipsis g := Heap.get?_push_of_some _ zf
    refine wpAny_bind (wpAny_setField_rec zg (by simp) fun hh zh sh => ?_)
    replace zh : ZS hh z TI TO (rawInt hf.objs.size) g := zh
    refine wpAny_setField_rec zh (by simp) fun hi zi si => wpAny_pure ⟨_, rfl, ?_⟩
    replace zi : ZS hi z TI TO (rawInt hf.objs.size) false := zi
    have up : ∀ c o, c ≠ z → hf.get? c = some o → hi.get? c = some o := fun c o n1 e => si.extBut _ _ n1 (sh.extBut _ _ n1 (Heap.get?_push_of_some _ e))
    have nw : IsPair hi hf.objs.size x y := si.extBut _ _ (Nat.ne_of_gt zlt) (sh.extBut _ _ (Nat.ne_of_gt zlt) (Heap.get?_push_size _ rfl))
    have keepTI : IsPair hi TI (.ref i1) (.ref i2) := up _ _ D.TIz (old _ _ D.TIz D.TITO D.TIi1 D.TIi2 Z.ti)
    have fin := hQ hi _ _ ⟨zi, .inr ⟨_, rfl⟩, keepTI, ⟨x, y, up _ _ D.TOz d5⟩, k1.at fun o e => up _ o D.i1z e, k2.at fun o e => up _ o D.i2z e⟩
    rw [size1] at nw
    show Q (.ref hf.objs.size) _
    rw [size1]
    exact fin nw fun c o n1 n2 n3 n4 e => up c o n1 (old c o n1 n2 n3 n4 e)
  | false =>
    rw [if_neg Bool.false_ne_true]
    refine wpAny_bind ?_
    rw [← Array.forIn_toList]
    simp only [List.forIn_cons, List.forIn_nil]
    refine wpAny_bind (wpAny_bind (wpAny_holding (wpAny_bind (m := Builtin.SmallTypes.nextOf (.ref i1)) (nextOf_tuple_item (s := { s with heap := ha }) u1 p1 hx fun hb j1 sb => wpAny_pure (wpAny_pure ?_)))))
    refine wpAny_bind (wpAny_bind (wpAny_holding (wpAny_bind (m := Builtin.SmallTypes.nextOf (.ref i2)) ?_)))
    refine nextOf_tuple_item (s := { s with heap := hb }) (u2.extBut sb.extBut D.i12.symm) (p2.extBut sb.extBut D.l2i1) hy fun hc j2 sc => wpAny_pure (wpAny_pure (wpAny_pure ?_))
    refine wpAny_bind (m := newTuple [x, y]) (wpAny_newTuple (wpAny_pure ⟨_, rfl, ?_⟩))
    have size1 : hc.objs.size = s.heap.objs.size := by rw [sc.1, sb.1, sa.1]
    have zc : ZS hc z TI TO v g := sc.extBut _ _ D.i2z.symm (sb.extBut _ _ D.i1z.symm za)
    have old : ∀ c o, c ≠ z → c ≠ i1 → c ≠ i2 → s.heap.get? c = some o → hc.get? c = some o := fun c o n1 n3 n4 e => sc.extBut _ _ n4 (sb.extBut _ _ n3 (sa.extBut _ _ n1 e))
    have k1 : hc.IsTupleIter i1 l1 (k + 1) := j1.extBut sc.extBut D.i12
    have push : ∀ c o, hc.get? c = some o → (hc.push { cls := .type "tuple", data := .seq #[x, y] }).get? c = some o := fun c o e => Heap.get?_push_of_some _ e
    have nw : IsPair (hc.push { cls := .type "tuple", data := .seq #[x, y] }) hc.objs.size x y := Heap.get?_push_size _ rfl
    rw [size1] at nw
    show Q (.ref hc.objs.size) _
    rw [size1]
    exact hQ _ _ _ ⟨push _ _ zc, Z.last, push _ _ (old _ _ D.TIz D.TIi1 D.TIi2 Z.ti), ⟨a0, b0, push _ _ (old _ _ D.TOz D.TOi1 D.TOi2 to0)⟩, k1.at fun o e => push _ o e, j2.at fun o e => push _ o e⟩ nw fun c o n1 _ n3 n4 e => push c o (old c o n1 n3 n4 e)
theorem zq_end {Q : Fin → Shared → Prop} (h0 : A.handled = none) (D : ZipApart z TI TO i1 i2 l1 l2) (Z : ZA s.heap z TI TO i1 i2 l1 l2 k v f) (q1 : s.heap.IsTuple l1 xs) (q2 : s.heap.IsTuple l2 ys) (hend : xs[k]? = none ∨ ys[k]? = none)
    (hE : ∀ (h2 : Heap) (e : Addr), (∀ c o, c ≠ z → c ≠ TO → c ≠ i1 → c ≠ i2 → s.heap.get? c = some o → h2.get? c = some o) → (∃ o, h2.get? e = some o ∧ o.cls = .type "StopIteration") → E (.ref e) { s with heap := h2 }) :
    wpAny (model P w) A (Builtin.«zip.__next__» ⟨[.ref z], []⟩) Q E s := by
  refine wpAny_bind (m := field (.ref z) 2) (wpAny_field Z.z rfl (x := Value.bool false) rfl ?_)
  refine wpAny_bind (m := field (.ref z) 3) (wpAny_field Z.z rfl (x := Value.ref TI) rfl ?_)
  refine wpAny_bind (wpAny_seqItems Z.ti rfl (wpAny_bind (m := Builtin.SmallTypes.ownedTupleIsFree (.ref z)) (zs_free Z.z Z.last fun b ha g za sa => ?_)))
  have u1 := Z.a1.extBut sa.extBut D.i1z
  have u2 := Z.a2.extBut sa.extBut D.i2z
  have p1 := q1.extBut sa.extBut D.l1z
  have p2 := q2.extBut sa.extBut D.l2z
  obtain ⟨a0, b0, to0⟩ := Z.to
  have c2 : IsPair ha TO a0 b0 := sa.extBut _ _ D.TOz to0
  cases b with
  | true =>
    simp only [if_true]
    refine wpAny_bind (wpAny_rule (wpAny_bind (wpAny_field za rfl (x := Value.ref TO) rfl (wpAny_bind (wpAny_setField_rec za (by simp) fun hb zb sb => ?_)))))
    replace zb : ZS hb z TI TO .ellipsis g := zb
    have w1 := u1.extBut sb.extBut D.i1z
    have w2 := u2.extBut sb.extBut D.i2z
    have r1 := p1.extBut sb.extBut D.l1z
    have r2 := p2.extBut sb.extBut D.l2z
    refine wpAny_bind ?_
    simp only [List.zipIdx_cons, List.zipIdx_nil, List.forIn_cons, List.forIn_nil]
    refine wpAny_bind (wpAny_bind (wpAny_onRaise (wpAny_bind (m := Builtin.SmallTypes.nextOf (.ref i1)) ?_)))
    match hx : xs[k]? with
    | none =>
      refine nextOf_tuple_end h0 w1 r1 hx fun hc e sc he => ?_
      obtain ⟨oe, e1, e2⟩ := he
      have zc : ZS hc z TI TO .ellipsis g := sc _ _ D.i1z.symm zb
      have ne : e ≠ z := fun q => by subst q; rw [zc] at e1; cases e1; simp at e2
      exact wpAny_setField_rec zc (by simp) fun hd _ sd => hE hd e (fun c o n1 _ n3 _ q => sd.extBut _ _ n1 (sc _ _ n3 (sb.extBut _ _ n1 (sa.extBut _ _ n1 q)))) ⟨oe, sd.extBut _ _ ne e1, e2⟩
    | some x =>
      have hy : ys[k]? = none := hend.resolve_left (by rw [hx]; simp)
      refine nextOf_tuple_item w1 r1 hx fun hc j1 sc => wpAny_pure ?_
      have d2 : IsPair hc TO a0 b0 := sc.extBut _ _ D.TOi1 (sb.extBut _ _ D.TOz c2)
      refine wpAny_bind (wpAny_seqItems d2 rfl (wpAny_bind (wpAny_updateSeq_pair d2 fun hd d3 sd => ?_)))
      refine wpAny_bind (wpAny_letGo (wpAny_pure (wpAny_bind (wpAny_bind (wpAny_onRaise (wpAny_bind (m := Builtin.SmallTypes.nextOf (.ref i2)) ?_))))))
      refine nextOf_tuple_end h0 ((w2.extBut sc.extBut D.i12.symm).extBut sd.extBut D.TOi2.symm) ((r2.extBut sc.extBut D.l2i1).extBut sd.extBut D.l2TO) hy fun he e se he2 => ?_
      obtain ⟨oe, e1, e2⟩ := he2
      have ze : ZS he z TI TO .ellipsis g := se _ _ D.i2z.symm (sd.extBut _ _ D.TOz.symm (sc.extBut _ _ D.i1z.symm zb))
      have ne : e ≠ z := fun q => by subst q; rw [ze] at e1; cases e1; simp at e2
      exact wpAny_setField_rec ze (by simp) fun hf _ sf => hE hf e (fun c o n1 n2 n3 n4 q => sf.extBut _ _ n1 (se _ _ n4 (sd.extBut _ _ n2 (sc.extBut _ _ n3 (sb.extBut _ _ n1 (sa.extBut _ _ n1 q)))))) ⟨oe, sf.extBut _ _ ne e1, e2⟩
  | false =>
    rw [if_neg Bool.false_ne_true]
    refine wpAny_bind ?_
    rw [← Array.forIn_toList]
    simp only [List.forIn_cons, List.forIn_nil]
    refine wpAny_bind (wpAny_bind (wpAny_holding (wpAny_bind (m := Builtin.SmallTypes.nextOf (.ref i1)) ?_)))
    match hx : xs[k]? with
    | none => exact nextOf_tuple_end (s := { s with heap := ha }) h0 u1 p1 hx fun hb e sb he => hE hb e (fun c o n1 _ n3 _ q => sb _ _ n3 (sa.extBut _ _ n1 q)) he
    | some x =>
      have hy : ys[k]? = none := hend.resolve_left (by rw [hx]; simp)
      refine nextOf_tuple_item (s := { s with heap := ha }) u1 p1 hx fun hb j1 sb => wpAny_pure (wpAny_pure (wpAny_bind (wpAny_bind (wpAny_holding (wpAny_bind (m := Builtin.SmallTypes.nextOf (.ref i2)) ?_)))))
      exact nextOf_tuple_end (s := { s with heap := hb }) h0 (u2.extBut sb.extBut D.i12.symm) (p2.extBut sb.extBut D.l2i1) hy fun hc e sc he => hE hc e (fun c o n1 _ n3 n4 q => sc _ _ n4 (sb.extBut _ _ n3 (sa.extBut _ _ n1 q))) he
theorem zn_item {Q : Option Value → Shared → Prop} (D : ZipApart z TI TO i1 i2 l1 l2) (Z : ZA s.heap z TI TO i1 i2 l1 l2 k v f) (q1 : s.heap.IsTuple l1 xs) (q2 : s.heap.IsTuple l2 ys) (hx : xs[k]? = some x) (hy : ys[k]? = some y)
    (hQ : ∀ (h2 : Heap) (v2 : Value) (f2 : Bool), ZA h2 z TI TO i1 i2 l1 l2 (k + 1) v2 f2 → IsPair h2 s.heap.objs.size x y → (∀ c o, c ≠ z → c ≠ TO → c ≠ i1 → c ≠ i2 → s.heap.get? c = some o → h2.get? c = some o) → Q (some (.ref s.heap.objs.size)) { s with heap := h2 }) :
    wpAny (model P w) A (pyNext (.ref z)) Q E s := by
  have ty : s.TypeIs (.ref z) "zip" := ⟨_, Z.z, rfl⟩
  unfold pyNext
  exact wpAny_bind (wpAny_attempt (wpAny_callSpecial?_slot (name := Str.ofString "__next__") ty F.slot_zip_next (wpAny_call_entry F.slot_zip_next ty F.entry_zip_next (zq_item D Z q1 q2 hx hy fun h2 v2 f2 b1 b2 b3 => wpAny_pure (hQ h2 v2 f2 b1 b2 b3)) (F.args_zip_next_1 _))))
theorem zn_end {Q : Option Value → Shared → Prop} (h0 : A.handled = none) (D : ZipApart z TI TO i1 i2 l1 l2) (Z : ZA s.heap z TI TO i1 i2 l1 l2 k v f) (q1 : s.heap.IsTuple l1 xs) (q2 : s.heap.IsTuple l2 ys) (hend : xs[k]? = none ∨ ys[k]? = none)
    (hQ : ∀ h2 : Heap, (∀ c o, c ≠ z → c ≠ TO → c ≠ i1 → c ≠ i2 → s.heap.get? c = some o → h2.get? c = some o) → Q none { s with heap := h2 }) : wpAny (model P w) A (pyNext (.ref z)) Q E s := by
  have ty : s.TypeIs (.ref z) "zip" := ⟨_, Z.z, rfl⟩
  unfold pyNext
  refine wpAny_bind (wpAny_attempt (wpAny_callSpecial?_slot (name := Str.ofString "__next__") ty F.slot_zip_next (wpAny_call_entry F.slot_zip_next ty F.entry_zip_next (zq_end h0 D Z q1 q2 hend fun h2 e hk ⟨o, ho, hc⟩ => ?_) (F.args_zip_next_1 _))))
  exact wpAny_bind (wpAny_isInstance (T := "StopIteration") (b := true) ⟨o, ho, hc⟩ isSubtype_stop (wpAny_pure (hQ _ hk)))
end
theorem turn_zn {P : Program} {w : World} {K : PySem.W.Frag} {nm : Str} {np : Pos} {a b z TI TO i1 i2 : Addr} (D : ZipApart z TI TO i1 i2 a b) :
    Turn P w K (.Name nm np) (ItzT K a b) [z, TI, TO, i1, i2] z (fun i h => ∃ v f, ZA h z TI TO i1 i2 a b i v f) where
  mem := List.mem_cons_self
  obj := fun i h ⟨v, f, Z⟩ c hc => by
    obtain ⟨o1, e1, _, d1⟩ := Z.a1
    obtain ⟨o2, e2, _, d2⟩ := Z.a2
    obtain ⟨x, y, e3⟩ := Z.to
    have : c = z ∨ c = TI ∨ c = TO ∨ c = i1 ∨ c = i2 := by simpa using hc
    rcases this with q | q | q | q | q <;> subst q
    · exact ⟨_, Z.z, fun v q => nomatch q⟩
    · exact ⟨_, Z.ti, fun v q => nomatch q⟩
    · exact ⟨_, e3, fun v q => nomatch q⟩
    · exact ⟨o1, e1, fun v q => by rw [d1] at q; cases q⟩
    · exact ⟨o2, e2, fun v q => by rw [d2] at q; cases q⟩
  keep := fun i h h2 ⟨v, f, Z⟩ k => by
    obtain ⟨x, y, e3⟩ := Z.to
    exact ⟨v, f, k z (by simp) _ Z.z, Z.last, k TI (by simp) _ Z.ti, ⟨x, y, k TO (by simp) _ e3⟩, Z.a1.at fun o q => k i1 (by simp) o q, Z.a2.at fun o q => k i2 (by simp) o q⟩
  item := by
    intro X e1 e2 e3 hc i pins s σ H E I hf st hg
    subst e1 e2 e3
    obtain ⟨v, f, Z⟩ := st
    obtain ⟨xs, ys, x, y, hqx, hqy, hx, hy⟩ := hg
    obtain ⟨its, rv, p, _⟩ := I.tuple hqx
    obtain ⟨its2, rv2, p2, _⟩ := I.tuple hqy
    obtain ⟨u, hu, ru⟩ := rv.get hx
    obtain ⟨u2, hu2, ru2⟩ := rv2.get hy
    refine zn_item D Z p p2 (x := u) (y := u2) (by simpa using hu) (by simpa using hu2) fun h2 v2 f2 Z2 hT hk => ⟨_, rfl, wpAny_pure ?_⟩
    have new : ObjOk X.prog X.w (upd H s.heap.objs.size (.tup [x, y])) h2 s.heap.objs.size (.tup [x, y]) := ⟨by show 2 ≤ sizeLine; decide, [u, u2], .cons ru (.cons ru2 .nil), ⟨_, hT, rfl, _, rfl⟩⟩
    have I1 : Inv X pins σ (upd H s.heap.objs.size (.tup [x, y])) { s with heap := h2 } :=
      I.turnedNew (t' := s.toks) (ch := [z, TI, TO, i1, i2]) (fun c o hb q => hk c o (fun z => hb (by simp [z])) (fun z => hb (by simp [z])) (fun z => hb (by simp [z])) (fun z => hb (by simp [z])) q) hf (Nat.le_refl _) new
    refine ⟨.ref s.heap.objs.size, _, I1, rfl, ⟨_, x, y, rfl, I.hok.fresh (Nat.le_refl _), rfl, fun l hl => by rw [I.tuple_inj hl hqx]; exact hx, fun l hl => by rw [I.tuple_inj hl hqy]; exact hy⟩, ⟨v2, f2, Z2⟩, fun c hcm => ?_⟩
    have lt : c < s.heap.objs.size := by
      obtain ⟨a0, b0, e3⟩ := Z.to
      have h1 := Z.a1
      have h2 := Z.a2
      have : c = z ∨ c = TI ∨ c = TO ∨ c = i1 ∨ c = i2 := by simpa using hcm
      rcases this with q | q | q | q | q
      · rw [q]; exact Heap.lt_size Z.z
      · rw [q]; exact Heap.lt_size Z.ti
      · rw [q]; exact Heap.lt_size e3
      · rw [q]; obtain ⟨_, e, _⟩ := h1; exact Heap.lt_size e
      · rw [q]; obtain ⟨_, e, _⟩ := h2; exact Heap.lt_size e
    rw [upd_ne (Nat.ne_of_lt lt)]
    exact (hf c hcm).1
  done := by
    intro X e1 e2 e3 hc i pins s σ H E I hf st hg
    subst e1 e2 e3
    obtain ⟨v, f, Z⟩ := st
    obtain ⟨xs, ys, hqx, hqy, hend⟩ := hg
    obtain ⟨its, rv, p, _⟩ := I.tuple hqx
    obtain ⟨its2, rv2, p2, _⟩ := I.tuple hqy
    have l1 := rv.length
    have l2 := rv2.length
    refine zn_end (I.ok.hd hc) D Z p p2 (hend.imp (fun q => by simp; omega) (fun q => by simp; omega)) fun h2 hk => ⟨rfl, I.turnedL (t' := s.toks) (ch := [z, TI, TO, i1, i2]) (fun c o hb q => ?_) hf⟩
    exact hk c o (fun z => hb (by simp [z])) (fun z => hb (by simp [z])) (fun z => hb (by simp [z])) (fun z => hb (by simp [z])) q
  self := fun A i s Q E ⟨v, f, Z⟩ h => by
    have ty : s.TypeIs (.ref z) "zip" := ⟨_, Z.z, rfl⟩
    exact wpAny_pyIter_slot ty F.slot_zip_iter (wpAny_call_entry F.slot_zip_iter ty F.entry_zip_iter (show wpAny _ _ (ret (.ref z)) _ _ s from wpAny_pure ⟨_, rfl, "zip", _, ty, F.slot_zip_next.lookup, h⟩) (F.args_zip_iter_1 _))
section
variable {X : Cx} {E : EK} {pos p : Pos}
def iZipN (K : PySem.W.Frag) (ta : TA) : TI := fun σ H R => ta σ H fun vs H1 => ∃ a b xs ys, vs = [.ref a, .ref b] ∧ SqT K H1 a xs ∧ SqT K H1 b ys ∧ (xs.length ≤ sizeLine → R (ItzT K a b) H1)
theorem pi_zn {a b : Expr} {ta : TA} {nm : Str} {np : Pos} (hg : Gl X "zip") (hm : X.mg "zip" = none) (ha : PA X [a, b] ta) (hs : starEach [a, b] X.env = (false, eval a X.env) :: starEach [b] X.env := by rfl) (hpl : (backTo pos (starEach [b] X.env)).any (·.1) = false := by rfl) :
    PI X (.Name nm np) (.Call (.Name "zip" p) [a, b] [] pos) (iZipN X.K ta) := by
  refine ⟨fun pins s σ H R I h => Call_ (ld_blt I hg hm PyProof.Rows.boot_zip (PyProof.Rows.callWith_type1 (thn (ha.run pos pins s σ H _ I h) fun us s1 ⟨vs, H1, I1, r1, q1⟩ => ?_) hs hpl))⟩
  obtain ⟨c, d, xs, ys, ex, hqx, hqy, q⟩ := q1
  subst ex
  obtain ⟨u1, u2, rfl, r1, r2⟩ := r1.two
  cases r1
  cases r2
  obtain ⟨its, rv, p1, sz⟩ := I1.tuple hqx
  obtain ⟨its2, rv2, p2, _⟩ := I1.tuple hqy
  obtain ⟨o1, ho1, _⟩ := id p1
  obtain ⟨o2, ho2, _⟩ := id p2
  refine RZ.call_zipT p1 p2 fun h2 hz hTI hTO h1' h2' hsz hk => wpAny_pyIter_zip hz ?_
  refine ⟨s1.heap.objs.size + 4, [s1.heap.objs.size + 4, s1.heap.objs.size + 2, s1.heap.objs.size + 3, s1.heap.objs.size, s1.heap.objs.size + 1], _, _, H1, rfl, I1.kept (t' := s1.toks) hk,
    turn_zn (PySem.W.ktu_apart _ _ _ (Heap.lt_size ho1) (Heap.lt_size ho2)), ⟨.none, false, hz, .inl rfl, hTI, ⟨_, _, hTO⟩, h1', h2'⟩, fun k hkm => ?_, q sz⟩
  have : k = s1.heap.objs.size + 4 ∨ k = s1.heap.objs.size + 2 ∨ k = s1.heap.objs.size + 3 ∨ k = s1.heap.objs.size ∨ k = s1.heap.objs.size + 1 := by simpa using hkm
  have hle : s1.heap.objs.size ≤ k := by
    rcases this with z | z | z | z | z
    · rw [z]; exact Nat.le_add_right _ 4
    · rw [z]; exact Nat.le_add_right _ 2
    · rw [z]; exact Nat.le_add_right _ 3
    · rw [z]; exact Nat.le_refl _
    · rw [z]; exact Nat.le_add_right _ 1
  exact I1.fpOk hle (I1.hok.fresh hle)
def zipD (xs ys : List PyData) : List PyData := (List.zip xs ys).map fun p => .tuple [p.1, p.2]
def zipW : List W → Option (List PyData)
  | [.d (.tuple xs), .d (.tuple ys)] => some (zipD xs ys)
  | _ => none
def zipWL : List W → Option (List PyData)
  | [.d (.list xs), .d (.list ys)] => some (zipD xs ys)
  | [.d (.tuple xs), .d (.tuple ys)] => some (zipD xs ys)
  | _ => none
def dZip (as : DA) : DI := fun σ S => bnd (as σ S) fun ws S1 => giv ((zipW ws).map fun xs => (xs, none)) S1
def dZipL (as : DA) : DI := fun σ S => bnd (as σ S) fun ws S1 => giv ((zipWL ws).map fun xs => (xs, none)) S1
theorem zipD_get {xs ys : List PyData} {i : Nat} {d : PyData} (h : (zipD xs ys)[i]? = some d) : ∃ x y, xs[i]? = some x ∧ ys[i]? = some y ∧ d = .tuple [x, y] := by
  unfold zipD at h
  rw [List.getElem?_map] at h
  obtain ⟨⟨x, y⟩, h1, h2⟩ := Option.map_eq_some_iff.mp h
  obtain ⟨h3, h4⟩ := List.getElem?_zip_eq_some.mp h1
  exact ⟨x, y, h3, h4, h2.symm⟩
theorem zipD_len (xs ys : List PyData) : (zipD xs ys).length = min xs.length ys.length := by simp [zipD]
theorem pair_new {K : PySem.W.Frag} {H : Hp} {φ : Fi} {S : So} {T : Addr} {x y : PyData} {u v : V} (hs : SR K H φ S) (hT : H T = none) (hx : RD K H φ x u) (hy : RD K H φ y v) :
    Ext φ H φ (upd H T (.tup [u, v])) ∧ SR K (upd H T (.tup [u, v])) φ S ∧ RD K (upd H T (.tup [u, v])) φ (.tuple [x, y]) (.ref T) := by
  have e := Ext.new (o := .tup [u, v]) hT hs
  exact ⟨e, hs.new hT, T, [u, v], rfl, upd_same, u, [v], rfl, RD.mono e x u hx, v, [], rfl, RD.mono e y v hy, rfl⟩
theorem itzT_it {K : PySem.W.Frag} {a b : Addr} {us vs : List V} {xs ys : List PyData} {φ : Fi} {H : Hp} (h1 : TP K H a us) (h2 : TP K H b vs) (d1 : RDs K H φ xs us) (d2 : RDs K H φ ys vs) : ItD K (ItzT K a b) (zipD xs ys) none φ H where
  go := fun φ2 H2 S i d e s _ hi => by
    obtain ⟨x, y, g1, g2, rfl⟩ := zipD_get hi
    have f1 := (TP.mono e h1).sq
    have f2 := (TP.mono e h2).sq
    obtain ⟨u, q1, r1⟩ := (RDs.mono e _ _ d1).get g1
    obtain ⟨v, q2, r2⟩ := (RDs.mono e _ _ d2).get g2
    refine ⟨⟨us, vs, u, v, f1, f2, q1, q2⟩, fun w H' hy => ?_⟩
    obtain ⟨T, u', v', rfl, hT, rfl, k1, k2⟩ := hy
    have e1 : u' = u := Option.some.inj ((k1 _ f1).symm.trans q1)
    have e2 : v' = v := Option.some.inj ((k2 _ f2).symm.trans q2)
    subst e1; subst e2
    exact pair_new s hT r1 r2
  stop := fun φ2 H2 S e s _ => ⟨us, vs, (TP.mono e h1).sq, (TP.mono e h2).sq, by rw [d1.length, d2.length, zipD_len]; omega⟩
theorem itzL_it {K : PySem.W.Frag} {a b : Addr} {us vs : List V} {xs ys : List PyData} {φ : Fi} {H : Hp} (h1 : FL H φ a us) (h2 : FL H φ b vs) (d1 : RDs K H φ xs us) (d2 : RDs K H φ ys vs) : ItD K (Itz K a b) (zipD xs ys) none φ H where
  go := fun φ2 H2 S i d e s _ hi => by
    obtain ⟨x, y, g1, g2, rfl⟩ := zipD_get hi
    have f1 := FL.sq (K := K) (h1.mono e)
    have f2 := FL.sq (K := K) (h2.mono e)
    obtain ⟨u, q1, r1⟩ := (RDs.mono e _ _ d1).get g1
    obtain ⟨v, q2, r2⟩ := (RDs.mono e _ _ d2).get g2
    refine ⟨⟨us, vs, u, v, f1, f2, q1, q2⟩, fun w H' hy => ?_⟩
    obtain ⟨T, u', v', rfl, hT, rfl, k1, k2⟩ := hy
    have e1 : u' = u := Option.some.inj ((k1 _ f1).symm.trans q1)
    have e2 : v' = v := Option.some.inj ((k2 _ f2).symm.trans q2)
    subst e1; subst e2
    exact pair_new s hT r1 r2
  stop := fun φ2 H2 S e s _ => ⟨us, vs, (h1.mono e).sq, (h2.mono e).sq, by rw [d1.length, d2.length, zipD_len]; omega⟩
theorem i_zipN {a b : Expr} {das : DA} {nm : Str} {np : Pos} (hm : X.mg "zip" = none) (ha : SA X E [a, b] das) (hg : Gl X "zip" := by rfl) (hs : starEach [a, b] X.env = (false, eval a X.env) :: starEach [b] X.env := by rfl) (hpl : (backTo pos (starEach [b] X.env)).any (·.1) = false := by rfl) :
    SI X E (.Name nm np) (.Call (.Name "zip" p) [a, b] [] pos) (dZip das) := by
  refine PIw (pi_zn hg hm ha hs hpl) fun σV H R q => ?_
  obtain ⟨φ, σ, S, r', hs, hen, hd, hq⟩ := q
  unfold dZip at hd
  match ha : das σ S, hd with
  | none, hd => cases hd
  | some (.xc x S1), hd => cases hd; exact ⟨φ, σ, S, .xc x S1, hs, hen, ha, hq⟩
  | some (.ok ws S1), hd =>
    refine ⟨φ, σ, S, .ok ws S1, hs, hen, ha, fun φ1 H1 vs e1 s1 x1 => ?_⟩
    rw [bnd_ok] at hd
    match hg : zipW ws, hd with
    | none, hd => cases hd
    | some zs, hd =>
      cases hd
      unfold zipW at hg
      split at hg
      · cases hg
        obtain ⟨v, w, rfl, ⟨l1, u1, rfl, t1, r1⟩, ⟨l2, u2, rfl, t2, r2⟩⟩ := two_of x1
        refine ⟨l1, l2, u1, u2, rfl, t1.sq, t2.sq, fun hz => hq φ1 H1 _ e1 s1 (itzT_it t1 t2 r1 r2) ?_⟩
        rw [zipD_len, ← r1.length]
        exact Nat.le_trans (Nat.min_le_left _ _) hz
      · cases hg
def iZipB (K : PySem.W.Frag) (ta : TA) : TI := fun σ H R => ta σ H fun vs H1 => ∃ a b xs ys, vs = [.ref a, .ref b] ∧ ((SqL K H1 a xs ∧ SqL K H1 b ys ∧ (xs.length ≤ sizeLine → R (Itz K a b) H1)) ∨ (SqT K H1 a xs ∧ SqT K H1 b ys ∧ (xs.length ≤ sizeLine → R (ItzT K a b) H1)))
theorem pi_zt {a b : Expr} {ta : TA} {elts : List Expr} {kk : Nat} {tp : Pos} (hg : Gl X "zip") (hm : X.mg "zip" = none) (ha : PA X [a, b] ta) (hs : starEach [a, b] X.env = (false, eval a X.env) :: starEach [b] X.env := by rfl) (hpl : (backTo pos (starEach [b] X.env)).any (·.1) = false := by rfl) :
    PI X (.Tuple elts kk tp) (.Call (.Name "zip" p) [a, b] [] pos) (iZipB X.K ta) := by
  refine ⟨fun pins s σ H R I h => Call_ (ld_blt I hg hm PyProof.Rows.boot_zip (PyProof.Rows.callWith_type1 (thn (ha.run pos pins s σ H _ I h) fun us s1 ⟨vs, H1, I1, r1, q1⟩ => ?_) hs hpl))⟩
  obtain ⟨c, d, xs, ys, ex, q⟩ := q1
  subst ex
  obtain ⟨u1, u2, rfl, r1, r2⟩ := r1.two
  cases r1
  cases r2
  have fresh : ∀ k, k ∈ [s1.heap.objs.size + 4, s1.heap.objs.size + 2, s1.heap.objs.size + 3, s1.heap.objs.size, s1.heap.objs.size + 1] → FpOk X pins H1 k := fun k hkm => by
    have : k = s1.heap.objs.size + 4 ∨ k = s1.heap.objs.size + 2 ∨ k = s1.heap.objs.size + 3 ∨ k = s1.heap.objs.size ∨ k = s1.heap.objs.size + 1 := by simpa using hkm
    have hle : s1.heap.objs.size ≤ k := by
      rcases this with z | z | z | z | z
      · rw [z]; exact Nat.le_add_right _ 4
      · rw [z]; exact Nat.le_add_right _ 2
      · rw [z]; exact Nat.le_add_right _ 3
      · rw [z]; exact Nat.le_refl _
      · rw [z]; exact Nat.le_add_right _ 1
    exact I1.fpOk hle (I1.hok.fresh hle)
  rcases q with ⟨hqx, hqy, q⟩ | ⟨hqx, hqy, q⟩
  · obtain ⟨its, rv, p1, sz⟩ := I1.list hqx
    obtain ⟨its2, rv2, p2, _⟩ := I1.list hqy
    refine call_zip_2 p1.isList p2.isList fun h2 hz hTI hTO h1' h2' hsz hk => wpAny_pyIter_zip hz ?_
    exact ⟨s1.heap.objs.size + 4, [s1.heap.objs.size + 4, s1.heap.objs.size + 2, s1.heap.objs.size + 3, s1.heap.objs.size, s1.heap.objs.size + 1], _, _, H1, rfl, I1.kept (t' := s1.toks) hk,
      turn_zip (PySem.W.ktu_apart _ _ _ p1.lt p2.lt), ⟨hz, hTI, ⟨_, _, hTO⟩, h1', h2'⟩, fresh, q sz⟩
  · obtain ⟨its, rv, p1, sz⟩ := I1.tuple hqx
    obtain ⟨its2, rv2, p2, _⟩ := I1.tuple hqy
    obtain ⟨o1, ho1, _⟩ := id p1
    obtain ⟨o2, ho2, _⟩ := id p2
    refine RZ.call_zipT p1 p2 fun h2 hz hTI hTO h1' h2' hsz hk => wpAny_pyIter_zip hz ?_
    exact ⟨s1.heap.objs.size + 4, [s1.heap.objs.size + 4, s1.heap.objs.size + 2, s1.heap.objs.size + 3, s1.heap.objs.size, s1.heap.objs.size + 1], _, _, H1, rfl, I1.kept (t' := s1.toks) hk,
      RZ.turn_zipT (PySem.W.ktu_apart _ _ _ (Heap.lt_size ho1) (Heap.lt_size ho2)), ⟨hz, hTI, ⟨_, _, hTO⟩, h1', h2'⟩, fresh, q sz⟩
theorem i_zipT {a b : Expr} {das : DA} {elts : List Expr} {kk : Nat} {tp : Pos} (hm : X.mg "zip" = none) (ha : SA X E [a, b] das) (hg : Gl X "zip" := by rfl) (hs : starEach [a, b] X.env = (false, eval a X.env) :: starEach [b] X.env := by rfl) (hpl : (backTo pos (starEach [b] X.env)).any (·.1) = false := by rfl) :
    SI X E (.Tuple elts kk tp) (.Call (.Name "zip" p) [a, b] [] pos) (dZipL das) := by
  refine PIw (pi_zt hg hm ha hs hpl) fun σV H R q => ?_
  obtain ⟨φ, σ, S, r', hs, hen, hd, hq⟩ := q
  unfold dZipL at hd
  match ha : das σ S, hd with
  | none, hd => cases hd
  | some (.xc x S1), hd => cases hd; exact ⟨φ, σ, S, .xc x S1, hs, hen, ha, hq⟩
  | some (.ok ws S1), hd =>
    refine ⟨φ, σ, S, .ok ws S1, hs, hen, ha, fun φ1 H1 vs e1 s1 x1 => ?_⟩
    rw [bnd_ok] at hd
    match hg : zipWL ws, hd with
    | none, hd => cases hd
    | some zs, hd =>
      cases hd
      unfold zipWL at hg
      split at hg
      · cases hg
        obtain ⟨v, w, rfl, ⟨l1, u1, rfl, t1, r1⟩, ⟨l2, u2, rfl, t2, r2⟩⟩ := two_of x1
        refine ⟨l1, l2, u1, u2, rfl, .inl ⟨t1.sq, t2.sq, fun hz => hq φ1 H1 _ e1 s1 (itzL_it t1 t2 r1 r2) ?_⟩⟩
        rw [zipD_len, ← r1.length]
        exact Nat.le_trans (Nat.min_le_left _ _) hz
      · cases hg
        obtain ⟨v, w, rfl, ⟨l1, u1, rfl, t1, r1⟩, ⟨l2, u2, rfl, t2, r2⟩⟩ := two_of x1
        refine ⟨l1, l2, u1, u2, rfl, .inr ⟨t1.sq, t2.sq, fun hz => hq φ1 H1 _ e1 s1 (itzT_it t1 t2 r1 r2) ?_⟩⟩
        rw [zipD_len, ← r1.length]
        exact Nat.le_trans (Nat.min_le_left _ _) hz
      · cases hg
end
end CL
end

section
/-! part CLSet -/
set_option Elab.async false
set_option linter.all false
set_option maxRecDepth 100000
set_option maxHeartbeats 4000000
/-! CLSet: set(xs) of texts, as far as len goes. -/
namespace CL
open PySem PySem.Spec PyProof.Rows L2
/-- the texts of a list, each once, in order -/
def onceS (acc : List Str) (x : Str) : List Str := if acc.any (· == x) = true then acc else acc ++ [x]
def once (xs : List Str) : List Str := xs.foldl onceS []
theorem onceS_any (acc : List Str) (x k : Str) : (onceS acc x).any (· == k) = (acc.any (· == k) || decide (k = x)) := by
  unfold onceS
  by_cases h : acc.any (· == x) = true
  · rw [if_pos h]
    by_cases e : k = x
    · subst e; rw [h]; rfl
    · rw [decide_eq_false e, Bool.or_false]
  · rw [if_neg h, List.any_append]
    by_cases e : k = x
    · subst e; simp
    · rw [decide_eq_false e]
      have : (x == k) = false := beq_eq_false_iff_ne.mpr (Ne.symm e)
      simp [this]
theorem onceS_len (acc : List Str) (x : Str) : (onceS acc x).length = if acc.any (· == x) = true then acc.length else acc.length + 1 := by
  unfold onceS; split <;> simp
theorem once_le (xs : List Str) : ∀ acc : List Str, (xs.foldl onceS acc).length ≤ acc.length + xs.length := by
  induction xs with
  | nil => intro acc; simp
  | cons x xs ih =>
    intro acc
    have h1 := ih (onceS acc x)
    have h2 := onceS_len acc x
    rw [List.foldl_cons, List.length_cons]
    split at h2 <;> omega
theorem once_take (xs : List Str) {i : Nat} {x : Str} (h : xs[i]? = some x) : once (xs.take (i + 1)) = onceS (once (xs.take i)) x := by
  unfold once
  rw [List.take_add_one, h, List.foldl_append]
  rfl
theorem textsAt : ∀ {vs : List Value} {xs : List Str}, StrsAre vs xs → ∀ {i : Nat} {v : Value}, vs[i]? = some v → ∃ x t, xs[i]? = some x ∧ v = .str x t
  | _, _, .nil, _, _, h => by simp at h
  | _, _, .cons n t _, 0, _, h => ⟨n, t, rfl, (Option.some.inj h).symm⟩
  | _, _, .cons _ _ r, _ + 1, _, h => textsAt r (by simpa using h)
section
variable {P : Program} {w : World} {A : Around} {E : Value → Shared → Prop} {s : Shared}
abbrev TxtSet (P : Program) (w : World) (h : Heap) (a : Addr) (xs : List Str) : Prop := h.SetOf (PySem.strKind P w) a (fun k => (once xs).any (· == k)) (once xs).length
theorem TxtSet.at_ {h h' : Heap} {a : Addr} {xs : List Str} (q : TxtSet P w h a xs) (k : ∀ o, h.get? a = some o → h'.get? a = some o) : TxtSet P w h' a xs := by
  obtain ⟨o, es, ep, t, ho, r⟩ := q
  exact ⟨o, es, ep, t, k o ho, r⟩
theorem txt_loop {R : Result → Shared → Prop} {I : Addr} {fp wr : List Addr} {G : Array GenState → Array GenState → Prop} {n : Nat} {Pv : Nat → Value → Prop} {St : Nat → Shared → Prop} (W : WalksS P w A.in1 I fp wr G n Pv St) (Z : Addr) (hZ : Z ∉ fp)
    (xs : List Str) (hn : n = xs.length) (hv : ∀ i v, Pv i v → ∃ x t, xs[i]? = some x ∧ v = .str x t) (hb : n + 1 < scanBound) (m : Nat) :
    ∀ (i : Nat) (s : Shared), i + m = n → St i s → TxtSet P w s.heap Z (xs.take i) → (∀ s', Moved (Z :: wr) G s s' → TxtSet P w s'.heap Z xs → R (.ok (.ret .none)) s') →
      codeAny (model P w) A (.builtin "set.update.loop" ⟨[.ref Z, .ref I], []⟩) R s := by
  have hZw : Z ∉ wr := fun h => hZ (W.sub _ h)
  have up : ∀ b ∈ wr, b ∈ Z :: wr := fun b h => List.mem_cons_of_mem _ h
  induction m with
  | zero =>
    intro i s hi st hS hR
    have ei : i = n := by omega
    subst ei
    refine codeAny_builtin PyProof.Rows.F.entry_set_update_loop ?_
    rw [Around.under_plainId PyProof.Rows.F.plain_set_update_loop _]
    refine wpAny_bind (m := pyNext (.ref I)) (W.done s _ _ st fun s' mv => wpAny_pure (hR s' (mv.mono up) ?_))
    have q := hS.at_ fun o ho => mv.heap Z o hZw ho
    rw [hn, List.take_length] at q
    exact q
  | succ m ih =>
    intro i s hi st hS hR
    refine codeAny_builtin PyProof.Rows.F.entry_set_update_loop ?_
    rw [Around.under_plainId PyProof.Rows.F.plain_set_update_loop _]
    refine wpAny_bind (m := pyNext (.ref I)) (W.item i s _ _ (by omega) st fun v s' pv st' mv => ?_)
    obtain ⟨x, t, hx, rfl⟩ := hv i v pv
    have hS1 := hS.at_ fun o ho => mv.heap Z o hZw ho
    have room : (once (xs.take i)).length + 1 < scanBound := by
      have := once_le (xs.take i) []
      have l2 : (xs.take i).length ≤ i := by rw [List.length_take]; exact Nat.min_le_left _ _
      have l3 : (once (xs.take i)).length ≤ i := by unfold once; simp only [List.length_nil] at this; omega
      omega
    refine wpAny_bind (m := holding [Value.str x t] (setAdd Z (.str x t))) (wpAny_holding ?_)
    unfold setAdd
    refine wpAny_holding (wpAny_bind ((PySem.strKind P w).pyHash (k := x) (strKind_is _ _ _ _) ?_))
    refine wpAny_setAddHashed_of (knd := PySem.strKind P w) (s := { s' with toks := s'.toks + 1 }) (strKind_is _ _ _ _) rfl hS1 room fun h' sb hS2 => ?_
    have hS3 : TxtSet P w h' Z (xs.take (i + 1)) := by
      rw [TxtSet, once_take xs hx]
      exact SetOf_congr hS2 (fun k => (onceS_any _ x k).symm) (onceS_len _ x).symm
    refine wpAny_pure ⟨plainId_quiet PyProof.Rows.F.plain_set_update_loop _, ih (i + 1) _ (by omega) (W.frame _ s' _ _ st' (Nat.le_succ _) fun b hb' o eo => ?_) hS3 fun s2 mv2 q => hR s2 (Moved.trans W.gtrans ((mv.mono up).then_heap (Nat.le_succ _) fun b o hb' eo => ?_) mv2) q⟩
    · rw [sb.2 b fun e : b = Z => hZ (e ▸ hb')]; exact eo
    · rw [sb.2 b fun e : b = Z => hb' (e ▸ List.mem_cons_self)]; exact eo
/-- set(l) of a list of texts -/
theorem set_texts {l : Addr} {its : Array Value} {xs : List Str} {Q : Value → Shared → Prop} (h0 : A.handled = none) (hl : s.heap.IsList l its) (hi : StrsAre its.toList xs) (hb : xs.length + 1 < scanBound)
    (hQ : ∀ (h2 : Heap) (tk : Nat), TxtSet P w h2 s.heap.objs.size xs → (∀ b o, b < s.heap.objs.size → s.heap.get? b = some o → h2.get? b = some o) → Q (.ref s.heap.objs.size) { s with heap := h2, toks := tk }) :
    wpAny (model P w) A (call (.type "set") [.ref l]) Q E s := by
  obtain ⟨m0, m1, m2⟩ := F.called_set.mro
  have y1 := F.called_set.made; have y2 := F.called_set.sub; have y3 := F.called_set.notType; have y4 := F.called_set.canCreate; have y5 := F.typeCall_set_1 (.ref l)
  refine wpAny_call (codeAny_of_tree (show wpAny _ _ (callAny (.type "set") _) _ _ _ from wpAny_pure ⟨Code.quiet_builtin _ (by decide +kernel), codeAny_builtin F.entry_type_call ?_⟩))
  rw [Around.under_plain (weight_type_call_type "set" [Value.ref l] ([] : List (Str × Value))) rfl]
  repeat (any_goals (first | wp_step | assumption))
  let H0 : Bool → Heap := fun led => s.heap.push { cls := .type "set", dict := none, data := .set #[] 0 (.fresh 0 0 led) }
  refine codeAny_mono (code_set_new_1 (Value.ref l) (E := E) (Q₁ := fun u s1 => ∃ led : Bool, u = .ref s.heap.objs.size ∧ s1 = { s with heap := H0 led }) fun led => ⟨led, rfl, rfl⟩) fun r s1 hr => ?_
  match r, hr with
  | .error e, hr => exact hr
  | .ok .next, hr => exact hr.elim
  | .ok .brk, hr => exact hr.elim
  | .ok .cont, hr => exact hr.elim
  | .ok (.ret u), hr =>
    obtain ⟨led, e1, e2⟩ := hr
    subst e1; subst e2
    have g0 : (H0 led).get? s.heap.objs.size = some { cls := .type "set", dict := none, data := .set #[] 0 (.fresh 0 0 led) } := Heap.get?_push_size _ rfl
    have t0 : Shared.TypeIs { s with heap := H0 led } (.ref s.heap.objs.size) "set" := ⟨_, g0, rfl⟩
    have i1 := F.called_set.init.lookup; have i2 := F.called_set.init.bind (Value.ref s.heap.objs.size)
    repeat (any_goals (first | wp_step | assumption))
    refine codeAny_mono (codeAny_call_builtin (R := wants (fun r s2 => r = .none ∧ ∃ h2 tk, s2 = { s with heap := h2, toks := tk } ∧ TxtSet P w h2 s.heap.objs.size xs ∧ ∀ b o, b < s.heap.objs.size → s.heap.get? b = some o → h2.get? b = some o) E)
      F.called_set.init.plain F.entry_set_init (check_set_init_1 t0 ?_)) fun r2 s2 hr2 => ?_
    · obtain ⟨⟨oc, od, oda, osl⟩, ho, hc, nl, hd⟩ := id hl
      dsimp only at hc hd
      subst hc hd
      have g1 : (H0 led).get? l = some { cls := .type "list", dict := od, data := .seq its nl, slots := osl } := Heap.get?_push_of_some _ ho
      have z1 := F.sub_list_set; have z2 := F.sub_list_frozenset
      have z3 : (Value.type "list" == Value.type "dict") = false := by decide
      have l1 : (H0 led).IsList l its := ⟨_, g1, rfl, nl, rfl⟩
      have lS : l < s.heap.objs.size := Heap.lt_size ho
      have sz : (H0 led).objs.size = s.heap.objs.size + 1 := Heap.size_push _ _
      unfold Builtin.«set.__init__» noKeywords Builtin.Frozenset.updateFrom
      generalize hPy : pyIter = Py
      wp_walk
      subst hPy
      refine wpAny_pyIter_list l1 (wpAny_bind (wpAny_runValue ?_))
      have len : xs.length = its.size := by rw [← StrsAre.len_eq hi, Array.length_toList]
      have nI : l ≠ (H0 led).objs.size := by rw [sz]; exact Nat.ne_of_lt (Nat.lt_succ_of_lt lS)
      have nS : s.heap.objs.size ∉ [(H0 led).objs.size, l] := by
        rw [sz]
        intro hm
        rcases List.mem_cons.mp hm with e | hm
        · exact Nat.ne_of_lt (Nat.lt_succ_self _) e
        · exact Nat.ne_of_gt lS (List.mem_singleton.mp hm)
      refine txt_loop ((Walks.list (by simp [h0]) _ l nI its).toS) s.heap.objs.size nS xs len.symm (fun i v hv => textsAt hi (by rw [Array.getElem?_toList]; exact hv)) (by rw [← len]; exact hb) its.size 0 _ (by omega)
        ⟨⟨_, Heap.get?_push_size _ rfl, rfl, rfl⟩, l1.push _⟩ ?_ fun s' mv q => ?_
      · exact SetOf_congr ((setObjOf_fresh (knd := PySem.strKind P w) led).setOf (Heap.get?_push_of_some _ g0) (by unfold scanBound; omega)) (fun _ => rfl) rfl
      · obtain ⟨h2, gg, dd, tk, os⟩ := s'
        have e1 : gg = s.gens := mv.gens
        have e2 : dd = s.drawn := mv.drawn
        have e3 : os = s.os := mv.os
        subst e1; subst e2; subst e3
        refine wpAny_pure (wpAny_pure ⟨rfl, h2, tk, rfl, q, fun b o hb' e => mv.heap b o (fun hm => ?_) (Heap.get?_push_of_some _ (Heap.get?_push_of_some _ e))⟩)
        rcases List.mem_cons.mp hm with e4 | hm
        · exact Nat.ne_of_lt hb' e4
        · have e5 := List.mem_singleton.mp hm
          rw [sz] at e5
          exact Nat.ne_of_lt (Nat.lt_succ_of_lt hb') e5
    · match r2, hr2 with
      | .error e, hr2 => exact hr2
      | .ok .next, hr2 => exact hr2.elim
      | .ok .brk, hr2 => exact hr2.elim
      | .ok .cont, hr2 => exact hr2.elim
      | .ok (.ret v), hr2 =>
        obtain ⟨rfl, h2, tk, rfl, q, k⟩ := hr2
        repeat (any_goals (first | wp_step | assumption))
        exact hQ _ _ q k
end
end CL
end

section
/-! part CLDict -/
set_option Elab.async false
set_option linter.all false
set_option maxRecDepth 100000
set_option maxHeartbeats 1000000
/-! CLDict: dicts with keys of ints and texts, and with tuples of such. -/
namespace CL
open PySem PySem.Spec PyProof.Rows L2

section
variable {κ : Type} [DecidableEq κ]
def valD (kvs : List (κ × PyData)) (k : κ) : Option PyData := (kvs.find? fun kv => decide (kv.1 = k)).map (·.2)
def putD (kvs : List (κ × PyData)) (k : κ) (v : PyData) : List (κ × PyData) :=
  if (kvs.any fun kv => decide (kv.1 = k)) = true then kvs.map (fun kv => if kv.1 = k then (kv.1, v) else kv) else kvs ++ [(k, v)]
/-- the entries stand for the data -/
def KR (K : PySem.W.Frag) (H : Hp) (φ : Fi) : List (κ × PyData) → List (κ × V) → Prop
  | [], es => es = []
  | p :: r, es => ∃ v t, es = (p.1, v) :: t ∧ RD K H φ p.2 v ∧ KR K H φ r t
variable {K : PySem.W.Frag} {H : Hp} {φ : Fi}
theorem KR.of : ∀ {kvs : List (κ × PyData)} {es : List (κ × V)}, es.map (·.1) = kvs.map (·.1) → RDs K H φ (kvs.map (·.2)) (es.map (·.2)) → KR K H φ kvs es
  | [], [], _, _ => rfl
  | [], _ :: _, h, _ => by simp at h
  | _ :: _, [], h, _ => by simp at h
  | (k, x) :: kvs, (j, v) :: es, h, ⟨u, t, e, h1, h2⟩ => by
    simp at h e
    obtain ⟨e1, e2⟩ := h
    obtain ⟨e3, e4⟩ := e
    subst e1; subst e3; subst e4
    exact ⟨v, es, rfl, h1, KR.of (by simpa using e2) h2⟩
theorem KR.to : ∀ {kvs : List (κ × PyData)} {es : List (κ × V)}, KR K H φ kvs es → es.map (·.1) = kvs.map (·.1) ∧ RDs K H φ (kvs.map (·.2)) (es.map (·.2))
  | [], _, h => by cases h; exact ⟨rfl, rfl⟩
  | p :: kvs, _, ⟨v, t, e, h1, h2⟩ => by
    subst e
    obtain ⟨q1, q2⟩ := KR.to h2
    exact ⟨by simp [q1], v, t.map (·.2), by simp, h1, q2⟩
theorem KR.length : ∀ {kvs : List (κ × PyData)} {es : List (κ × V)}, KR K H φ kvs es → es.length = kvs.length
  | [], _, h => by cases h; rfl
  | p :: kvs, _, ⟨v, t, e, h1, h2⟩ => by subst e; simp [KR.length h2]
theorem KR.val {k : κ} : ∀ {kvs : List (κ × PyData)} {es : List (κ × V)} {x : PyData}, KR K H φ kvs es → valD kvs k = some x → ∃ v, valV es k = some v ∧ RD K H φ x v
  | [], _, _, _, e => by simp [valD] at e
  | p :: kvs, _, x, ⟨v, t, e, h1, h2⟩, e2 => by
    subst e
    unfold valD at e2
    by_cases q : p.1 = k
    · simp [List.find?_cons, q] at e2
      subst e2
      exact ⟨v, valV_pos (p := (p.1, v)) q, h1⟩
    · simp only [List.find?_cons, decide_eq_false q] at e2
      obtain ⟨u, q1, q2⟩ := KR.val h2 e2
      exact ⟨u, by rw [valV_neg (p := (p.1, v)) q]; exact q1, q2⟩
theorem KR.none {k : κ} : ∀ {kvs : List (κ × PyData)} {es : List (κ × V)}, KR K H φ kvs es → valD kvs k = Option.none → valV es k = Option.none
  | [], _, h, _ => by cases h; rfl
  | p :: kvs, _, ⟨v, t, e, h1, h2⟩, e2 => by
    subst e
    unfold valD at e2
    by_cases q : p.1 = k
    · simp [List.find?_cons, q] at e2
    · simp only [List.find?_cons, decide_eq_false q] at e2
      rw [valV_neg (p := (p.1, v)) q]
      exact KR.none h2 e2
theorem KR.any {k : κ} : ∀ {kvs : List (κ × PyData)} {es : List (κ × V)}, KR K H φ kvs es → (es.any fun kv => decide (kv.1 = k)) = kvs.any fun kv => decide (kv.1 = k)
  | [], _, h => by cases h; rfl
  | p :: kvs, _, ⟨v, t, e, h1, h2⟩ => by subst e; simp only [List.any_cons]; rw [KR.any h2]
theorem KR.repl {k : κ} {x : PyData} {u : V} (hx : RD K H φ x u) : ∀ {kvs : List (κ × PyData)} {es : List (κ × V)}, KR K H φ kvs es → KR K H φ (kvs.map fun kv => if kv.1 = k then (kv.1, x) else kv) (es.map fun kv => if kv.1 = k then (kv.1, u) else kv)
  | [], _, h => by cases h; rfl
  | p :: kvs, _, ⟨v, t, e, h1, h2⟩ => by
    subst e
    simp only [List.map_cons]
    by_cases q : p.1 = k
    · rw [if_pos q, if_pos q]; exact ⟨u, _, rfl, hx, KR.repl hx h2⟩
    · rw [if_neg q, if_neg q]; exact ⟨v, _, rfl, h1, KR.repl hx h2⟩
theorem KR.snoc {k : κ} {x : PyData} {u : V} (hx : RD K H φ x u) : ∀ {kvs : List (κ × PyData)} {es : List (κ × V)}, KR K H φ kvs es → KR K H φ (kvs ++ [(k, x)]) (es ++ [(k, u)])
  | [], _, h => by cases h; exact ⟨u, [], rfl, hx, rfl⟩
  | p :: kvs, _, ⟨v, t, e, h1, h2⟩ => by subst e; exact ⟨v, _, rfl, h1, KR.snoc hx h2⟩
theorem KR.put {k : κ} {x : PyData} {u : V} {kvs : List (κ × PyData)} {es : List (κ × V)} (h : KR K H φ kvs es) (hx : RD K H φ x u) : KR K H φ (putD kvs k x) (putK es k u) := by
  unfold putD putK
  rw [h.any]
  split
  · exact h.repl hx
  · exact h.snoc hx
theorem KR.mono {H' : Hp} {φ' : Fi} (e : Ext φ H φ' H') : ∀ {kvs : List (κ × PyData)} {es : List (κ × V)}, KR K H φ kvs es → KR K H' φ' kvs es
  | [], _, h => h
  | p :: kvs, _, ⟨v, t, e1, h1, h2⟩ => ⟨v, t, e1, RD.mono e _ _ h1, KR.mono e h2⟩
end
section
variable {K : PySem.W.Frag} {H : Hp} {φ : Fi} {S : So} {n : Nat} {a : Addr}
theorem SR.dk {kvs : List (Key × PyData)} (hs : SR K H φ S) (ha : φ.l[n]? = some a) (h : S[n]? = some (.dk kvs)) : ∃ es, H a = some (.dK es) ∧ KR K H φ kvs es := by
  obtain ⟨es, h1, h2, h3⟩ := hs.ob n a _ ha h
  exact ⟨es, h1, .of h2 h3⟩
theorem SR.dt {kvs : List (List Key × PyData)} (hs : SR K H φ S) (ha : φ.l[n]? = some a) (h : S[n]? = some (.dt kvs)) : ∃ es, H a = some (.dT es) ∧ KR K H φ kvs es := by
  obtain ⟨es, h1, h2, h3⟩ := hs.ob n a _ ha h
  exact ⟨es, h1, .of h2 h3⟩
theorem OR.dk' {kvs : List (Key × PyData)} {es : List (Key × V)} (h : H a = some (.dK es)) (k : KR K H φ kvs es) : OR K H φ a (.dk kvs) := ⟨es, h, k.to.1, k.to.2⟩
theorem OR.dt' {kvs : List (List Key × PyData)} {es : List (List Key × V)} (h : H a = some (.dT es)) (k : KR K H φ kvs es) : OR K H φ a (.dt kvs) := ⟨es, h, k.to.1, k.to.2⟩
end
/-! ### keys -/
def keyD : Key → PyData
  | .inl i => .int i
  | .inr x => .str x
def keyP : PyData → Option Key
  | .int i => some (.inl i)
  | .str x => some (.inr x)
  | _ => none
def keysP : List PyData → Option (List Key)
  | [] => some []
  | x :: r => match keyP x, keysP r with
    | some k, some ks => some (k :: ks)
    | _, _ => none
section
variable {K : PySem.W.Frag} {H : Hp} {φ : Fi}
theorem keyP_of {x : PyData} {k : Key} {v : V} (h : RD K H φ x v) (e : keyP x = some k) : v = kV k := by
  cases x <;> simp [keyP] at e
  · subst e; exact h
  · subst e; exact h
theorem keysP_of : ∀ {xs : List PyData} {ks : List Key} {vs : List V}, RDs K H φ xs vs → keysP xs = some ks → vs = ks.map kV
  | [], _, _, h, e => by cases e; exact h
  | x :: xs, ks, _, ⟨v, t, e1, h1, h2⟩, e => by
    unfold keysP at e
    match hk : keyP x, hr : keysP xs, e with
    | some k, some r, e => cases e; subst e1; rw [keyP_of h1 hk, keysP_of h2 hr]; rfl
    | none, _, e => cases e
    | some _, none, e => cases e
theorem keyD_rd (k : Key) : RD K H φ (keyD k) (kV k) := by cases k <;> rfl
theorem keysD_rd : ∀ ks : List Key, RDs K H φ (ks.map keyD) (ks.map kV)
  | [] => rfl
  | k :: ks => ⟨kV k, _, rfl, keyD_rd k, keysD_rd ks⟩
end
/-- which entry a key asks for -/
def dgetW (S : So) : W → W → Option W
  | .r n, .d y => match S[n]? with
    | some (.dk kvs) => (keyP y).bind fun k => (valD kvs k).map W.d
    | some (.dt kvs) => match y with
      | .tuple ys => (keysP ys).bind fun k => (valD kvs k).map W.d
      | _ => none
    | _ => none
  | _, _ => none
def dputW (S : So) : W → W → W → Option So
  | .r n, .d y, .d x => match S[n]? with
    | some (.dk kvs) => if small (kvs.length + 1) = true then (keyP y).map fun k => S.set n (.dk (putD kvs k x)) else none
    | some (.dt kvs) => match y with
      | .tuple ys => if small (kvs.length + 1) = true then (keysP ys).map fun k => S.set n (.dt (putD kvs k x)) else none
      | _ => none
    | _ => none
  | _, _, _ => none
section
variable {X : Cx} {E : EK} {pos p pos' : Pos} {o i value : Expr} {dd di dv : DE}
theorem tE2 {da db : DE} {W0 : W → W → So → Option (RE W)} {R : V → V → Hp → VK → Prop} (σV : L2.St) (H : Hp) (Q : VK) (h : tE X.K X.mg E (fun σ S => bnd (da σ S) fun x S1 => bnd (db σ S1) fun y S2 => W0 x y S2) σV H Q)
    (k : ∀ φ H S x y v u r Q, SR X.K H φ S → RW X.K H φ X.mg x v → RW X.K H φ X.mg y u → W0 x y S = some r → oE X.K X.mg (E σV) φ H Q r → R v u H Q) :
    tE X.K X.mg E da σV H fun v H1 => tE X.K X.mg E db σV H1 fun u H2 => R v u H2 Q := by
  obtain ⟨φ, σ, S, r', hs, he, hd, hq⟩ := h
  have hd : bnd (da σ S) (fun x S1 => bnd (db σ S1) fun y S2 => W0 x y S2) = some r' := hd
  match ha : da σ S, hd with
  | none, hd => cases hd
  | some (.xc x S1), hd => cases hd; exact ⟨φ, σ, S, .xc x S1, hs, he, ha, hq⟩
  | some (.ok x S1), hd =>
    refine ⟨φ, σ, S, .ok x S1, hs, he, ha, fun φ1 H1 v1 e1 s1 x1 => ?_⟩
    have hd : bnd (db σ S1) (fun y S2 => W0 x y S2) = some r' := hd
    match hb : db σ S1, hd with
    | none, hd => cases hd
    | some (.xc y S2), hd => cases hd; exact ⟨φ1, σ, S1, .xc y S2, s1, he.mono e1, hb, XR.keep e1 hq⟩
    | some (.ok y S2), hd =>
      refine ⟨φ1, σ, S1, .ok y S2, s1, he.mono e1, hb, fun φ2 H2 v2 e2 s2 y2 => ?_⟩
      have hd : W0 x y S2 = some r' := hd
      refine k φ2 H2 S2 x y v1 v2 r' Q s2 (x1.mono e2) y2 hd ?_
      have e12 := e1.trans e2
      cases r' with
      | ok w S3 => exact fun φ' H' v e' => hq φ' H' v (e12.trans e')
      | xc z S3 => exact XR.keep e12 hq
def dGet (d i : DE) : DE := fun σ S => bnd (d σ S) fun x S1 => bnd (i σ S1) fun y S2 => giv (dgetW S2 x y) S2
theorem e_dget (hu : X.A.units + 1 < cLine) (ho : SE X E o dd) (hi : SE X E i di) (hp : NoSl i := by intro _ _; rfl) : SE X E (.Subscript o i pos) (dGet dd di) := by
  refine PEw (pe_dget hu ho hi hp) fun σV H Q h => tE2 (W0 := fun x y S => giv (dgetW S x y) S) (R := fun v u H2 Q => ∃ a w, v = .ref a ∧ DGet H2 a u (some w) ∧ Q w H2) σV H Q h fun φ H S x y v u r Q hs hx hy hg hq => ?_
  match hw : dgetW S x y, hg with
  | none, hg => cases hg
  | some w, hg =>
    cases hg
    unfold dgetW at hw
    split at hw
    · rename_i n y
      obtain ⟨a, ha, rfl⟩ := hx
      split at hw
      · rename_i kvs hS
        obtain ⟨es, h1, h2⟩ := hs.dk ha hS
        obtain ⟨k, h3, h4⟩ := Option.bind_eq_some_iff.mp hw
        obtain ⟨z, h5, h6⟩ := Option.map_eq_some_iff.mp h4
        subst h6
        obtain ⟨w, h7, h8⟩ := h2.val h5
        refine ⟨a, w, rfl, ?_, hq φ H w .refl hs h8⟩
        rw [keyP_of hy h3, ← h7]
        exact DGet.k h1
      · rename_i kvs hS
        split at hw
        · rename_i ys
          obtain ⟨es, h1, h2⟩ := hs.dt ha hS
          obtain ⟨k, h3, h4⟩ := Option.bind_eq_some_iff.mp hw
          obtain ⟨z, h5, h6⟩ := Option.map_eq_some_iff.mp h4
          subst h6
          obtain ⟨w, h7, h8⟩ := h2.val h5
          obtain ⟨b, us, rfl, h9, h10⟩ := hy
          refine ⟨a, w, rfl, ?_, hq φ H w .refl hs h8⟩
          rw [← h7]
          exact DGet.t h1 (by rw [← keysP_of h10 h3]; exact h9)
        · cases hw
      · cases hw
    · cases hw
/-- d[i] = value -/
def sPut (d i v : DE) : DS := fun σ S => bndS σ (v σ S) fun x S1 => bndS σ (d σ S1) fun z S2 => bndS σ (i σ S2) fun y S3 => (dputW S3 z y x).map fun S4 => .nx σ S4
theorem dput_ok {φ : Fi} {H : Hp} {S S4 : So} {z y x : W} {vz vy vx : V} (hs : SR X.K H φ S) (hz : RW X.K H φ X.mg z vz) (hy : RW X.K H φ X.mg y vy) (hx : RW X.K H φ X.mg x vx) (h : dputW S z y x = some S4) :
    ∃ a H', vz = .ref a ∧ DPut H a vy vx H' ∧ Ext φ H φ H' ∧ SR X.K H' φ S4 := by
  unfold dputW at h
  split at h
  · rename_i n y x
    obtain ⟨a, ha, rfl⟩ := hz
    split at h
    · rename_i kvs hS
      split at h
      · rename_i hz
        obtain ⟨k, h3, h4⟩ := Option.map_eq_some_iff.mp h
        subst h4
        obtain ⟨es, h1, h2⟩ := hs.dk ha hS
        have hl : es.length < sizeLine := by rw [h2.length]; exact small_le hz
        have e := Ext.wr (o := .dK (putK es k vx)) hs ha (by rw [hS]; trivial)
        refine ⟨a, _, rfl, ?_, e, hs.wr ha (by rw [hS]; trivial) (.dk' upd_same ((h2.mono e).put (RD.mono e _ _ hx)))⟩
        rw [keyP_of hy h3]
        exact DPut.k h1 hl
      · cases h
    · rename_i kvs hS
      split at h
      · rename_i ys
        split at h
        · rename_i hz
          obtain ⟨k, h3, h4⟩ := Option.map_eq_some_iff.mp h
          subst h4
          obtain ⟨es, h1, h2⟩ := hs.dt ha hS
          have hl : es.length < sizeLine := by rw [h2.length]; exact small_le hz
          have e := Ext.wr (o := .dT (putK es k vx)) hs ha (by rw [hS]; trivial)
          obtain ⟨b, us, rfl, h9, h10⟩ := hy
          exact ⟨a, _, rfl, DPut.t h1 (by rw [← keysP_of h10 h3]; exact h9) hl, e, hs.wr ha (by rw [hS]; trivial) (.dt' upd_same ((h2.mono e).put (RD.mono e _ _ hx)))⟩
        · cases h
      · cases h
    · cases h
  · cases h
theorem s_put (hu : X.A.units + 1 < cLine) (ho : SE X E o dd) (hi : SE X E i di) (hv : SE X E value dv) (hs : swapsWith value (some (.Subscript o i pos')) pos.line X.env = pure false := by rfl) : SS X E (.Assign [.Subscript o i pos'] value pos) (sPut dd di dv) := by
  refine PSw (ps_dput hu ho hi hv hs) fun D σV H q => ?_
  obtain ⟨φ, σ, S, r, hs, he, hd, hq⟩ := q
  unfold sPut at hd
  match ha : dv σ S, hd with
  | none, hd => cases hd
  | some (.xc x S1), hd => cases hd; exact ⟨φ, σ, S, .xc x S1, hs, he, ha, fun φ' H' e s => hq φ' H' σV e s (he.mono e)⟩
  | some (.ok x S1), hd =>
    refine ⟨φ, σ, S, .ok x S1, hs, he, ha, fun φ1 H1 v1 e1 s1 x1 => ?_⟩
    rw [bndS_ok] at hd
    match hb : dd σ S1, hd with
    | none, hd => cases hd
    | some (.xc y S2), hd => cases hd; exact ⟨φ1, σ, S1, .xc y S2, s1, he.mono e1, hb, XR.keep e1 fun φ' H' e s => hq φ' H' σV e s (he.mono e)⟩
    | some (.ok z S2), hd =>
      refine ⟨φ1, σ, S1, .ok z S2, s1, he.mono e1, hb, fun φ2 H2 v2 e2 s2 z2 => ?_⟩
      rw [bndS_ok] at hd
      have e12 := e1.trans e2
      match hc : di σ S2, hd with
      | none, hd => cases hd
      | some (.xc y S3), hd => cases hd; exact ⟨φ2, σ, S2, .xc y S3, s2, he.mono e12, hc, XR.keep e12 fun φ' H' e s => hq φ' H' σV e s (he.mono e)⟩
      | some (.ok y S3), hd =>
        refine ⟨φ2, σ, S2, .ok y S3, s2, he.mono e12, hc, fun φ3 H3 v3 e3 s3 y3 => ?_⟩
        rw [bndS_ok] at hd
        match hg : dputW S3 z y x, hd with
        | none, hd => cases hd
        | some S4, hd =>
          cases hd
          have e23 := e2.trans e3
          obtain ⟨a, H', h1, h2, h3, h4⟩ := dput_ok s3 (z2.mono e3) y3 (x1.mono e23) hg
          exact ⟨a, H', h1, h2, hq φ3 H' σV ((e1.trans e23).trans h3) h4 (he.mono ((e1.trans e23).trans h3))⟩
/-! ### new dicts -/
def dD0 (ob : O) : DE := fun _ S => some (.ok (.r S.length) (S ++ [ob]))
theorem e_dk0 : SE X E (.Dict [] [] pos) (dD0 (.dk [])) := PEw pe_dnewK fun σV H Q ⟨φ, σ, S, r, hs, he, hd, hq⟩ p hp => by
  cases hd
  refine hq (φ.push p) _ _ (Ext.push hp hs) (hs.push hp (.dk' upd_same rfl)) ⟨p, ?_, rfl⟩
  show (φ.l ++ [p])[S.length]? = some p
  rw [← hs.len]; simp
theorem e_dt0 : SE X E (.Dict [] [] pos) (dD0 (.dt [])) := PEw pe_dnewT fun σV H Q ⟨φ, σ, S, r, hs, he, hd, hq⟩ p hp => by
  cases hd
  refine hq (φ.push p) _ _ (Ext.push hp hs) (hs.push hp (.dt' upd_same rfl)) ⟨p, ?_, rfl⟩
  show (φ.l ++ [p])[S.length]? = some p
  rw [← hs.len]; simp
/-- {'k': v, ..} -/
def dPs : List (Str × DE) → En → So → M (List PyData)
  | [], _, S => some (.ok [] S)
  | (_, d) :: r, σ, S => bnd (d σ S) fun w S1 => match w with
    | .d x => bnd (dPs r σ S1) fun xs S2 => some (.ok (x :: xs) S2)
    | _ => none
def mergeD (ks : List Str) (xs : List PyData) : List (Key × PyData) := ((ks.zip xs).foldl (fun acc kv => putD acc (.inr kv.1) kv.2) [])
def isEmD : Option O → Bool
  | some (.dk []) => true
  | _ => false
def withDk (S : So) : So := S ++ [.dk []]
def dDisp (ps : List (Str × DE)) : DE := fun σ S => bnd (dPs ps σ (withDk S)) fun xs S2 => if isEmD S2[S.length]? = true then some (.ok (.r S.length) (S2.set S.length (.dk (mergeD (ps.map (·.1)) xs)))) else none
structure SPs (X : Cx) (E : EK) (pos : Pos) (keys : List (Option Expr)) (values : List Expr) (ps : List (Str × DE)) : Prop where
  run : ∃ trs, PPs X pos keys values trs ∧ keys.length = ps.length ∧ ∀ σV H φ σ S r Q, SR X.K H φ S → ER X.K H φ X.mg σV σ → dPs ps σ S = some r →
    (match r with
      | .ok xs S' => ∀ φ' H' vs, Ext φ H φ' H' → SR X.K H' φ' S' → RDs X.K H' φ' xs vs → vs.length = ps.length → Q (((ps.map (·.1)).zip vs).map fun kv => (V.str kv.1, kv.2)) H'
      | .xc x S' => ∀ φ' H', Ext φ H φ' H' → SR X.K H' φ' S' → XR X.K X.mg (E σV) x H' φ') → tPairs trs σV H Q
theorem sp_nil : SPs X E pos [] [] [] := ⟨_, pps_nil, rfl, fun σV H φ σ S r Q hs he hd hq => by cases hd; exact hq φ H [] .refl hs rfl rfl⟩
theorem sp_cons {z : Str} {j} {kp : Pos} {v : Expr} {ks : List (Option Expr)} {vs : List Expr} {dv : DE} {ps : List (Str × DE)} (hv : SE X E v dv) (hr : SPs X E pos ks vs ps) : SPs X E pos (some (.Constant (.str z) j kp) :: ks) (v :: vs) ((z, dv) :: ps) := by
  obtain ⟨trs, h1, h2, h3⟩ := hr.run
  refine ⟨_, pps_cons pe_str hv h1, by simp [h2], fun σV H φ σ S r Q hs he hd hq => ?_⟩
  unfold dPs at hd
  match ha : dv σ S, hd with
  | none, hd => cases hd
  | some (.xc x S1), hd => cases hd; exact ⟨φ, σ, S, .xc x S1, hs, he, ha, hq⟩
  | some (.ok (.r _) S1), hd => cases hd
  | some (.ok (.g _) S1), hd => cases hd
  | some (.ok (.s _) S1), hd => cases hd
  | some (.ok (.d x) S1), hd =>
    refine ⟨φ, σ, S, .ok (.d x) S1, hs, he, ha, fun φ1 H1 v1 e1 s1 x1 => ?_⟩
    rw [bnd_ok] at hd
    dsimp only at hd
    match hb : dPs ps σ S1, hd with
    | none, hd => cases hd
    | some (.xc y S2), hd => cases hd; exact h3 σV H1 φ1 σ S1 _ _ s1 (he.mono e1) hb (XR.keep e1 hq)
    | some (.ok xs S2), hd =>
      cases hd
      refine h3 σV H1 φ1 σ S1 _ _ s1 (he.mono e1) hb fun φ2 H2 vs e2 s2 r2 l2 => ?_
      exact hq φ2 H2 (v1 :: vs) (e1.trans e2) s2 ⟨v1, vs, rfl, RD.mono e2 _ _ x1, r2⟩ (by simp [l2])
theorem merge_rd {K : PySem.W.Frag} {H : Hp} {φ : Fi} : ∀ (ks : List Str) {xs : List PyData} {vs : List V} {acc : List (Key × PyData)} {es : List (Key × V)}, RDs K H φ xs vs → KR K H φ acc es →
    KR K H φ ((ks.zip xs).foldl (fun acc kv => putD acc (.inr kv.1) kv.2) acc) (mergeK es ((ks.zip vs).map fun kv => ((Sum.inr kv.1 : Key), kv.2)))
  | [], _, _, _, _, _, h => h
  | k :: ks, [], _, _, _, h, h2 => by cases h; exact h2
  | k :: ks, x :: xs, _, acc, es, ⟨v, t, e, h1, h2⟩, h3 => by
    subst e
    exact merge_rd ks h2 (h3.put (k := .inr k) h1)
theorem e_disp {keys : List (Option Expr)} {values : List Expr} {ps : List (Str × DE)} (h : SPs X E pos keys values ps) (hall : keys.all (·.isSome) = true := by rfl) (hl : keys.length = values.length := by rfl) (h0 : keys ≠ [] := by simp)
    (h15 : keys.length ≤ 15 := by decide) : SE X E (.Dict keys values pos) (dDisp ps) := by
  obtain ⟨trs, h1, h2, h3⟩ := h.run
  refine PEw (pe_disp h1 hall hl h0 h15) fun σV H Q q p hp => ?_
  obtain ⟨φ, σ, S, r, hs, he, hd, hq⟩ := q
  have e0 := Ext.push (o := .dK []) hp hs
  have s0 := hs.push (o := .dK []) (ob := .dk []) hp (.dk' upd_same rfl)
  have hpn : (φ.push p).l[S.length]? = some p := by
    show (φ.l ++ [p])[S.length]? = some p
    rw [← hs.len]; simp
  unfold dDisp at hd
  match ha : dPs ps σ (withDk S), hd with
  | none, hd => cases hd
  | some (.xc x S1), hd => cases hd; exact h3 σV _ _ σ _ _ _ s0 (he.mono e0) ha (XR.keep e0 hq)
  | some (.ok xs S2), hd =>
    refine h3 σV _ _ σ _ _ _ s0 (he.mono e0) ha fun φ2 H2 vs e2 s2 r2 l2 => ?_
    rw [bnd_ok] at hd
    split at hd
    · rename_i hem
      cases hd
      have hS : S2[S.length]? = some (.dk []) := by
        unfold isEmD at hem
        split at hem
        · assumption
        · cases hem
      have hp2 : φ2.l[S.length]? = some p := by
        obtain ⟨t, ht⟩ := e2.pre
        rw [← ht, List.getElem?_append_left (List.getElem?_eq_some_iff.mp hpn).1]; exact hpn
      obtain ⟨es, g1, g2⟩ := s2.dk hp2 hS
      have g3 : es = [] := g2
      subst g3
      refine ⟨g1, ((ps.map (·.1)).zip vs).map fun kv => (Sum.inr kv.1, kv.2), by simp [kV], ?_, ?_⟩
      · simp [l2]; omega
      · have e3 := Ext.wr (o := .dK (mergeK [] (((ps.map (·.1)).zip vs).map fun kv => ((Sum.inr kv.1 : Key), kv.2)))) s2 hp2 (by rw [hS]; trivial)
        refine hq φ2 _ _ ((e0.trans e2).trans e3) (s2.wr hp2 (by rw [hS]; trivial) (.dk' upd_same (merge_rd _ (RDs.mono e3 _ _ r2) rfl))) ⟨p, hp2, rfl⟩
    · cases hd
end
end CL
end

section
/-! part CLSort -/
set_option Elab.async false
set_option linter.all false
set_option maxRecDepth 100000
set_option maxHeartbeats 1000000
/-! CLSort: sorted, min, len of a set, update. -/
namespace CL
open PySem PySem.Spec PyProof.Rows L2

/-! ### what may be sorted -/
def likeAll (xs : List PyData) : Bool := xs.all fun x => xs.all fun y => PySem.W.alike x y
def fullTup : PyData → Bool
  | .tuple (_ :: _) => true
  | _ => false
def flatD : PyData → Bool
  | .none => false
  | .tuple _ => false
  | _ => true
def sortOk (xs : List PyData) : Bool := likeAll xs && (xs.all fullTup || xs.all flatD) && xs.all (fun x => decide (x.depth ≤ 60)) && small xs.length
theorem likeAll_of {xs : List PyData} (h : likeAll xs = true) : PySem.W.AllAlike xs := fun d hd e he => List.all_eq_true.mp (List.all_eq_true.mp h d hd) e he
theorem sortOk_of {xs : List PyData} (h : sortOk xs = true) : PySem.W.AllAlike xs ∧ PySem.W.Sortable xs ∧ (∀ d ∈ xs, d.depth ≤ 60) ∧ xs.length ≤ sizeLine := by
  unfold sortOk at h
  simp only [Bool.and_eq_true] at h
  obtain ⟨⟨⟨h1, h2⟩, h3⟩, h4⟩ := h
  refine ⟨likeAll_of h1, ?_, fun d hd => of_decide_eq_true (List.all_eq_true.mp h3 d hd), small_le h4⟩
  rcases (Bool.or_eq_true _ _ ▸ h2 : _ ∨ _) with h | h
  · exact .inl fun d hd => by
      have := List.all_eq_true.mp h d hd
      unfold fullTup at this
      split at this
      · exact ⟨_, _, rfl⟩
      · cases this
  · exact .inr fun d hd => by
      have := List.all_eq_true.mp h d hd
      unfold flatD at this
      split at this
      · cases this
      · cases this
      · rename_i a b; exact ⟨a, b⟩
def srtD (xs : List PyData) : List PyData := xs.mergeSort (PySem.W.dataLe false id)
section
variable {K : PySem.W.Frag} {H : Hp} {φ : Fi}
theorem RDs.zipMem : ∀ {ds : List PyData} {vs : List V}, RDs K H φ ds vs → ∀ p ∈ ds.zip vs, RD K H φ p.1 p.2
  | [], _, _, p, hp => by simp at hp
  | d :: ds, _, ⟨v, r, e, h, t⟩, p, hp => by
    subst e
    rcases List.mem_cons.mp hp with e | hp
    · subst e; exact h
    · exact RDs.zipMem t p hp
theorem RDs.ofMem : ∀ {l : List (PyData × V)}, (∀ p ∈ l, RD K H φ p.1 p.2) → RDs K H φ (l.map (·.1)) (l.map (·.2))
  | [], _ => rfl
  | p :: l, h => ⟨p.2, _, rfl, h p List.mem_cons_self, RDs.ofMem fun q hq => h q (List.mem_cons_of_mem _ hq)⟩
theorem RDs.zipFst {ds : List PyData} {vs : List V} (h : RDs K H φ ds vs) : (ds.zip vs).map (·.1) = ds := by
  rw [List.map_fst_zip]
  rw [h.length]; exact Nat.le_refl _
theorem srt_rd {ds : List PyData} {vs : List V} (h : RDs K H φ ds vs) : RDs K H φ (srtD ds) (((ds.zip vs).mergeSort (PySem.W.dataLe false Prod.fst)).map (·.2)) := by
  have e1 := RDs.ofMem (K := K) (H := H) (φ := φ) (l := (ds.zip vs).mergeSort (PySem.W.dataLe false Prod.fst)) fun p hp => h.zipMem p (List.mem_mergeSort.mp hp)
  have e2 : ((ds.zip vs).mergeSort (PySem.W.dataLe false Prod.fst)).map (·.1) = srtD ds := by
    unfold srtD
    rw [List.map_mergeSort (r := PySem.W.dataLe false Prod.fst) (s := PySem.W.dataLe false id) (f := fun p : PyData × V => p.1) (fun a _ b _ => rfl), h.zipFst]
  rw [e2] at e1
  exact e1
end
theorem each_of_vals : ∀ {ds : List PyData} {vs : List V} {us : List Value}, ds.length = vs.length → Vals vs us → PySem.W.EachIs (fun (u : Value) (b : PyData × V) => RelV b.2 u) us (ds.zip vs)
  | [], [], _, _, .nil => .nil
  | d :: ds, v :: vs, _, h, .cons r t => .cons r (each_of_vals (by simpa using h) t)
  | [], _ :: _, _, h, _ => by simp at h
  | _ :: _, [], _, h, _ => by simp at h
theorem vals_of_each : ∀ {bs : List (PyData × V)} {us : List Value}, PySem.W.EachIs (fun (u : Value) (b : PyData × V) => RelV b.2 u) us bs → Vals (bs.map (·.2)) us
  | [], _, .nil => .nil
  | _ :: _, _, .cons r t => .cons r (vals_of_each t)
theorem each_reads {h : Heap} : ∀ {ds : List PyData} {vs : List V} {us : List Value} {as : List Addr}, ds.length = vs.length → ReadsAll h us ds as → PySem.W.EachIs (fun u (b : PyData × V) => ∃ as, Reads h u b.1 as) us (ds.zip vs)
  | [], [], _, _, _, .nil => .nil
  | d :: ds, v :: vs, _, _, h, .cons r t => .cons ⟨_, r⟩ (each_reads (by simpa using h) t)
  | [], _ :: _, _, _, h, _ => by simp at h
  | _ :: _, [], _, _, h, _ => by simp at h
section
variable {X : Cx} {E : EK} {pos p : Pos}
theorem call_sorted (hu : X.A.units + 64 < cLine) : CallR X (.builtin "sorted") (fun xs H Q => ∃ a ds vs, xs = [.ref a] ∧ SqL X.K H a vs ∧ DpAll X.K H vs ds ∧ sortOk ds = true ∧ ds.length = vs.length ∧
    ∀ q, H q = none → Q (.ref q) (upd H q (.lst (((ds.zip vs).mergeSort (PySem.W.dataLe false Prod.fst)).map (·.2))))) := by
  intro pins s σ H xs us Q I r h
  obtain ⟨a, ds, vs, rfl, hl, hd, ok, hlen, q⟩ := h
  obtain ⟨u, rfl, rx⟩ := vals1 r
  cases rx
  obtain ⟨o1, o2, o3, o4⟩ := sortOk_of ok
  obtain ⟨its, rv, pl, hz⟩ := I.list hl
  obtain ⟨as, rs⟩ := Dp.readsAll I ds vs its hd rv
  have hm : (ds.zip vs).map Prod.fst = ds := List.map_fst_zip (by rw [hlen]; exact Nat.le_refl _)
  refine PySem.W.sorted_data (bs := ds.zip vs) (enc := Prod.fst) (R := fun u b => RelV b.2 u) pl.isList (each_of_vals hlen rv) (each_reads hlen rs) (by rw [hm]; exact o1) (by rw [hm]; exact o2) (by rw [List.length_zip, hlen, Nat.min_self, ← hlen]; exact o4)
    (fun b hb => ?_) fun out ho eo => ?_
  · have := o3 b.1 (by rw [← hm]; exact List.mem_map_of_mem hb)
    omega
  · obtain ⟨c, hc⟩ := PyProof.Rows.sortedAll_at s.heap its (List.toArray out)
    have rv2 := vals_of_each eo
    have hz2 : (((ds.zip vs).mergeSort (PySem.W.dataLe false Prod.fst)).map (·.2)).length ≤ sizeLine := by
      rw [List.length_map, List.length_mergeSort, List.length_zip, hlen, Nat.min_self]; exact hz
    have I2 := I.laid (a := s.heap.objs.size + 1) (o := .lst (((ds.zip vs).mergeSort (PySem.W.dataLe false Prod.fst)).map (·.2))) (t' := s.toks) (fun b ob e => PyProof.Rows.sortedAll_old (vs := its) (out := List.toArray out) e) (Nat.le_succ _) ⟨hz2, out, c, rv2, hc⟩
    exact ⟨.ref (s.heap.objs.size + 1), _, I2, rfl, q _ (I.hok.fresh (Nat.le_succ _))⟩
def sortG : So → List W → Option (List PyData)
  | S, [w] => (lstW S w).bind fun xs => if sortOk xs = true then some (srtD xs) else none
  | _, _ => none
theorem b_sorted (hu : X.A.units + 64 < cLine) : CallR X (.builtin "sorted") (rCN X.K X.mg sortG) :=
  callw (call_sorted hu) fun vs H Q ⟨φ, S, ws, xs, hs, hx, hg, hq⟩ => by
    unfold sortG at hg
    split at hg
    · obtain ⟨v, rfl, hv⟩ := one_of hx
      obtain ⟨ds, h1, h2⟩ := Option.bind_eq_some_iff.mp hg
      split at h2
      · rename_i ok
        cases h2
        obtain ⟨l, us, rfl, f1, r1⟩ := seqL_of hs hv (lstW_of h1)
        exact ⟨l, ds, us, rfl, f1, RDs.dp _ _ r1, ok, r1.length.symm, fun p hp => hq φ H p _ .refl hs hp (srt_rd r1)⟩
      · cases h2
    · cases hg
end
end CL
end

section
/-! part CLKeys -/
set_option Elab.async false
set_option linter.all false
set_option maxRecDepth 100000
set_option maxHeartbeats 1000000
/-! CLKeys: a dict with tuples for keys, as its keys: sorted, min, len, update. -/
namespace CL
open PySem PySem.Spec PyProof.Rows L2

def tupOf (k : List Key) : PyData := .tuple (k.map keyD)
def keysOf (kvs : List (List Key × PyData)) : List PyData := kvs.map fun p => tupOf p.1
section
variable {X : Cx} {E : EK} {pos p : Pos} {pins : List (Addr × Obj)} {σ : L2.St} {H : Hp} {s : Shared} {d : Addr}
theorem dt_at {kvs : List (List Key × V)} (I : Inv X pins σ H s) (h : H d = some (.dT kvs)) : (d == sysModules) = false ∧ kvs.length ≤ sizeLine ∧ ∃ (o : Obj) (es : Array DictEntry) (ep : Nat) (bs : List Addr), s.heap.get? d = some o ∧ o.ExactDict ∧ o.data = .dict es ep ∧
    es.size = bs.length ∧ bs.length = kvs.length ∧ (∀ (j : Nat) (en : DictEntry), es[j]? = some en → ∃ b, bs[j]? = some b ∧ en.key = .ref b) ∧ IsKeys H kvs bs := by
  obtain ⟨z, hs, xs, pr, o, es, ep, ho, hx, hdt, he, _⟩ := (show ObjOk X.prog X.w H s.heap d (.dT kvs) from I.hok d _ h)
  have l1 : es.size = xs.length := size_of_entries he
  have l2 : kvs.length = xs.length := Paired.length pr
  refine ⟨hs, z, o, es, ep, xs.map fun x => x.2.1, ho, hx, hdt, by rw [List.length_map, l1], by rw [List.length_map, l2], fun j en hj => ?_, isKeys_of pr⟩
  have q := entry_at he j
  rw [hj] at q
  cases hb : xs[j]? with
  | none => rw [hb] at q; cases q
  | some b =>
    rw [hb] at q
    have e2 : en = entryOfKey (tupleKind (mixKind X.prog X.w)) b := Option.some.inj q
    exact ⟨b.2.1, by rw [List.getElem?_map, hb]; rfl, by rw [e2]; rfl⟩
theorem keys_rd {K : PySem.W.Frag} {φ : Fi} : ∀ {kvs : List (List Key × V)} {bs : List Addr}, IsKeys H kvs bs → RDs K H φ (kvs.map fun p => tupOf p.1) (bs.map V.ref) := by
  intro kvs bs h
  unfold IsKeys at h
  induction h with
  | nil => rfl
  | @cons p b ps bs h t ih => exact ⟨.ref b, _, rfl, ⟨b, p.1.map kV, rfl, h, keysD_rd p.1⟩, ih⟩
theorem key_reads : ∀ {ks : List Key} {us : List Value} {h : Heap}, Vals (ks.map kV) us → ReadsAll h us (ks.map keyD) []
  | [], _, _, .nil => .nil
  | .inl i :: ks, _, h, .cons r t => by
    obtain ⟨tk, e⟩ := r
    subst e
    exact .cons (as := []) (bs := []) (.int i tk) (key_reads t)
  | .inr x :: ks, _, h, .cons r t => by
    obtain ⟨tk, e⟩ := r
    subst e
    exact .cons (as := []) (bs := []) (.str x tk) (key_reads t)
theorem keys_reads (I : Inv X pins σ H s) : ∀ {kvs : List (List Key × V)} {bs : List Addr}, IsKeys H kvs bs → ReadsAll s.heap (bs.map Value.ref) (kvs.map fun p => tupOf p.1) [] := by
  intro kvs bs h
  unfold IsKeys at h
  induction h with
  | nil => exact .nil
  | @cons p b ps bs h t ih =>
    obtain ⟨_, its, rv, o, h1, h2, n, h3⟩ := (show ObjOk X.prog X.w H s.heap b (.tup (p.1.map kV)) from I.hok b _ h)
    exact .cons (as := []) (bs := []) (.tuple h1 h2 h3 (by simpa using key_reads rv)) ih
theorem keep_reads {h h' : Heap} {ds : List PyData} {us : List Value} {as : List Addr} (k : ∀ b o, h.get? b = some o → h'.get? b = some o) (r : ReadsAll h us ds as) : ReadsAll h' us ds as := PyProof.Rows.ReadsAll.keeps k r
theorem each_reads0 {h : Heap} {L : Addr} : ∀ {ds : List PyData} {vs : List V} {us : List Value}, ds.length = vs.length → ReadsAll h us ds [] → PySem.W.EachIs (fun u (b : PyData × V) => ∃ as, Reads h u b.1 as ∧ L ∉ as) us (ds.zip vs) := by
  intro ds
  induction ds with
  | nil =>
    intro vs us hl r
    cases r
    cases vs with
    | nil => exact .nil
    | cons v vs => simp at hl
  | cons d ds ih =>
    intro vs us hl r
    cases vs with
    | nil => simp at hl
    | cons v vs =>
      generalize ha : ([] : List Addr) = as at r
      cases r with
      | @cons _ _ _ _ a1 a2 r1 r2 =>
        obtain ⟨e1, e2⟩ := List.append_eq_nil_iff.mp ha.symm
        subst e1; subst e2
        exact .cons ⟨[], r1, by simp⟩ (ih (by simpa using hl) r2)
/-- sorted(d) -/
theorem call_sortedDT (hc : X.calm = true) (hu : X.A.units + 64 < cLine) : CallR X (.builtin "sorted") (fun xs H Q => ∃ d kvs, xs = [.ref d] ∧ H d = some (.dT kvs) ∧ sortOk (kvs.map fun p => tupOf p.1) = true ∧
    ∀ q bs, H q = none → IsKeys H kvs bs → Q (.ref q) (upd H q (.lst ((((kvs.map fun p => tupOf p.1).zip (bs.map V.ref)).mergeSort (PySem.W.dataLe false Prod.fst)).map (·.2))))) := by
  intro pins s σ H xs us Q I r h
  obtain ⟨d, kvs, rfl, hd, ok, q⟩ := h
  obtain ⟨u, rfl, rx⟩ := vals1 r
  cases rx
  obtain ⟨hs, hz, o, es, ep, bs, ho, hx, hdt, l1, l2, ent, ik⟩ := dt_at I hd
  obtain ⟨o1, o2, o3, o4⟩ := sortOk_of ok
  refine Calls.call_function_entry PyProof.Rows.kind_sorted PyProof.Rows.plain_sorted PyProof.Rows.entry_sorted (PyProof.Rows.args_sorted1 _) ?_
  unfold Builtin.«sorted»
  refine wpAny_bind (m := checkCount "sorted" 1 1 _) (wpAny_pure (wpAny_bind (PySem.W.kdu_collect (A := X.A.in1) (kdl_raw hs hx hdt) (I.ok.hd hc) ho (by rw [l1, l2]; exact hz) fun h2 tk acc hk hacc => ?_)))
  have ea : acc.toList = bs.map Value.ref := by
    have hl : acc.toList.length = bs.length := by rw [Array.length_toList, hacc.1, l1]
    refine List.ext_getElem? fun j => ?_
    rw [List.getElem?_map]
    cases hj : acc.toList[j]? with
    | none => rw [List.getElem?_eq_none (by rw [← hl]; exact List.getElem?_eq_none_iff.mp hj)]; rfl
    | some v =>
      obtain ⟨en, h1, h2⟩ := hacc.2 j v (by rw [← Array.getElem?_toList]; exact hj)
      obtain ⟨b, h3, h4⟩ := ent j en h1
      rw [h3, h2, h4]; rfl
  have I1 : Inv X pins σ H { s with heap := h2, toks := tk } := I.kept hk
  have zl : (bs.map Value.ref).length ≤ sizeLine := by rw [List.length_map, l2]; exact hz
  rw [ea]
  refine wpAny_bind (wpAny_newList ?_ zl)
  have hoL : (h2.push (seqObj "list" (bs.map Value.ref).toArray 0)).get? h2.objs.size = some (seqObj "list" (bs.map Value.ref).toArray 0) := Heap.get?_push_size _ rfl
  show wpAny _ _ _ _ _ { s with heap := h2.push (seqObj "list" (bs.map Value.ref).toArray 0), toks := tk }
  have len : (kvs.map fun p => tupOf p.1).length = (bs.map V.ref).length := by rw [List.length_map, List.length_map, l2]
  have fs : ((kvs.map fun p => tupOf p.1).zip (bs.map V.ref)).map Prod.fst = kvs.map fun p => tupOf p.1 := List.map_fst_zip (by rw [len]; exact Nat.le_refl _)
  have rds := keep_reads (fun b o e => Heap.get?_push_of_some (seqObj "list" (bs.map Value.ref).toArray 0) e) (keys_reads I1 ik)
  refine wpAny_bind (wpAny_holding (PySem.W.list_sort_data (A := X.A.in1) (s := { s with heap := h2.push (seqObj "list" (bs.map Value.ref).toArray 0), toks := tk }) (bs := (kvs.map fun p => tupOf p.1).zip (bs.map V.ref)) (enc := Prod.fst) (R := fun u b => RelV b.2 u)
    hoL (each_of_vals len (vals_refs bs)) (each_reads0 len rds) (by rw [fs]; exact o1) (by rw [fs]; exact o2) (by rw [List.length_zip, len, Nat.min_self, List.length_map, l2]; exact hz) (fun b hb => ?_) fun out hlo eo => ?_))
  · have h1 := o3 b.1 (by rw [← fs]; exact List.mem_map_of_mem hb)
    show X.A.units + 1 + 1 + _ < _
    omega
  · obtain ⟨e', he'⟩ := PyProof.Rows.sortedHeap_at (vs := bs.map Value.ref) (out := List.toArray out) hoL
    have rv := vals_of_each eo
    have hz2 : ((((kvs.map fun p => tupOf p.1).zip (bs.map V.ref)).mergeSort (PySem.W.dataLe false Prod.fst)).map (·.2)).length ≤ sizeLine := by
      rw [List.length_map, List.length_mergeSort, List.length_zip, len, Nat.min_self, List.length_map, l2]; exact hz
    refine wpAny_pure ⟨_, rfl, .ref h2.objs.size, _, I1.laid (t' := tk) (o := .lst ((((kvs.map fun p => tupOf p.1).zip (bs.map V.ref)).mergeSort (PySem.W.dataLe false Prod.fst)).map (·.2))) (fun b u e => ?_) (Nat.le_refl _) ⟨hz2, out, e', rv, he'⟩, rfl, q _ bs (I1.hok.fresh (Nat.le_refl _)) ik⟩
    have hb : b < h2.objs.size := Heap.lt_size e
    rw [PyProof.Rows.sortedHeap_old (Nat.ne_of_lt hb) (by rw [size_push']; exact Nat.lt_succ_of_lt hb)]
    exact Heap.get?_push_of_some _ e
/-- min(d) -/
theorem call_minDT (hc : X.calm = true) (hu : X.A.units + 64 < cLine) : CallR X (.builtin "min") (fun xs H Q => ∃ d kvs x r, xs = [.ref d] ∧ H d = some (.dT kvs) ∧ (kvs.map fun p => tupOf p.1) = x :: r ∧ likeAll (x :: r) = true ∧ PyData.depthAll (x :: r) ≤ 60 ∧
    ∀ (b : Addr) (k : List Key), H b = some (.tup (k.map kV)) → tupOf k = PySem.W.minD x r → Q (.ref b) H) := by
  intro pins s σ H xs us Q I r0 h
  obtain ⟨d, kvs, x, r, rfl, hd, hxr, lk, dp, q⟩ := h
  obtain ⟨u, rfl, rx⟩ := vals1 r0
  cases rx
  obtain ⟨hs, hz, o, es, ep, bs, ho, hx, hdt, l1, l2, ent, ik⟩ := dt_at I hd
  have rds := keys_reads I ik
  rw [hxr] at rds
  have al : PySem.W.AlikeAll (x :: r) := ⟨likeAll_of lk, fun y hy e => by
    rw [← hxr] at hy
    obtain ⟨p, _, hp⟩ := List.mem_map.mp hy
    rw [e] at hp; unfold tupOf at hp; cases hp⟩
  have nlen : es.size = r.length + 1 := by rw [l1, l2]; have := congrArg List.length hxr; simpa using this
  have itemAt : ∀ (i : Nat) (v : Value), (∃ en : DictEntry, es[i]? = some en ∧ v = en.key) → ((bs.map Value.ref).toArray)[i]? = some v := fun i v ⟨en, h1, h2⟩ => by
    obtain ⟨b, h3, h4⟩ := ent i en h1
    simp [h3, h2, h4]
  refine PySem.call_min_walkH (iter_keys hs ho hx hdt ?_)
  have hlt : d < s.heap.objs.size := Heap.lt_size ho
  refine ⟨s.heap.objs.size, [s.heap.objs.size, d], [s.heap.objs.size], _, es.size, _, _, s.heap, fun i j => PySem.W.dataLt ((x :: r).getD i .none) ((x :: r).getD j .none), rfl, (walks_raw (A := X.A.in1) (I.ok.hd hc) s.heap.objs.size d (Nat.ne_of_lt hlt) hdt).toS,
    ⟨⟨_, Heap.get?_push_size _ rfl, rfl, rfl⟩, Heap.get?_push_of_some _ ho⟩, fun b hb => ?_, by omega, fun b ob e hb => ?_, fun b ob e => Heap.get?_push_of_some _ e, fun i j vi vj s' Q' E' hk hi hj hq => ?_, fun v s' hP m => ?_⟩
  · show b < (s.heap.push _).objs.size
    rw [size_push']
    rcases List.mem_cons.mp hb with e | hb
    · rw [e]; exact Nat.lt_succ_self _
    · rw [List.mem_singleton.mp hb]; exact Nat.lt_succ_of_lt hlt
  · exact absurd (Heap.lt_size e) ((List.mem_singleton.mp hb) ▸ Nat.lt_irrefl _)
  · exact PySem.W.cmpIn_lt (vs := (bs.map Value.ref).toArray) (s := s) (A := X.A.in1) (by simpa using rds) al (by show X.A.units + 1 + _ < _; omega) i j vi vj s' Q' E' hk (itemAt _ _ hi) (itemAt _ _ hj) hq
  · obtain ⟨h', tk, rfl, hk'⟩ := PySem.W.moved_old rfl rfl m
    obtain ⟨en, h1, h2⟩ := hP
    obtain ⟨b, h3, h4⟩ := ent _ en h1
    have e1 : es.size - 1 = r.length := by omega
    have e2 := (PySem.W.argBest_fold PySem.W.dataLt PyData.none x r r.length (Nat.le_refl _)).2
    rw [List.take_length] at e2
    rw [e1] at h3
    have ib := ik
    unfold IsKeys at ib
    obtain ⟨pk, h5, h6⟩ : ∃ pk, kvs[argBest (fun i j => PySem.W.dataLt ((x :: r).getD i PyData.none) ((x :: r).getD j PyData.none)) r.length]? = some pk ∧ H b = some (.tup (pk.1.map kV)) := by
      have hlt2 := (List.getElem?_eq_some_iff.mp h3).1
      rw [l2] at hlt2
      obtain ⟨b2, g1, g2⟩ := paired_get ib (List.getElem?_eq_getElem hlt2)
      rw [h3] at g1; cases g1
      exact ⟨_, List.getElem?_eq_getElem hlt2, g2⟩
    refine ⟨.ref b, H, I.kept hk', by rw [h2, h4]; rfl, q b pk.1 h6 ?_⟩
    unfold PySem.W.minD
    rw [← e2]
    have h7 : (kvs.map fun p => tupOf p.1)[argBest (fun i j => PySem.W.dataLt ((x :: r).getD i PyData.none) ((x :: r).getD j PyData.none)) r.length]? = some (tupOf pk.1) := by rw [List.getElem?_map, h5]; rfl
    rw [hxr] at h7
    rw [List.getD_eq_getElem?_getD, h7]; rfl
end
end CL
end

section
/-! part CLUpd -/
set_option Elab.async false
set_option linter.all false
set_option maxRecDepth 100000
set_option maxHeartbeats 1000000
/-! CLUpd: d.update(pairs), keys tuples. -/
namespace CL
open PySem PySem.Spec PyProof.Rows L2

/-- a pair of the list: its tuple, its key's tuple, the key, the value -/
structure Pr where
  t : Addr
  b : Addr
  k : List Key
  v : V
def PrOk (H : Hp) (q : Pr) : Prop := H q.t = some (.tup [.ref q.b, q.v]) ∧ H q.b = some (.tup (q.k.map kV))
def mergeT (kvs : List (List Key × V)) (ps : List Pr) : List (List Key × V) := ps.foldl (fun acc q => putK acc q.k q.v) kvs
section
variable {X : Cx} {E : EK} {pos p : Pos} {pins : List (Addr × Obj)} {σ : L2.St} {H : Hp} {s : Shared} {d : Addr}
def PrV (h : Heap) (q : Pr) (e : List Key × Addr × Value) : Prop := e.1 = q.k ∧ e.2.1 = q.b ∧ RelV q.v e.2.2 ∧ h.IsTuple q.t #[.ref q.b, e.2.2]
theorem prs_vals (I : Inv X pins σ H s) : ∀ ps : List Pr, (∀ q ∈ ps, PrOk H q) → ∃ es, Paired (PrV s.heap) ps es
  | [], _ => ⟨[], .nil⟩
  | q :: ps, h => by
    obtain ⟨es, h1⟩ := prs_vals I ps fun r hr => h r (List.mem_cons_of_mem _ hr)
    obtain ⟨_, its, rv, o, g1, g2, n, g3⟩ := (show ObjOk X.prog X.w H s.heap q.t (.tup [.ref q.b, q.v]) from I.hok q.t _ (h q List.mem_cons_self).1)
    obtain ⟨u1, u2, e1, r1, r2⟩ := rv.two
    cases r1
    subst e1
    exact ⟨(q.k, q.b, u2) :: es, .cons ⟨rfl, rfl, r2, o, g1, g2, n, g3⟩ h1⟩
theorem KT.upd {H : Hp} : ∀ {ps : List Pr} {es : List (List Key × Addr × Value)} {kvs : List (List Key × V)} {xs : List (List Key × Addr × Value)} {h : Heap}, (∀ q ∈ ps, PrOk H q) → Paired (PrV h) ps es → KT H kvs xs → KT H (mergeT kvs ps) (storedAllH xs es)
  | [], _, _, _, _, _, .nil, r => r
  | q :: ps, e :: es, kvs, xs, h, hp, .cons h1 t, r => by
    have h2 := (hp q List.mem_cons_self).2
    have r2 : KT H (putK kvs q.k q.v) (storedH xs e.1 e.2.1 e.2.2) := by
      rw [h1.1, h1.2.1]
      exact r.put q.k h2 h1.2.2.1
    show KT H (mergeT (putK kvs q.k q.v) ps) (storedAllH (storedH xs e.1 e.2.1 e.2.2) es)
    exact KT.upd (fun z hz => hp z (List.mem_cons_of_mem _ hz)) t r2
theorem mergeT_len : ∀ (ps : List Pr) (kvs : List (List Key × V)), (mergeT kvs ps).length ≤ kvs.length + ps.length
  | [], kvs => Nat.le_refl _
  | q :: ps, kvs => by
    have h1 := mergeT_len ps (putK kvs q.k q.v)
    have h2 := length_putK kvs q.k q.v
    show (mergeT (putK kvs q.k q.v) ps).length ≤ _
    rw [List.length_cons]; omega
theorem ks_of {P : Program} {w : World} {H : Hp} {h : Heap} (ok : HOk P w H h) : ∀ {kvs : List (List Key × V)} {xs : List (List Key × Addr × Value)}, KT H kvs xs → ∀ x ∈ xs, (tupleKind (mixKind P w)).is h x.1 x.2.1 := by
  intro kvs xs r
  induction r with
  | nil => intro x hx; cases hx
  | @cons p q ps qs hq t ih =>
    intro x hx
    rcases List.mem_cons.mp hx with e | hx
    · subst e; exact key_of ok (by rw [← hq.1]; exact hq.2.1)
    · exact ih x hx
def rUpd : V → List V → Hp → VK → Prop := fun x vs H Q => ∃ d kvs a ps, x = .ref d ∧ vs = [.ref a] ∧ H d = some (.dT kvs) ∧ Rd H a (.lst (ps.map fun q : Pr => V.ref q.t)) ∧ (∀ q ∈ ps, PrOk H q) ∧ kvs.length + ps.length ≤ sizeLine ∧ Q .non (upd H d (.dT (mergeT kvs ps)))
theorem mt_update (hc : X.calm = true) (hu : X.A.units + 64 < cLine) : MtR X "dict.update" rUpd := by
  intro pins s σ H x xs v us Q I rx rs h
  obtain ⟨d, kvs, a, ps, rfl, rfl, hd, ha, hp, hz, q⟩ := h
  cases rx
  obtain ⟨u, rfl, ra⟩ := rs.one
  cases ra
  obtain ⟨es, pv⟩ := prs_vals I ps hp
  obtain ⟨_, its, n, rv, ea⟩ := ha.ok I.hok
  obtain ⟨z, hs, xs, kt, dd⟩ := dt_of I.hok hd
  have el : ps.length = es.length := Paired.length pv
  have iv : its = ps.map fun q => Value.ref q.t := by
    have := refs_at (ps := ps.map fun q : Pr => q.t) (us := its) (by rw [List.map_map]; exact rv)
    rw [this, List.map_map]; rfl
  let psV : List (Value × Value) := es.map fun e => (Value.ref e.2.1, e.2.2)
  let Ts : Nat → Addr := fun j => (ps.map fun q => q.t).getD j 0
  have atj : ∀ (j : Nat) (e : List Key × Addr × Value), es[j]? = some e → ∃ q, ps[j]? = some q ∧ PrV s.heap q e := fun j e he => by
    have hlt := (List.getElem?_eq_some_iff.mp he).1
    obtain ⟨e2, g1, g2⟩ := paired_get pv (List.getElem?_eq_getElem (l := ps) (i := j) (by omega))
    rw [he] at g1; cases g1
    exact ⟨_, List.getElem?_eq_getElem _, g2⟩
  have ok : PlainSeq "list" s.heap a its.toArray ∧ PairItems s.heap its.toArray Ts psV := by
    refine ⟨⟨_, n, ea, rfl, rfl, rfl⟩, by simp [psV, iv, el], fun j k v hj => ?_⟩
    simp only [psV, List.getElem?_map] at hj
    obtain ⟨e, he, e2⟩ := Option.map_eq_some_iff.mp hj
    cases e2
    obtain ⟨q, hq, g⟩ := atj j e he
    have ht : Ts j = q.t := by simp [Ts, hq]
    refine ⟨?_, .inl ?_⟩
    · simp [iv, hq, ht]
    · rw [ht, g.2.1]; exact g.2.2.2
  have dobj : ∃ o es ep, s.heap.get? d = some o ∧ o.data = .dict es ep := let ⟨o, e0, ep, h1, _, h3, _⟩ := dd; ⟨o, e0, ep, h1, h3⟩
  have ksx := ks_of I.hok kt
  have kse : ∀ x ∈ es, (tupleKind (mixKind X.prog X.w)).is s.heap x.1 x.2.1 := fun x hx => by
    obtain ⟨j, hj, e⟩ := List.getElem_of_mem hx
    obtain ⟨q, hq, g⟩ := atj j x (by rw [List.getElem?_eq_getElem hj, e])
    rw [g.1, g.2.1]
    exact key_of I.hok (hp q (List.mem_of_getElem? hq)).2
  refine call_update_pairsH (knd := tupleKind (mixKind X.prog X.w)) (acc := xs) (ps := es) (PairArg.list a its.toArray Ts psV) (I.ok.hd hc) (show X.A.units + 1 < cLine by omega) ok ?_ ?_ ?_ dd (by
      have l1 : kvs.length = xs.length := Paired.length kt
      have l2 : psV.length = es.length := by simp [psV]
      omega) fun h2 tk hd2 hk => ?_
  · intro hm
    have bad : ∀ {b : Addr} {ob : HO}, H b = some ob → (∀ kv, ob ≠ .dT kv) → d ≠ b := fun {b ob} hb hn e => by
      subst e; rw [hd] at hb; exact hn _ (Option.some.inj hb).symm
    rcases List.mem_cons.mp hm with e | hm
    · rcases ha with ha | ⟨o, ha⟩
      · exact bad ha (fun _ => by simp) e
      · exact bad ha (fun _ => by simp) e
    · obtain ⟨j, hj, e⟩ := List.mem_map.mp hm
      have hj := List.mem_range.mp hj
      have hj2 : j < ps.length := by simp [psV] at hj; omega
      have ht : Ts j = ps[j].t := by simp [Ts, hj2]
      exact bad (hp ps[j] (List.getElem_mem hj2)).1 (fun _ => by simp) (by rw [← ht]; exact e.symm)
  · refine ⟨by simp [psV], fun i key v hr => ?_⟩
    have hr : psV[i]? = some (key, v) := hr
    simp only [psV, List.getElem?_map] at hr
    obtain ⟨e, he, e2⟩ := Option.map_eq_some_iff.mp hr
    cases e2
    exact ⟨e.1, e.2.1, he, rfl⟩
  · intro h2 hk x hx
    rcases List.mem_append.mp hx with hx | hx
    · exact HeapKind.Stays.but tupleKind_stays dobj h2 (fun b o n1 n2 e => hk b o n1 n2 e) _ _ (ksx x hx)
    · exact HeapKind.Stays.but tupleKind_stays dobj h2 (fun b o n1 n2 e => hk b o n1 n2 e) _ _ (kse x hx)
  · obtain ⟨o2, es2, ep2, w1, w2, w3, w4, _, w5⟩ := hd2
    have hlen : (mergeT kvs ps).length ≤ sizeLine := Nat.le_trans (mergeT_len ps kvs) hz
    have new : ObjOk X.prog X.w (upd H d (.dT (mergeT kvs ps))) h2 d (.dT (mergeT kvs ps)) := by
      refine ⟨hlen, hs, storedAllH xs es, (KT.upd hp pv kt).keeps fun b ys e => ?_, o2, es2, ep2, w1, w2, w3, w4, w5⟩
      rw [upd_ne]; exact e
      intro e2; subst e2; rw [hd] at e; cases e
    have I2 : Inv X pins σ (upd H d (.dT (mergeT kvs ps))) { s with heap := h2, toks := tk } := by
      refine I.write (x := d) (e := d) (by rw [hd]; exact trivial) (.inl rfl) (fun b u hb hu => hk b u hb (fun z => nomatch z) hu) ⟨_, w1⟩ new
    exact ⟨.non, _, I2, rfl, q⟩
end
end CL
end

section
/-! part CLMisc -/
set_option Elab.async false
set_option linter.all false
set_option maxRecDepth 100000
set_option maxHeartbeats 1000000
/-! CLMisc: isinstance, repr, str, methods, what is walked, dicts as their keys. -/
namespace CL
open PySem PySem.Spec PyProof.Rows L2

section
variable {X : Cx} {E : EK} {pos p p2 p3 : Pos} {a b : Expr} {da db : DE}
/-! ### isinstance(x, T) -/
def dIsi (T : String) (d : DE) : DE := fun σ S => bnd (d σ S) fun w S1 => giv ((rd S1 w).bind fun x => (isiP T x).map W.d) S1
theorem tyx_list {K : PySem.W.Frag} {H : Hp} {l : Addr} {vs : List V} (h : SqL K H l vs) : TyX K H (.ref l) (.type "list") := by
  rcases h with h | ⟨o, its, n, h, hc, _⟩
  · rcases h with h | ⟨o, h⟩
    · exact .base (.lst h)
    · exact .base (.frz h)
  · exact .kList h hc
theorem e_isi {T : String} {tn : Str} (hm : X.mg "isinstance" = none) (hmt : X.mg tn = none) (ha : SE X E a da) (hT : tyOk T = true := by decide) (hv : bootBuiltins tn = some (.type T) := by decide +kernel) (hg : Gl X "isinstance" := by rfl) (hgt : Gl X tn := by rfl)
    (hs1 : starEach [a, .Name tn p2] X.env = (false, eval a X.env) :: starEach [.Name tn p2] X.env := by rfl) (hs2 : starEach [.Name tn p2] X.env = (false, eval (.Name tn p2) X.env) :: starEach [] X.env := by rfl) (hpl : (backTo pos (starEach [.Name tn p2] X.env)).any (·.1) = false := by rfl)
    (hn : tn ≠ "__name__" := by decide) (hd : (tn == ("__debug__" : Str)) = false := by decide) :
    SE X E (.Call (.Name "isinstance" p) [a, .Name tn p2] [] pos) (dIsi T da) := by
  refine PEw (pe_callB (id := "isinstance") call_isi hg hm (by decide +kernel) (pa_cons ha (pa_cons (pe_bltn (v := .ty T) hgt hmt hv rfl hn hd) pa_nil hs2) hs1) (by decide) (by decide) hs1 hpl) fun σV H Q q => ?_
  obtain ⟨φ, σ, S, r', hs, he, hd, hq⟩ := q
  unfold dIsi at hd
  match ha : da σ S, hd with
  | none, hd => cases hd
  | some (.xc x S1), hd => cases hd; exact ⟨φ, σ, S, .xc x S1, hs, he, ha, hq⟩
  | some (.ok w S1), hd =>
    refine ⟨φ, σ, S, .ok w S1, hs, he, ha, fun φ1 H1 v1 e1 s1 x1 => ?_⟩
    rw [bnd_ok] at hd
    match hw : (rd S1 w).bind fun x => (isiP T x).map W.d, hd with
    | none, hd => cases hd
    | some u, hd =>
      cases hd
      obtain ⟨x, h1, h2⟩ := Option.bind_eq_some_iff.mp hw
      obtain ⟨c, h3, h4⟩ := Option.map_eq_some_iff.mp h2
      subst h4
      suffices ∃ t bb, TyX X.K H1 v1 t ∧ PySem.W.kitOne X.K t (.type T) = some bb ∧ c = .bool bb by
        obtain ⟨t, bb, k1, k2, rfl⟩ := this
        exact ⟨v1, .ty T, t, .type T, bb, rfl, .ty T, k1, k2, hq φ1 H1 _ e1 s1 rfl⟩
      cases x with
      | none =>
        cases h3
        have := rd_eq h1 (by simp)
        subst this
        cases x1
        exact ⟨_, _, .base .non, kit_ty (kit_none T hT), rfl⟩
      | bool k =>
        cases h3
        rw [bl_of x1 h1]
        exact ⟨_, _, .base (.bl k), kit_ty (kit_bool T hT), rfl⟩
      | int k =>
        cases h3
        rw [int_of x1 h1]
        exact ⟨_, _, .base (.int k), kit_ty (kit_int T hT), rfl⟩
      | str k =>
        cases h3
        rw [str_of x1 h1]
        exact ⟨_, _, .base (.str k), kit_ty (kit_str T hT), rfl⟩
      | list k =>
        cases h3
        obtain ⟨l, vs, rfl, f1, r1⟩ := seqL_of s1 x1 h1
        exact ⟨_, _, tyx_list f1, kit_ty (kit_list T hT), rfl⟩
      | tuple k =>
        cases h3
        obtain ⟨l, vs, rfl, f1, r1⟩ := tup_of x1 h1
        exact ⟨_, _, .base (.tup f1), kit_ty (kit_tuple T hT), rfl⟩
      | dict k => cases h3
/-! ### repr, str -/
def reprOk (x : PyData) : Bool := x.showable && !x.hasDict && decide (x.shown.length ≤ 16777216) && decide (x.depth ≤ 60)
def reprP (x : PyData) : Option PyData := if reprOk x = true then some (.str x.shown) else none
theorem call_repr (hgd : X.A.guards = some []) (hu : X.A.units + 64 < cLine) : CallR X (.builtin "repr") (fun vs H Q => ∃ v x, vs = [v] ∧ Dp X.K H v x ∧ reprOk x = true ∧ Q (.str x.shown) H) := by
  intro pins s σ H xs us Q I r h
  obtain ⟨v, x, rfl, hd, ok, q⟩ := h
  obtain ⟨u, rfl, rx⟩ := vals1 r
  unfold reprOk at ok
  simp only [Bool.and_eq_true, decide_eq_true_eq, Bool.not_eq_true'] at ok
  obtain ⟨⟨⟨k1, k2⟩, k3⟩, k4⟩ := ok
  have hz : x.shown.length ≤ sizeLine := by rw [sizeLine_eq]; exact k3
  have big : ∀ {c : Addr}, u = .ref c → wpAny (model X.prog X.w) X.A (call (.builtin "repr") [u]) (EP X pins σ Q) X.xe s := fun {c} e => by
    obtain ⟨as, rs⟩ := Dp.reads I x v u hd rx
    subst e
    exact PySem.repr_of_reads' rs k1 (PyData.noDict_hsm k2) hgd (by omega) (fun _ _ e => e) (fun h2 t tk hk => ⟨.str x.shown, H, I.kept (t' := tk) hk, ⟨t, rfl⟩, q⟩) hz
  cases x with
  | none =>
    cases hd
    cases rx
    exact PySem.P.repr_of_none ⟨.str _, H, I.tok _, ⟨s.toks, by simp only [PyData.shown]⟩, q⟩
  | bool k =>
    cases hd
    cases rx
    exact PySem.P.repr_of_bool ⟨.str _, H, I.tok _, ⟨s.toks, by simp only [PyData.shown]⟩, q⟩
  | int k =>
    cases hd
    obtain ⟨t, rfl⟩ := rx
    exact PySem.P.repr_of_int (by simpa [PyData.showable] using k1) ⟨.str _, H, I.tok _, ⟨s.toks, by simp only [PyData.shown]⟩, q⟩
  | str k =>
    cases hd
    obtain ⟨t, rfl⟩ := rx
    exact PySem.P.repr_of_str (by simp only [PyData.shown] at q ⊢; exact ⟨.str _, H, I.tok _, ⟨_, rfl⟩, q⟩) (by simpa [PyData.shown] using hz)
  | list k => cases hd with | lst _ _ => exact big rx
  | tuple k => cases hd with | tup _ _ => exact big rx
  | dict k => cases hd
theorem b_repr (hgd : X.A.guards = some []) (hu : X.A.units + 64 < cLine) : CallR X (.builtin "repr") (rC X.K X.mg (c1 reprP)) :=
  callw (call_repr hgd hu) fun vs H Q ⟨φ, S, ws, w, hs, hx, hg, hq⟩ => by
    obtain ⟨u, x, c, rfl, h1, h2, rfl⟩ := c1_of hg
    obtain ⟨v, rfl, hv⟩ := one_of hx
    unfold reprP at h2
    split at h2
    · rename_i ok
      cases h2
      exact ⟨v, x, rfl, dp_of hs hv h1, ok, hq φ H _ .refl hs rfl⟩
    · cases h2
def strP : PyData → Option PyData
  | .int i => if i.natAbs.log2 < 1920 then some (.str (toString i)) else none
  | .bool b => some (.str (if b = true then "True" else "False"))
  | .str x => some (.str x)
  | _ => none
theorem call_strB : CallR X (.type "str") (fun vs H Q => ∃ b, vs = [.bl b] ∧ Q (.str (if b = true then "True" else "False")) H) := by
  intro pins s σ H xs us Q I r h
  obtain ⟨b, rfl, q⟩ := h
  obtain ⟨u, rfl, rx⟩ := vals1 r
  cases rx
  exact PySem.P.str_of_bool ⟨.str _, H, I.tok _, ⟨_, rfl⟩, q⟩
theorem b_str : CallR X (.type "str") (rC X.K X.mg (c1 strP)) :=
  callw (call_str_int.or (call_strB.or SkE.call_str_str)) fun vs H Q ⟨φ, S, ws, w, hs, hx, hg, hq⟩ => by
    obtain ⟨u, x, c, rfl, h1, h2, rfl⟩ := c1_of hg
    obtain ⟨v, rfl, hv⟩ := one_of hx
    unfold strP at h2
    split at h2
    · split at h2
      · rename_i ok
        cases h2
        exact .inl ⟨_, by rw [int_of hv h1], ok, hq φ H _ .refl hs rfl⟩
      · cases h2
    · cases h2
      exact .inr (.inl ⟨_, by rw [bl_of hv h1], hq φ H _ .refl hs rfl⟩)
    · cases h2
      exact .inr (.inr ⟨_, by rw [str_of hv h1], hq φ H _ .refl hs rfl⟩)
    · cases h2
/-! ### methods -/
def tyM (T : String) (S : So) : W → Bool
  | .r n => match S[n]? with
    | some (.lst _) => T == "list"
    | some (.dk _) => T == "dict"
    | some (.dt _) => T == "dict"
    | _ => false
  | .d (.str _) => T == "str"
  | .d (.list _) => T == "list"
  | _ => false
theorem tyM_of {K : PySem.W.Frag} {mg : Str → Option Value} {H : Hp} {φ : Fi} {S : So} {T : String} {w : W} {v : V} (hs : SR K H φ S) (hx : RW K H φ mg w v) (h : tyM T S w = true) : tyV K T v H := by
  unfold tyM at h
  split at h
  · rename_i n
    obtain ⟨c, ha, rfl⟩ := hx
    split at h
    · rename_i xs hS
      have e := eq_of_beq h
      subst e
      obtain ⟨vs, q1, q2⟩ := hs.ob n c _ ha hS
      exact .inl ⟨rfl, vs, .of q1⟩
    · rename_i xs hS
      have e := eq_of_beq h
      subst e
      obtain ⟨vs, q1, q2⟩ := hs.ob n c _ ha hS
      exact .inr (.inr (.inl ⟨rfl, .inl ⟨vs, q1⟩⟩))
    · rename_i xs hS
      have e := eq_of_beq h
      subst e
      obtain ⟨vs, q1, q2⟩ := hs.ob n c _ ha hS
      exact .inr (.inr (.inl ⟨rfl, .inr ⟨vs, q1⟩⟩))
    · cases h
  · have e := eq_of_beq h
    subst e
    cases hx
    exact rfl
  · have e := eq_of_beq h
    subst e
    obtain ⟨c, vs, rfl, h1, h2⟩ := hx
    exact .inl ⟨rfl, vs, h1.sq⟩
  · cases h
abbrev GM := So → W → List W → Option (W × So)
def dMeth (T : String) (g : GM) (o : DE) (as : DA) : DE := fun σ S => bnd (o σ S) fun x S1 => if tyM T S1 x = true then bnd (as σ S1) fun ws S2 => match g S2 x ws with
  | some (w, S3) => some (.ok w S3)
  | none => none
  else none
variable {o e : Expr} {es : List Expr} {dO : DE} {das : DA} {name : Str} {apos cpos : Pos} {T id : String} {r : V → List V → Hp → VK → Prop} {g : GM}
theorem meth_rd (hr : ∀ v1 vs H Q, rM X.K X.mg g v1 vs H Q → r v1 vs H Q) (σV : L2.St) (H : Hp) (Q : VK) (h : tE X.K X.mg E (dMeth T g dO das) σV H Q) : tBM X.K T r (tE X.K X.mg E dO) (tA X.K X.mg E das) σV H Q := by
  obtain ⟨φ, σ, S, r', hs, he, hd, hq⟩ := h
  unfold dMeth at hd
  match ha : dO σ S, hd with
  | none, hd => cases hd
  | some (.xc x S1), hd => cases hd; exact ⟨φ, σ, S, .xc x S1, hs, he, ha, hq⟩
  | some (.ok x S1), hd =>
    refine ⟨φ, σ, S, .ok x S1, hs, he, ha, fun φ1 H1 v1 e1 s1 x1 => ?_⟩
    rw [bnd_ok] at hd
    split at hd
    · rename_i hT
      refine ⟨tyM_of s1 x1 hT, ?_⟩
      match hb : das σ S1, hd with
      | none, hd => cases hd
      | some (.xc y S2), hd => cases hd; exact ⟨φ1, σ, S1, .xc y S2, s1, he.mono e1, hb, XR.keep e1 hq⟩
      | some (.ok ws S2), hd =>
        refine ⟨φ1, σ, S1, .ok ws S2, s1, he.mono e1, hb, fun φ2 H2 vs e2 s2 y2 => hr _ _ _ _ ?_⟩
        rw [bnd_ok] at hd
        match hg : g S2 x ws, hd with
        | none, hd => cases hd
        | some (w, S3), hd =>
          cases hd
          exact ⟨φ2, S2, x, ws, w, S3, s2, x1.mono e2, y2, hg, fun φ' H' v e' => hq φ' H' v ((e1.trans e2).trans e')⟩
    · cases hd
theorem e_meth (hm : MtR X id r) (hr : ∀ v1 vs H Q, rM X.K X.mg g v1 vs H Q → r v1 vs H Q) (pa : PlainAttrs T) (slot : Slot T name id) (hty : typeOf (.builtin id) = pure (.type "method_descriptor")) (ho : SE X E o dO) (ha : SA X E (e :: es) das)
    (hbase : attributeBase o name X.env (eval o X.env) = eval o X.env := by rfl)
    (hfew : ((backTo cpos (starEach (e :: es) X.env)).all (fun x => !x.1) && (backToKw cpos (keywordEach [] X.env)).all (fun x => x.1.isSome) && decide ((e :: es).length + ([] : List Keyword).length + (if ([] : List Keyword).isEmpty then 0 else 1) < 30)) = true := by rfl)
    (hline : (apos.endLine == cpos.line) = true := by rfl) (hs : starEach (e :: es) X.env = (false, eval e X.env) :: starEach es X.env := by rfl) (hplain : (backTo cpos (starEach es X.env)).any (·.1) = false := by rfl) :
    SE X E (.Call (.Attribute o name apos) (e :: es) [] cpos) (dMeth T g dO das) := PEw (pe_bm pa slot hty hm ho ha hbase hfew hline hs hplain) (meth_rd hr)
theorem e_meth0 (hm : MtR X id r) (hr : ∀ v1 vs H Q, rM X.K X.mg g v1 vs H Q → r v1 vs H Q) (pa : PlainAttrs T) (slot : Slot T name id) (hty : typeOf (.builtin id) = pure (.type "method_descriptor")) (ho : SE X E o dO)
    (hbase : attributeBase o name X.env (eval o X.env) = eval o X.env := by rfl) (hline : (apos.endLine == cpos.line) = true := by rfl) : SE X E (.Call (.Attribute o name apos) [] [] cpos) (dMeth T g dO dNil) := by
  refine PEw (pe_bm0 pa slot hty hm ho hbase hline) fun σV H Q h => ?_
  obtain ⟨φ, σ, S, r', hs, he, hd, hq⟩ := meth_rd (E := E) hr σV H Q h
  refine ⟨φ, σ, S, r', hs, he, hd, ?_⟩
  cases r' with
  | xc y S' => exact hq
  | ok w S' =>
    intro φ' H' v e' s' x'
    obtain ⟨h1, φ2, σ2, S2, r2, a1, a2, a3, a4⟩ := hq φ' H' v e' s' x'
    cases a3
    exact ⟨h1, a4 φ2 H' [] .refl a1 rfl⟩
/-- a method of texts that changes nothing -/
def gS0 (f : Str → Option PyData) : GM
  | S, .d (.str x), [] => (f x).map fun y => (.d y, S)
  | _, _, _ => none
theorem gS0_of {f : Str → Option PyData} {v1 : V} {vs : List V} {H : Hp} {Q : VK} (h : rM X.K X.mg (gS0 f) v1 vs H Q) : ∃ x y, v1 = .str x ∧ vs = [] ∧ f x = some y ∧ (∀ v, (∀ H φ, RD X.K H φ y v) → Q v H) := by
  obtain ⟨φ, S, x, ws, w, S', hs, hx, hws, hg, hq⟩ := h
  unfold gS0 at hg
  split at hg
  · obtain ⟨y, h1, h2⟩ := Option.map_eq_some_iff.mp hg
    cases h2
    cases hx
    cases hws
    exact ⟨_, y, rfl, rfl, h1, fun v hv => hq φ H v .refl hs (hv H φ)⟩
  · cases hg
def upP (x : Str) : Option PyData := if x.length ≤ 5000000 then some (.str (Txt.upper x)) else none
theorem e_upper (ho : SE X E o dO) (hbase : attributeBase o "upper" X.env (eval o X.env) = eval o X.env := by rfl) (hline : (apos.endLine == cpos.line) = true := by rfl) : SE X E (.Call (.Attribute o "upper" apos) [] [] cpos) (dMeth "str" (gS0 upP) dO dNil) :=
  e_meth0 mt_upper (fun v1 vs H Q h => by
    obtain ⟨x, y, e1, e2, h1, h2⟩ := gS0_of h
    unfold upP at h1
    split at h1
    · cases h1; exact ⟨x, e1, e2, by omega, h2 _ fun _ _ => rfl⟩
    · cases h1) F.plainAttrs_str F.slot_str_upper F.type_str_upper ho hbase hline
/-- l.append(x), l.pop(i) -/
def gApp : GM
  | S, .r n, [.d x] => match S[n]? with
    | some (.lst xs) => if small (xs.length + 1) = true then some (.d .none, S.set n (.lst (xs ++ [x]))) else none
    | _ => none
  | _, _, _ => none
theorem e_append (ho : SE X E o dO) (ha : SA X E [e] das) (hbase : attributeBase o "append" X.env (eval o X.env) = eval o X.env := by rfl)
    (hfew : ((backTo cpos (starEach [e] X.env)).all (fun x => !x.1) && (backToKw cpos (keywordEach [] X.env)).all (fun x => x.1.isSome) && decide (([e] : List Expr).length + ([] : List Keyword).length + (if ([] : List Keyword).isEmpty then 0 else 1) < 30)) = true := by rfl)
    (hline : (apos.endLine == cpos.line) = true := by rfl) (hs : starEach [e] X.env = (false, eval e X.env) :: starEach [] X.env := by rfl) (hplain : (backTo cpos (starEach [] X.env)).any (·.1) = false := by rfl) :
    SE X E (.Call (.Attribute o "append" apos) [e] [] cpos) (dMeth "list" gApp dO das) :=
  e_meth mt_append (fun v1 vs H Q h => by
    obtain ⟨φ, S, x, ws, w, S', hs, hx, hws, hg, hq⟩ := h
    unfold gApp at hg
    split at hg
    · rename_i n y
      split at hg
      · rename_i xs hS
        split at hg
        · rename_i hz
          cases hg
          obtain ⟨c, ha, rfl⟩ := hx
          obtain ⟨v, rfl, hv⟩ := one_of hws
          obtain ⟨us, q1, q2⟩ := hs.ob n c _ ha hS
          have nl : notLk S[n]? := by rw [hS]; trivial
          have ex := Ext.wr (o := .lst (us ++ [v])) hs ha nl
          refine ⟨c, us, v, rfl, rfl, q1, by rw [q2.length]; exact small_le hz, hq φ _ _ ex (hs.wr ha nl ⟨_, upd_same, RDs.append (RDs.mono ex _ _ q2) (RDs.one (RD.mono ex _ _ hv))⟩) rfl⟩
        · cases hg
      · cases hg
    · cases hg) F.plainAttrs_list F.slot_list_append F.type_list_append ho ha hbase hfew hline hs hplain
def gPop : GM
  | S, .r n, [.d (.int i)] => match S[n]? with
    | some (.lst xs) => if 0 ≤ i ∧ i < 16777216 then (xs[i.toNat]?).map fun x => (.d x, S.set n (.lst (xs.eraseIdx i.toNat))) else none
    | _ => none
  | _, _, _ => none
theorem e_pop (ho : SE X E o dO) (ha : SA X E [e] das) (hbase : attributeBase o "pop" X.env (eval o X.env) = eval o X.env := by rfl)
    (hfew : ((backTo cpos (starEach [e] X.env)).all (fun x => !x.1) && (backToKw cpos (keywordEach [] X.env)).all (fun x => x.1.isSome) && decide (([e] : List Expr).length + ([] : List Keyword).length + (if ([] : List Keyword).isEmpty then 0 else 1) < 30)) = true := by rfl)
    (hline : (apos.endLine == cpos.line) = true := by rfl) (hs : starEach [e] X.env = (false, eval e X.env) :: starEach [] X.env := by rfl) (hplain : (backTo cpos (starEach [] X.env)).any (·.1) = false := by rfl) :
    SE X E (.Call (.Attribute o "pop" apos) [e] [] cpos) (dMeth "list" gPop dO das) :=
  e_meth mt_popAt (fun v1 vs H Q h => by
    obtain ⟨φ, S, x, ws, w, S', hs, hx, hws, hg, hq⟩ := h
    unfold gPop at hg
    split at hg
    · rename_i n i
      split at hg
      · rename_i xs hS
        split at hg
        · rename_i hz
          obtain ⟨y, h1, h2⟩ := Option.map_eq_some_iff.mp hg
          cases h2
          obtain ⟨c, ha, rfl⟩ := hx
          obtain ⟨v, rfl, hv⟩ := one_of hws
          cases hv
          obtain ⟨us, q1, q2⟩ := hs.ob n c _ ha hS
          obtain ⟨u, g1, g2⟩ := q2.get h1
          have nl : notLk S[n]? := by rw [hS]; trivial
          have ex := Ext.wr (o := .lst (us.eraseIdx i.toNat)) hs ha nl
          have hlt := (List.getElem?_eq_some_iff.mp g1).1
          refine ⟨c, us, i, i.toNat, u, rfl, rfl, q1, by omega, by omega, ?_, g1, hq φ _ _ ex (hs.wr ha nl ⟨_, upd_same, RDs.eraseIdx _ (RDs.mono ex _ _ q2)⟩) (RD.mono ex _ _ g2)⟩
          exact seqIndex_of hz.1 (by omega)
        · cases hg
      · cases hg
    · cases hg) F.plainAttrs_list F.slot_list_pop F.type_list_pop ho ha hbase hfew hline hs hplain
/-- d.update(pairs) -/
def prP : PyData → Option (List Key × PyData)
  | .tuple [.tuple ks, v] => (keysP ks).map fun k => (k, v)
  | _ => none
def prsP : List PyData → Option (List (List Key × PyData))
  | [] => some []
  | x :: r => match prP x, prsP r with
    | some q, some qs => some (q :: qs)
    | _, _ => none
def mergeTD (kvs : List (List Key × PyData)) (ps : List (List Key × PyData)) : List (List Key × PyData) := ps.foldl (fun acc q => putD acc q.1 q.2) kvs
def gUpd : GM
  | S, .r n, [.d (.list xs)] => match S[n]? with
    | some (.dt kvs) => match prsP xs with
      | some ps => if small (kvs.length + xs.length) = true then some (.d .none, S.set n (.dt (mergeTD kvs ps))) else none
      | none => none
    | _ => none
  | _, _, _ => none
theorem prs_of {K : PySem.W.Frag} {H : Hp} {φ : Fi} : ∀ {xs : List PyData} {vs : List V} {ps : List (List Key × PyData)}, RDs K H φ xs vs → prsP xs = some ps →
    ∃ qs : List Pr, vs = qs.map (fun q => V.ref q.t) ∧ (∀ q ∈ qs, PrOk H q) ∧ qs.length = xs.length ∧ qs.map (·.k) = ps.map (·.1) ∧ RDs K H φ (ps.map (·.2)) (qs.map (·.v))
  | [], _, _, h, e => by cases e; cases h; exact ⟨[], rfl, (fun _ h => nomatch h), rfl, rfl, rfl⟩
  | x :: xs, _, ps, ⟨v, r, e1, h1, h2⟩, e => by
    subst e1
    unfold prsP at e
    match hp : prP x, hr : prsP xs, e with
    | none, _, e => cases e
    | some _, none, e => cases e
    | some q, some qs, e =>
      cases e
      obtain ⟨zs, g1, g2, g3, g4, g5⟩ := prs_of h2 hr
      unfold prP at hp
      split at hp
      · obtain ⟨k, k1, k2⟩ := Option.map_eq_some_iff.mp hp
        subst k2
        obtain ⟨c, us, rfl, t1, w1, r1, e1, ⟨c2, us2, rfl, t2, d2⟩, w2, r2, e2, d3, e3⟩ := h1
        cases e3; subst e2; subst e1
        have kk := keysP_of d2 k1
        subst kk
        refine ⟨⟨c, c2, k, w2⟩ :: zs, by simp [g1], fun q hq => ?_, by simp [g3], by simp [g4], w2, _, rfl, d3, g5⟩
        rcases List.mem_cons.mp hq with e | hq
        · subst e; exact ⟨t1, t2⟩
        · exact g2 q hq
      · cases hp
theorem mergeT_rd {K : PySem.W.Frag} {H : Hp} {φ : Fi} : ∀ {qs : List Pr} {ps : List (List Key × PyData)} {kvs : List (List Key × PyData)} {es : List (List Key × V)}, qs.map (·.k) = ps.map (·.1) → RDs K H φ (ps.map (·.2)) (qs.map (·.v)) → KR K H φ kvs es → KR K H φ (mergeTD kvs ps) (mergeT es qs)
  | [], [], _, _, _, _, h => h
  | [], _ :: _, _, _, h, _, _ => by simp at h
  | _ :: _, [], _, _, h, _, _ => by simp at h
  | q :: qs, p :: ps, kvs, es, h, ⟨v, r, e, h1, h2⟩, h3 => by
    simp at h e
    obtain ⟨k1, k2⟩ := h
    obtain ⟨k3, k4⟩ := e
    subst k4
    show KR K H φ (mergeTD (putD kvs p.1 p.2) ps) (mergeT (putK es q.k q.v) qs)
    refine mergeT_rd (by simpa using k2) h2 ?_
    rw [k1, k3]
    exact h3.put h1
theorem e_update (hu : X.A.units + 64 < cLine) (ho : SE X E o dO) (ha : SA X E [e] das) (hc : X.calm = true := by rfl) (hbase : attributeBase o "update" X.env (eval o X.env) = eval o X.env := by rfl)
    (hfew : ((backTo cpos (starEach [e] X.env)).all (fun x => !x.1) && (backToKw cpos (keywordEach [] X.env)).all (fun x => x.1.isSome) && decide (([e] : List Expr).length + ([] : List Keyword).length + (if ([] : List Keyword).isEmpty then 0 else 1) < 30)) = true := by rfl)
    (hline : (apos.endLine == cpos.line) = true := by rfl) (hs : starEach [e] X.env = (false, eval e X.env) :: starEach [] X.env := by rfl) (hplain : (backTo cpos (starEach [] X.env)).any (·.1) = false := by rfl) :
    SE X E (.Call (.Attribute o "update" apos) [e] [] cpos) (dMeth "dict" gUpd dO das) :=
  e_meth (mt_update hc hu) (fun v1 vs H Q h => by
    obtain ⟨φ, S, x, ws, w, S', hs, hx, hws, hg, hq⟩ := h
    unfold gUpd at hg
    split at hg
    · rename_i n xs
      split at hg
      · rename_i kvs hS
        split at hg
        · rename_i ps hps
          split at hg
          · rename_i hz
            cases hg
            obtain ⟨c, ha, rfl⟩ := hx
            obtain ⟨v, rfl, l, us, rfl, f1, r1⟩ := one_of hws
            obtain ⟨es, q1, q2⟩ := hs.dt ha hS
            obtain ⟨qs, g1, g2, g3, g4, g5⟩ := prs_of r1 hps
            subst g1
            have nl : notLk S[n]? := by rw [hS]; trivial
            have ex := Ext.wr (o := .dT (mergeT es qs)) hs ha nl
            exact ⟨c, es, l, qs, rfl, rfl, q1, f1.1, g2, by rw [q2.length, g3]; exact small_le hz, hq φ _ _ ex (hs.wr ha nl (.dt' upd_same (mergeT_rd g4 (RDs.mono ex _ _ g5) (q2.mono ex)))) rfl⟩
          · cases hg
        · cases hg
      · cases hg
    · cases hg) F.plainAttrs_dict F.slot_dict_update F.type_dict_update ho ha hbase hfew hline hs hplain
end
end CL
end

section
/-! part CLLock -/
set_option Elab.async false
set_option linter.all false
set_option maxRecDepth 100000
set_option maxHeartbeats 1000000
/-! CLLock: what is walked; a dict stays as it is while it is walked; dicts as their keys. -/
namespace CL
open PySem PySem.Spec PyProof.Rows L2

section
variable {K : PySem.W.Frag} {H H' : Hp} {φ φ' : Fi} {mg : Str → Option Value}
mutual
theorem RD.map (k : ∀ b vs, FL H φ b vs → FL H' φ' b vs) (t : ∀ b vs, TP K H b vs → TP K H' b vs) : ∀ (d : PyData) (v : V), RD K H φ d v → RD K H' φ' d v
  | .none, _, h => h
  | .bool _, _, h => h
  | .int _, _, h => h
  | .str _, _, h => h
  | .list ds, _, ⟨a, vs, e1, h1, h2⟩ => ⟨a, vs, e1, k a vs h1, RDs.map k t ds vs h2⟩
  | .tuple ds, _, ⟨a, vs, e1, h1, h2⟩ => ⟨a, vs, e1, t a vs h1, RDs.map k t ds vs h2⟩
  | .dict _, _, h => h
theorem RDs.map (k : ∀ b vs, FL H φ b vs → FL H' φ' b vs) (t : ∀ b vs, TP K H b vs → TP K H' b vs) : ∀ (ds : List PyData) (vs : List V), RDs K H φ ds vs → RDs K H' φ' ds vs
  | [], _, h => h
  | d :: ds, _, ⟨v, r, e1, h1, h2⟩ => ⟨v, r, e1, RD.map k t d v h1, RDs.map k t ds r h2⟩
end
theorem OR.map (k : ∀ b vs, FL H φ b vs → FL H' φ' b vs) (t : ∀ b vs, TP K H b vs → TP K H' b vs) {a : Addr} (ha : H' a = H a) : ∀ {o : O}, OR K H φ a o → OR K H' φ' a o
  | .lst xs, ⟨vs, h1, h2⟩ => ⟨vs, ha.trans h1, RDs.map k t _ _ h2⟩
  | .dk kvs, ⟨es, h1, h2, h3⟩ => ⟨es, ha.trans h1, h2, RDs.map k t _ _ h3⟩
  | .dt kvs, ⟨es, h1, h2, h3⟩ => ⟨es, ha.trans h1, h2, RDs.map k t _ _ h3⟩
  | .lkK kvs, ⟨es, ⟨od, h1⟩, h2, h3⟩ => ⟨es, ⟨od, ha.trans h1⟩, h2, RDs.map k t _ _ h3⟩
  | .lkT kvs, ⟨es, ⟨od, h1⟩, h2, h3⟩ => ⟨es, ⟨od, ha.trans h1⟩, h2, RDs.map k t _ _ h3⟩
theorem RW.map (k : ∀ b vs, FL H φ b vs → FL H' φ b vs) (t : ∀ b vs, TP K H b vs → TP K H' b vs) : ∀ {w : W} {v : V}, RW K H φ mg w v → RW K H' φ mg w v
  | .d x, v, h => RD.map k t x v h
  | .r n, v, h => h
  | .g x, v, h => h
  | .s xs, v, ⟨a, vs, e1, h1, h2⟩ => ⟨a, vs, e1, h1.imp (fun q => k a vs q) id, RDs.map k t _ _ h2⟩
/-- the thing at a is a dict -/
def DU : HO → Prop
  | .dK _ => True
  | .dT _ => True
  | _ => False
section
variable {a : Addr} {u : HO} {od : Obj} (hu : DU u) (hl : H' a = some (.frz od u))
include hu hl
theorem fl_un {b : Addr} {vs : List V} (h : FL H' φ b vs) : FL (upd H' a u) φ b vs := by
  have ne : b ≠ a := by
    rintro rfl
    rcases h.1 with h | ⟨o, h⟩
    · rw [hl] at h; cases h
    · rw [hl] at h; cases h; exact hu
  exact ⟨by rcases h.1 with q | ⟨o, q⟩
            · exact .inl ((upd_ne ne).trans q)
            · exact .inr ⟨o, (upd_ne ne).trans q⟩, h.2⟩
theorem tp_un {b : Addr} {vs : List V} (h : TP K H' b vs) : TP K (upd H' a u) b vs := by
  have ne : b ≠ a := by rintro rfl; rw [TP, hl] at h; cases h
  exact (upd_ne ne).trans h
theorem SR.un {S : So} {n : Nat} {ob : O} (hs : SR K H' φ S) (ha : φ.l[n]? = some a) (ho : OR K (upd H' a u) φ a ob) : SR K (upd H' a u) φ (S.set n ob) := by
  refine ⟨by simp [hs.len], hs.nd, fun i b w h1 h2 => ?_, fun b hb => ?_⟩
  · by_cases e : n = i
    · subst e
      rw [ha] at h1; cases h1
      have hlt : n < S.length := by rw [← hs.len]; exact (List.getElem?_eq_some_iff.mp ha).1
      rw [List.getElem?_set_self hlt] at h2; cases h2
      exact ho
    · rw [List.getElem?_set_ne e] at h2
      have ne : b ≠ a := by
        rintro rfl
        exact e ((List.getElem?_inj (List.getElem?_eq_some_iff.mp ha).1 hs.nd).mp (ha.trans h1.symm))
      exact OR.map (fun _ _ q => fl_un hu hl q) (fun _ _ q => tp_un hu hl q) (upd_ne ne) (hs.ob i b w h1 h2)
  · obtain ⟨h1, vs, h2⟩ := hs.hid b hb
    have ne : b ≠ a := by rintro rfl; rw [hl] at h2; cases h2
    exact ⟨h1, vs, (upd_ne ne).trans h2⟩
end
theorem Ext.un {a : Addr} {u : HO} {od : Obj} (hu : DU u) (h0 : H a = some u) (ha : a ∈ φ.l) (e : Ext φ (upd H a (.frz od u)) φ' H') : Ext φ H φ' (upd H' a u) := by
  have key : ∀ b o, b ≠ a → H b = some o → upd H a (.frz od u) b = some o := fun b o ne h => (upd_ne ne).trans h
  refine ⟨e.pre, ?_, fun b h => ?_, fun b o h n => ?_, fun b vs h => ?_, fun b o v h => ?_⟩
  · obtain ⟨l, e1, e2⟩ := e.hid
    refine ⟨l, e1, fun b hb => ?_⟩
    have h1 := e2 b hb
    have ne : b ≠ a := by rintro rfl; rw [upd_same] at h1; cases h1
    rw [upd_ne ne] at h1; exact h1
  · have ne : b ≠ a := by rintro rfl; rw [upd_same] at h; cases h
    rw [upd_ne ne] at h
    have h1 := e.trk b h
    rw [upd_ne ne] at h1; exact h1
  · have ne : b ≠ a := by rintro rfl; exact n ha
    obtain ⟨h1, h2⟩ := e.kept b o (key b o ne h) n
    exact ⟨(upd_ne ne).trans h1, h2⟩
  · have ne : b ≠ a := by rintro rfl; rw [h0] at h; cases h; exact hu
    exact (upd_ne ne).trans (e.tups b vs (key b _ ne h))
  · have ne : b ≠ a := by rintro rfl; rw [h0] at h; cases h; exact hu
    exact (upd_ne ne).trans (e.frz b o v (key b _ ne h))
end
/-- the dict that slot i holds, locked; and back -/
def lockO : O → Option O
  | .dk kvs => some (.lkK kvs)
  | .dt kvs => some (.lkT kvs)
  | _ => none
def slotR (σ : En) (i : Nat) : Option Nat := match σ[i]? with
  | some (some (.r n)) => some n
  | _ => none
def lockS (σ : En) (i : Nat) (S : So) : Option (Nat × O × So) := match slotR σ i with
  | some n => match S[n]? with
    | some ob => (lockO ob).map fun l => (n, ob, S.set n l)
    | none => none
  | none => none
section
variable {X : Cx} {E : EK} {pos p : Pos} {e : Expr} {st : Stmt}
theorem lock_of {φ : Fi} {H : Hp} {σ : En} {σV : L2.St} {S S1 : So} {i n : Nat} {ob : O} (hs : SR X.K H φ S) (he : ER X.K H φ X.mg σV σ) (h : lockS σ i S = some (n, ob, S1)) :
    ∃ a u, DU u ∧ H a = some u ∧ Mut (some u) ∧ φ.l[n]? = some a ∧ OR X.K H φ a ob ∧ (∀ H2 φ2, H2 a = some u → Ext φ H φ2 H2 → OR X.K H2 φ2 a ob) ∧ ∀ od, Ext φ H φ (upd H a (.frz od u)) ∧ SR X.K (upd H a (.frz od u)) φ S1 := by
  unfold lockS at h
  split at h
  · rename_i m hm
    split at h
    · rename_i o ho
      obtain ⟨l, h1, h2⟩ := Option.map_eq_some_iff.mp h
      cases h2
      unfold slotR at hm
      split at hm
      · rename_i m' hσ
        cases hm
        obtain ⟨v, _, a, ha, _⟩ := he.at_ i _ hσ
        have or := hs.ob _ a _ ha ho
        unfold lockO at h1
        split at h1
        · rename_i kvs
          cases h1
          obtain ⟨es, q1, q2⟩ := hs.dk ha ho
          have nl : notLk S[n]? := by rw [ho]; trivial
          refine ⟨a, .dK es, trivial, q1, trivial, ha, or, fun H2 φ2 k e => .dk' k (q2.mono e), fun od => ?_⟩
          have ex := Ext.wr (o := .frz od (.dK es)) hs ha nl
          exact ⟨ex, hs.wr ha nl ⟨es, ⟨od, upd_same⟩, (q2.mono ex).to.1, (q2.mono ex).to.2⟩⟩
        · rename_i kvs
          cases h1
          obtain ⟨es, q1, q2⟩ := hs.dt ha ho
          have nl : notLk S[n]? := by rw [ho]; trivial
          refine ⟨a, .dT es, trivial, q1, trivial, ha, or, fun H2 φ2 k e => .dt' k (q2.mono e), fun od => ?_⟩
          have ex := Ext.wr (o := .frz od (.dT es)) hs ha nl
          exact ⟨ex, hs.wr ha nl ⟨es, ⟨od, upd_same⟩, (q2.mono ex).to.1, (q2.mono ex).to.2⟩⟩
        · cases h1
      · cases hm
    · cases h
  · cases h
def dLockN (i : Nat) (d : DN) : DN := fun σ S => match lockS σ i S with
  | some (n, ob, S1) => match d σ S1 with
    | some (.ok xs S2) => some (.ok xs (S2.set n ob))
    | _ => none
  | none => none
theorem n_lock (i : Nat) {d : DN} (h : SN X E e d) : SN X E e (dLockN i d) := by
  refine PEw (pe_lock h) fun σV H Q q => ?_
  obtain ⟨φ, σ, S, r, hs, he, hd, hq⟩ := q
  unfold dLockN at hd
  split at hd
  · rename_i n ob S1 hl
    obtain ⟨a, u, hu, h0, mu, ha, or, back, lk⟩ := lock_of hs he hl
    refine ⟨a, u, h0, mu, fun od => ?_⟩
    obtain ⟨ex, s1⟩ := lk od
    split at hd
    · rename_i xs S2 hx
      cases hd
      refine ⟨φ, σ, S1, .ok xs S2, s1, he.mono ex, hx, fun φ2 H2 p vs e2 s2 hp x2 => ?_⟩
      have hfr : H2 a = some (.frz od u) := e2.frz a od u upd_same
      have ne : a ≠ p := by rintro rfl; rw [hp] at hfr; cases hfr
      have eu := Ext.un hu h0 (List.mem_of_getElem? ha) e2
      have ha2 : φ2.l[n]? = some a := by
        obtain ⟨t, ht⟩ := e2.pre
        rw [← ht, List.getElem?_append_left (List.getElem?_eq_some_iff.mp ha).1]; exact ha
      refine ⟨by rw [upd_ne ne]; exact hfr, ?_⟩
      have cm : upd (upd H2 p (.lst vs)) a u = upd (upd H2 a u) p (.lst vs) := by
        funext b
        unfold upd
        by_cases e1 : b = a
        · subst e1; simp [ne]
        · simp [e1]
      rw [cm]
      refine hq φ2 _ p vs eu (SR.un hu hfr s2 ha2 (back _ _ upd_same eu)) ((upd_ne ne.symm).trans hp) ?_
      exact RDs.map (fun _ _ q => fl_un hu hfr q) (fun _ _ q => tp_un hu hfr q) _ _ x2
    · cases hd
  · cases hd
def sLock (i : Nat) (d : DS) : DS := fun σ S => match lockS σ i S with
  | some (n, ob, S1) => match d σ S1 with
    | some (.nx σ2 S2) => some (.nx σ2 (S2.set n ob))
    | some (.bk σ2 S2) => some (.bk σ2 (S2.set n ob))
    | some (.ct σ2 S2) => some (.ct σ2 (S2.set n ob))
    | some (.rt w S2) => some (.rt w (S2.set n ob))
    | _ => none
  | none => none
theorem ER.map {K : PySem.W.Frag} {H H' : Hp} {φ : Fi} {mg : Str → Option Value} (k : ∀ b vs, FL H φ b vs → FL H' φ b vs) (t : ∀ b vs, TP K H b vs → TP K H' b vs) {σV : L2.St} {σ : En} (h : ER K H φ mg σV σ) : ER K H' φ mg σV σ :=
  ⟨h.len, fun i w q => let ⟨v, h1, h2⟩ := h.at_ i w q; ⟨v, h1, RW.map k t h2⟩⟩
theorem s_lock (i : Nat) {d : DS} (h : SS X E st d) : SS X E st (sLock i d) := by
  refine PSw (ps_lock h) fun D σV H q => ?_
  obtain ⟨φ, σ, S, r, hs, he, hd, hq⟩ := q
  unfold sLock at hd
  split at hd
  · rename_i n ob S1 hl
    obtain ⟨a, u, hu, h0, mu, ha, or, back, lk⟩ := lock_of hs he hl
    refine ⟨a, u, h0, mu, fun od => ?_⟩
    obtain ⟨ex, s1⟩ := lk od
    have fin : ∀ {φ2 : Fi} {H2 : Hp} {S2 : So}, Ext φ (upd H a (.frz od u)) φ2 H2 → SR X.K H2 φ2 S2 → H2 a = some (.frz od u) ∧ Ext φ H φ2 (upd H2 a u) ∧ SR X.K (upd H2 a u) φ2 (S2.set n ob) := fun {φ2 H2 S2} e2 s2 => by
      have hfr : H2 a = some (.frz od u) := e2.frz a od u upd_same
      have eu := Ext.un hu h0 (List.mem_of_getElem? ha) e2
      have ha2 : φ2.l[n]? = some a := by
        obtain ⟨t, ht⟩ := e2.pre
        rw [← ht, List.getElem?_append_left (List.getElem?_eq_some_iff.mp ha).1]; exact ha
      exact ⟨hfr, eu, SR.un hu hfr s2 ha2 (back _ _ upd_same eu)⟩
    match hx : d σ S1, hd with
    | none, hd => cases hd
    | some (.xc _ _ _), hd => cases hd
    | some (.nx σ2 S2), hd =>
      cases hd
      refine ⟨φ, σ, S1, _, s1, he.mono ex, hx, fun φ2 H2 σV2 e2 s2 r2 => ?_⟩
      obtain ⟨f1, f2, f3⟩ := fin e2 s2
      exact ⟨f1, hq φ2 _ σV2 f2 f3 (r2.map (fun _ _ q => fl_un hu f1 q) fun _ _ q => tp_un hu f1 q)⟩
    | some (.bk σ2 S2), hd =>
      cases hd
      refine ⟨φ, σ, S1, _, s1, he.mono ex, hx, fun φ2 H2 σV2 e2 s2 r2 => ?_⟩
      obtain ⟨f1, f2, f3⟩ := fin e2 s2
      exact ⟨f1, hq φ2 _ σV2 f2 f3 (r2.map (fun _ _ q => fl_un hu f1 q) fun _ _ q => tp_un hu f1 q)⟩
    | some (.ct σ2 S2), hd =>
      cases hd
      refine ⟨φ, σ, S1, _, s1, he.mono ex, hx, fun φ2 H2 σV2 e2 s2 r2 => ?_⟩
      obtain ⟨f1, f2, f3⟩ := fin e2 s2
      exact ⟨f1, hq φ2 _ σV2 f2 f3 (r2.map (fun _ _ q => fl_un hu f1 q) fun _ _ q => tp_un hu f1 q)⟩
    | some (.rt w S2), hd =>
      cases hd
      refine ⟨φ, σ, S1, _, s1, he.mono ex, hx, fun φ2 H2 v e2 s2 r2 => ?_⟩
      obtain ⟨f1, f2, f3⟩ := fin e2 s2
      exact ⟨f1, hq φ2 _ v f2 f3 (RW.map (fun _ _ q => fl_un hu f1 q) (fun _ _ q => tp_un hu f1 q) r2)⟩
  · cases hd
/-! ### a locked dict is walked -/
def lkKeys (S : So) : W → Option (List PyData)
  | .r n => match S[n]? with
    | some (.lkK kvs) => some (kvs.map fun p => keyD p.1)
    | some (.lkT kvs) => some (keysOf kvs)
    | _ => none
  | _ => none
def dKeys (d : DE) : DI := fun σ S => bnd (d σ S) fun w S1 => giv ((lkKeys S1 w).bind fun xs => if small xs.length = true then some (xs, none) else none) S1
theorem itkt_it {K : PySem.W.Frag} {d : Addr} {o : Obj} {es : List (List Key × V)} {φ : Fi} {H : Hp} (h : H d = some (.frz o (.dT es))) : ItD K (Itkt d o es) (es.map fun p => tupOf p.1) none φ H where
  go := fun φ2 H2 S i x e s _ hi => by
    rw [List.getElem?_map] at hi
    obtain ⟨q, h1, h2⟩ := Option.map_eq_some_iff.mp hi
    refine ⟨⟨e.frz _ _ _ h, (List.getElem?_eq_some_iff.mp h1).1⟩, fun v H' hy => ?_⟩
    obtain ⟨rfl, k, u, b, g1, rfl, g2⟩ := hy
    rw [h1] at g1; cases g1
    subst h2
    exact ⟨.refl, s, b, _, rfl, g2, keysD_rd k⟩
  stop := fun φ2 H2 S e s _ => ⟨e.frz _ _ _ h, by rw [List.length_map]; exact Nat.le_refl _⟩
theorem itk_it {K : PySem.W.Frag} {d : Addr} {o : Obj} {es : List (Key × V)} {φ : Fi} {H : Hp} (h : H d = some (.frz o (.dK es))) : ItD K (Itk d o es) (es.map fun p => keyD p.1) none φ H where
  go := fun φ2 H2 S i x e s _ hi => by
    rw [List.getElem?_map] at hi
    obtain ⟨q, h1, h2⟩ := Option.map_eq_some_iff.mp hi
    refine ⟨⟨e.frz _ _ _ h, (List.getElem?_eq_some_iff.mp h1).1⟩, fun v H' hy => ?_⟩
    obtain ⟨rfl, k, u, g1, rfl⟩ := hy
    rw [h1] at g1; cases g1
    subst h2
    exact ⟨.refl, s, keyD_rd k⟩
  stop := fun φ2 H2 S e s _ => ⟨e.frz _ _ _ h, by rw [List.length_map]; exact Nat.le_refl _⟩
theorem i_keys {tg : Expr} {d : DE} (h : SE X E e d) : SI X E tg e (dKeys d) := by
  refine PIw (pi_keys h) fun σV H R q => ?_
  obtain ⟨φ, σ, S, r', hs, hen, hd, hq⟩ := q
  unfold dKeys at hd
  match ha : d σ S, hd with
  | none, hd => cases hd
  | some (.xc x S1), hd => cases hd; exact ⟨φ, σ, S, .xc x S1, hs, hen, ha, hq⟩
  | some (.ok w S1), hd =>
    refine ⟨φ, σ, S, .ok w S1, hs, hen, ha, fun φ1 H1 v e1 s1 x1 => ?_⟩
    rw [bnd_ok] at hd
    match hg : (lkKeys S1 w).bind (fun xs => if small xs.length = true then some (xs, (none : Option Nat)) else none), hd with
    | none, hd => cases hd
    | some z, hd =>
      cases hd
      obtain ⟨xs, g1, g2⟩ := Option.bind_eq_some_iff.mp hg
      split at g2
      · rename_i hz
        cases g2
        unfold lkKeys at g1
        split at g1
        · rename_i n
          obtain ⟨c, hc, rfl⟩ := x1
          split at g1
          · rename_i kvs hS
            cases g1
            obtain ⟨es, ⟨od, q1⟩, q2, q3⟩ := s1.ob n c _ hc hS
            have eq : (es.map fun p => keyD p.1) = kvs.map fun p => keyD p.1 := by
              have := congrArg (List.map keyD) q2
              rw [List.map_map, List.map_map] at this
              exact this
            refine ⟨c, od, rfl, .inl ⟨es, q1, hq φ1 H1 _ e1 s1 ?_ (small_le hz)⟩⟩
            have it := itk_it (K := X.K) (φ := φ1) q1
            rw [eq] at it
            exact it
          · rename_i kvs hS
            cases g1
            obtain ⟨es, ⟨od, q1⟩, q2, q3⟩ := s1.ob n c _ hc hS
            have eq : (es.map fun p => tupOf p.1) = keysOf kvs := by
              have := congrArg (List.map tupOf) q2
              rw [List.map_map, List.map_map] at this
              exact this
            refine ⟨c, od, rfl, .inr ⟨es, q1, hq φ1 H1 _ e1 s1 ?_ (small_le hz)⟩⟩
            have it := itkt_it (K := X.K) (φ := φ1) q1
            rw [eq] at it
            exact it
          · cases g1
        · cases g1
      · cases g2
/-! ### sorted(d), min(d) of a dict with tuples for keys; len(set(xs)) of texts -/
def dtW (S : So) : W → Option (List (List Key × PyData))
  | .r n => match S[n]? with
    | some (.dt kvs) => some kvs
    | _ => none
  | _ => none
theorem dtW_of {K : PySem.W.Frag} {mg : Str → Option Value} {H : Hp} {φ : Fi} {S : So} {w : W} {v : V} {kvs : List (List Key × PyData)} (hs : SR K H φ S) (hx : RW K H φ mg w v) (h : dtW S w = some kvs) : ∃ a es, v = .ref a ∧ H a = some (.dT es) ∧ KR K H φ kvs es ∧ (es.map fun p => tupOf p.1) = keysOf kvs := by
  unfold dtW at h
  split at h
  · obtain ⟨a, ha, rfl⟩ := hx
    split at h
    · rename_i kvs' hS
      cases h
      obtain ⟨es, q1, q2⟩ := hs.dt ha hS
      refine ⟨a, es, rfl, q1, q2, ?_⟩
      have := congrArg (List.map tupOf) q2.to.1
      rw [List.map_map, List.map_map] at this
      exact this
    · cases h
  · cases h
def sortDG : So → List W → Option (List PyData)
  | S, [w] => (dtW S w).bind fun kvs => if sortOk (keysOf kvs) = true then some (srtD (keysOf kvs)) else none
  | _, _ => none
theorem b_sortedD (hu : X.A.units + 64 < cLine) (hc : X.calm = true := by rfl) : CallR X (.builtin "sorted") (rCN X.K X.mg sortDG) :=
  callw (call_sortedDT hc hu) fun vs H Q ⟨φ, S, ws, xs, hs, hx, hg, hq⟩ => by
    unfold sortDG at hg
    split at hg
    · obtain ⟨v, rfl, hv⟩ := one_of hx
      obtain ⟨kvs, h1, h2⟩ := Option.bind_eq_some_iff.mp hg
      split at h2
      · rename_i ok
        cases h2
        obtain ⟨a, es, rfl, q1, q2, q3⟩ := dtW_of hs hv h1
        refine ⟨a, es, rfl, q1, by rw [q3]; exact ok, fun p bs hp ik => ?_⟩
        have rd := keys_rd (K := X.K) (φ := φ) ik
        rw [q3] at rd
        have := hq φ H p _ .refl hs hp (srt_rd rd)
        rw [q3]
        exact this
      · cases h2
    · cases hg
def minDG : So → List W → Option W
  | S, [w] => (dtW S w).bind fun kvs => match keysOf kvs with
    | x :: r => if (likeAll (x :: r) && decide (PyData.depthAll (x :: r) ≤ 60)) = true then some (.d (PySem.W.minD x r)) else none
    | [] => none
  | _, _ => none
theorem b_minD (hu : X.A.units + 64 < cLine) (hc : X.calm = true := by rfl) : CallR X (.builtin "min") (rC X.K X.mg minDG) :=
  callw (call_minDT hc hu) fun vs H Q ⟨φ, S, ws, w, hs, hx, hg, hq⟩ => by
    unfold minDG at hg
    split at hg
    · obtain ⟨v, rfl, hv⟩ := one_of hx
      obtain ⟨kvs, h1, h2⟩ := Option.bind_eq_some_iff.mp hg
      split at h2
      · rename_i x r hk
        split at h2
        · rename_i ok
          rw [Bool.and_eq_true] at ok
          cases h2
          obtain ⟨a, es, rfl, q1, q2, q3⟩ := dtW_of hs hv h1
          refine ⟨a, es, x, r, rfl, q1, q3.trans hk, ok.1, of_decide_eq_true ok.2, fun b k hb hk2 => hq φ H _ .refl hs ?_⟩
          rw [← hk2]
          exact ⟨b, _, rfl, hb, keysD_rd k⟩
        · cases h2
      · cases h2
    · cases hg
def txts : List PyData → Option (List Str)
  | [] => some []
  | .str x :: r => (txts r).map (x :: ·)
  | _ :: _ => none
theorem txts_of {K : PySem.W.Frag} {H : Hp} {φ : Fi} : ∀ {ds : List PyData} {vs : List V} {xs : List Str}, RDs K H φ ds vs → txts ds = some xs → vs = xs.map V.str
  | [], _, _, h, e => by cases e; exact h
  | .str b :: ds, _, _, ⟨v, r, e1, h1, h2⟩, e => by
    obtain ⟨cs, e2, e3⟩ := Option.map_eq_some_iff.mp e
    subst e3; subst e1
    rw [txts_of h2 e2, show v = .str b from h1]; rfl
  | .none :: _, _, _, _, e => by cases e
  | .int _ :: _, _, _, _, e => by cases e
  | .bool _ :: _, _, _, _, e => by cases e
  | .list _ :: _, _, _, _, e => by cases e
  | .tuple _ :: _, _, _, _, e => by cases e
  | .dict _ :: _, _, _, _, e => by cases e
def setLen (S : So) (w : W) : Option W := (lstW S w).bind fun ds => (txts ds).bind fun xs => if xs.length < 4000 then some (.d (.int ((once xs).length : Nat))) else none
def dLenSet (d : DE) : DE := fun σ S => bnd (d σ S) fun w S1 => giv (setLen S1 w) S1
theorem e_lenSet {a : Expr} {da : DE} {p2 q : Pos} (hm : X.mg "len" = none) (hm2 : X.mg "set" = none) (ha : SE X E a da) (hc : X.calm = true := by rfl) (hg : Gl X "len" := by rfl) (hg2 : Gl X "set" := by rfl)
    (na : starEach [a] X.env = (false, eval a X.env) :: starEach [] X.env := by rfl) : SE X E (.Call (.Name "len" p) [.Call (.Name "set" p2) [a] [] q] [] pos) (dLenSet da) := by
  refine ⟨fun pins s σ H Q I h => ?_⟩
  refine Call_ (ld_blt I hg hm boot_len (PyProof.Rows.callWith_builtin1 (PyProof.Rows.args_cons ?_ rfl) rfl rfl))
  refine Call_ (ld_blt I hg2 hm2 boot_set (PyProof.Rows.callWith_type1 (PyProof.Rows.args_cons ?_ na) na rfl))
  obtain ⟨φ, σ', S, r', hs, he, hd, hq⟩ := h
  have run := ha.run pins s σ H
  unfold dLenSet at hd
  match hda : da σ' S, hd with
  | none, hd => cases hd
  | some (.xc x S1), hd => cases hd; exact thn (run (fun _ _ => False) I ⟨φ, σ', S, .xc x S1, hs, he, hda, hq⟩) fun v s1 ⟨x, H1, I1, r1, q1⟩ => q1.elim
  | some (.ok w S1), hd =>
    refine thn (run (fun x H1 => ∃ φ1, Ext φ H φ1 H1 ∧ SR X.K H1 φ1 S1 ∧ RW X.K H1 φ1 X.mg w x) I ⟨φ, σ', S, .ok w S1, hs, he, hda, fun φ1 H1 v e1 s1 x1 => ⟨φ1, e1, s1, x1⟩⟩) fun v s1 ⟨x, H1, I1, r1, φ1, e1, s1, x1⟩ => PyProof.Rows.args_nil ?_
    rw [bnd_ok] at hd
    match hg : setLen S1 w, hd with
    | none, hd => cases hd
    | some u, hd =>
      cases hd
      obtain ⟨ds, g1, g2⟩ := Option.bind_eq_some_iff.mp hg
      obtain ⟨xs, g3, g4⟩ := Option.bind_eq_some_iff.mp g2
      split at g4
      · rename_i hz
        cases g4
        obtain ⟨l, vs, rfl, f1, q1⟩ := seqL_of s1 x1 (lstW_of g1)
        have e5 := txts_of q1 g3
        subst e5
        cases r1
        obtain ⟨its, rv, pl, _⟩ := I1.list f1
        refine set_texts (I1.ok.hd hc) pl.isList (by simpa using strsAre_of rv) (by unfold scanBound; omega) fun h2 tk hS hk => PyProof.Rows.args_nil ?_
        obtain ⟨o, es, ep, t, ho, hex, hdd, _, _, _, hf, hn⟩ := hS
        have le := once_le xs []
        have le2 : (once xs).length ≤ xs.length := by unfold once; simpa using le
        have I2 : Inv X pins σ H1 _ := I1.kept (t' := tk) fun b o e => hk b o (Heap.lt_size e) e
        refine call_len_set ho hex hdd hf (by rw [hn]; omega) ⟨.int ((once xs).length : Nat), H1, I2.tok _, ⟨_, by rw [hn]⟩, hq φ1 H1 _ e1 s1 rfl⟩
      · cases g4
end
end CL
end

section
/-! part CLCal -/
set_option Elab.async false
set_option linter.all false
set_option maxRecDepth 100000
/-! CLCal: defs by name, for the printer; texts walked too. -/
namespace CL
open PySem PySem.Spec PyProof.Rows L2

theorem hu5_of {A : Around} {k : Nat} (hr : Room k A) : A.units + 65 < cLine := by have := hr.un; omega
/-- a def of the module that may be called by its name -/
structure CalG (P : Program) (w : World) (K : PySem.W.Frag) (mg : Str → Option Value) (base : Heap) (k : Nat) (x : Str) (F : DF) : Prop where
  ex : ∃ (f : Addr) (fd : FuncData) (ps : List Str), FnG P w K mg base CX0 k f fd ps (spF K mg F) ∧ mg x = some (.ref f) ∧ PySem.W.keepIn K (.ref f) = true ∧ Binds K fd ps [] ∧ ∃ (oc : Value) (od : Option Addr) (osl : Array (Option Value)), K.lookup f = some ⟨oc, od, .func fd, osl⟩ ∧ fd.params.args.map (·.arg) = ps
/-- a def as the module has it -/
structure DefG (K : PySem.W.Frag) (mg : Str → Option Value) (x : Str) (st : Stmt) (ps : List Str) : Prop where
  ex : ∃ (f : Addr) (fd : FuncData), Fun K x x st f fd ∧ mg x = some (.ref f) ∧ Binds K fd ps [] ∧ (defArgs st).args.map (·.arg) = ps
theorem _root_.L2.Fun.at_ {K : PySem.W.Frag} {x q : Str} {st : Stmt} {f : Addr} {fd : FuncData} (F : Fun K x q st f fd) {ps : List Str} (h : (defArgs st).args.map (·.arg) = ps) : ∃ (oc : Value) (od : Option Addr) (osl : Array (Option Value)), K.lookup f = some ⟨oc, od, .func fd, osl⟩ ∧ fd.params.args.map (·.arg) = ps := by
  obtain ⟨oc, od, kV, doc, pm, an, cdv, ct, osl, rfl, lk, _⟩ := F.ex
  exact ⟨oc, od, osl, lk, h⟩
theorem calG {P : Program} {w : World} {K : PySem.W.Frag} {mg : Str → Option Value} {base : Heap} {x : Str} {st : Stmt} {N ps : List Str} {k : Nat} {G : Nat → W → So → M W} {d : DS} {F : DF} (D : DefG K mg x st ps) (hG : GcOk G) (Sc : FnScope N ps (defScope st))
    (hbody : ∀ (f : Addr) (cdv : Value) (A : Around) (outer : List Env) (s : Shared) (H : Hp) (E : XK), A.guards = some [] → Room k (A.deeper (envOfC x (defScope st) s.heap.objs.size f cdv)) → SSs (cxOf CX0 P w K mg base N x (defScope st) f cdv A outer s H E).nox (fun _ => E) (defBody st) d)
    (hF : F = fnB G ps.length N.length d := by rfl) : CalG P w K mg base (k + 1) x F := by
  subst hF
  obtain ⟨f, fd, h1, h2, h3, h4⟩ := D.ex
  exact ⟨f, fd, ps, mk_fn hG h1 Sc (hbody f), h2, h1.kp, h3, h1.at_ h4⟩
def noF : DF := fun _ _ => none
theorem calG_none {P : Program} {w : World} {K : PySem.W.Frag} {mg : Str → Option Value} {base : Heap} {x : Str} {st : Stmt} {ps : List Str} {k : Nat} (D : DefG K mg x st ps) : CalG P w K mg base k x noF := by
  obtain ⟨f, fd, h1, h2, h3, h4⟩ := D.ex
  refine ⟨f, fd, ps, ⟨fun vs H Q E h => ?_, fun A outer s H args us vs Q E _ _ _ _ _ h => ?_⟩, h2, h1.kp, h3, h1.at_ h4⟩
  · obtain ⟨_, _, _, _, _, _, h, _⟩ := h; cases h
  · obtain ⟨_, _, _, _, _, _, h, _⟩ := h; cases h
theorem CalG.mono {P : Program} {w : World} {K : PySem.W.Frag} {mg : Str → Option Value} {base : Heap} {x : Str} {j k : Nat} {F : DF} (c : CalG P w K mg base j x F) (h : j ≤ k) : CalG P w K mg base k x F := by
  obtain ⟨f, fd, ps, h1, h2⟩ := c.ex
  exact ⟨f, fd, ps, h1.mono h, h2⟩
section
variable {X : Cx} {E : EK} {pos p : Pos} {a : Expr} {es : List Expr} {das : DA} {x : Str} {F : DF} {j k : Nat}
theorem e_call (c : CalG X.prog X.w X.K X.mg X.base k x F) (hgd : X.A.guards = some []) (hr : Room j X.A) (ha : SA X E (a :: es) das) (hk : k ≤ j := by decide) (hg : Gl X x := by rfl) (hdb : (x == ("__debug__" : Str)) = false := by decide)
    (he : starEach (a :: es) X.env = (false, eval a X.env) :: starEach es X.env := by rfl) (hpl : (backTo pos (starEach es X.env)).any (·.1) = false := by rfl) : SE X E (.Call (.Name x p) (a :: es) [] pos) (dFn F das) := by
  obtain ⟨f, fd, ps, h1, h2, h3, h4, _⟩ := c.ex
  exact e_fn h1 hgd (hr.mono hk) h2 h3 h4 pa0 ha hg hdb he hpl
theorem e_call0 (c : CalG X.prog X.w X.K X.mg X.base k x F) (hgd : X.A.guards = some []) (hr : Room j X.A) (hk : k ≤ j := by decide) (hg : Gl X x := by rfl) (hdb : (x == ("__debug__" : Str)) = false := by decide) : SE X E (.Call (.Name x p) [] [] pos) (dFn F dNil) := by
  obtain ⟨f, fd, ps, h1, h2, h3, h4, _⟩ := c.ex
  exact e_fn0 h1 hgd (hr.mono hk) h2 h3 h4 pa0 hg hdb
theorem e_defG {st : Stmt} {ps : List Str} (D : DefG X.K X.mg x st ps) (hg : Gl X x := by rfl) (hd : (x == ("__debug__" : Str)) = false := by decide) : SE X E (.Name x p) (dG x) := by
  obtain ⟨f, fd, h1, h2, h3, _⟩ := D.ex
  exact e_def h2 hg hd
/-- a table of defs -/
def tabF (l : List (Str × DF)) (x : Str) : Option DF := l.lookup x
theorem fun_name {K : PySem.W.Frag} {x y q q' : Str} {st st' : Stmt} {f : Addr} {fd fd' : FuncData} (h : Fun K x q st f fd) (h' : Fun K y q' st' f fd') : x = y := by
  obtain ⟨oc, od, kV, doc, pm, an, cdv, ct, osl, rfl, lk, _⟩ := h.ex
  obtain ⟨oc', od', kV', doc', pm', an', cdv', ct', osl', rfl, lk', _⟩ := h'.ex
  rw [lk] at lk'
  have e := Option.some.inj lk'
  injection e with _ _ e _
  injection e with e
  exact congrArg FuncData.name e
theorem look_mem {β : Type} : ∀ {l : List (Str × β)} {x : Str} {b : β}, l.lookup x = some b → (x, b) ∈ l
  | (y, c) :: l, x, b, h => by
    rw [List.lookup_cons] at h
    by_cases e : (x == y) = true
    · rw [e] at h; cases h; rw [eq_of_beq e]; exact List.mem_cons_self
    · rw [Bool.not_eq_true] at e; rw [e] at h; exact List.mem_cons_of_mem _ (look_mem h)
theorem e_heldT (i : Nat) {l : List (Str × DF)} (hT : ∀ q ∈ l, CalG X.prog X.w X.K X.mg X.base k q.1 q.2) (hD : ∀ q ∈ l, ∃ st ps, DefG X.K X.mg q.1 st ps) (hgd : X.A.guards = some []) (hr : Room j X.A) (ha : SA X E (a :: es) das) (hk : k ≤ j := by decide)
    (hN : X.N[i]? = some x := by rfl) (hv : Vis X.env.scope x := by first | exact Or.inl rfl | exact Or.inr (Or.inl rfl) | exact Or.inr (Or.inr rfl)) (hdb : (x == ("__debug__" : Str)) = false := by decide) (hcd : (x == ("__classdict__" : Str)) = false := by decide)
    (he : starEach (a :: es) X.env = (false, eval a X.env) :: starEach es X.env := by rfl) (hpl : (backTo pos (starEach es X.env)).any (·.1) = false := by rfl) : SE X E (.Call (.Name x p) (a :: es) [] pos) (dHeld i (tabF l) das) := by
  refine e_held (CX := CX0) (k := k) i (fun y F h => ?_) (fun y z f hy hz my mz => ?_) hgd (hr.mono hk) pa0 ha hN hv hdb hcd he hpl
  · obtain ⟨f, fd, ps, h1, h2, h3, h4, _⟩ := (hT _ (look_mem h)).ex
    exact ⟨f, h2, ⟨fd, ps, h1, h3, h4⟩⟩
  · obtain ⟨b1, h1⟩ := Option.isSome_iff_exists.mp hy
    obtain ⟨b2, h2⟩ := Option.isSome_iff_exists.mp hz
    obtain ⟨_, _, f1, _, F1, m1, _, _⟩ := hD _ (look_mem h1)
    obtain ⟨_, _, f2, _, F2, m2, _, _⟩ := hD _ (look_mem h2)
    rw [my] at m1; rw [mz] at m2
    cases m1; cases m2
    exact fun_name F1 F2
/-! ### a text is walked -/
def signs (z : Str) : List PyData := z.cps.toList.map fun c => .str ⟨#[c]⟩
def strW : W → Option Str
  | .d (.str z) => some z
  | _ => none
def dSigns (d : DE) : DI := fun σ S => bnd (d σ S) fun w S1 => giv ((strW w).bind fun z => if small z.length = true then some (signs z, none) else none) S1
theorem its_it {K : PySem.W.Frag} {z : Str} {φ : Fi} {H : Hp} : ItD K (Its z) (signs z) none φ H where
  go := fun φ2 H2 S i d e s _ hi => by
    unfold signs at hi
    rw [List.getElem?_map] at hi
    obtain ⟨c, h1, h2⟩ := Option.map_eq_some_iff.mp hi
    subst h2
    have hlt := (List.getElem?_eq_some_iff.mp h1).1
    refine ⟨show i < z.cps.size by simpa using hlt, fun x H' ⟨e1, c', h3, h4⟩ => ?_⟩
    subst e1; subst h4
    have h1' : z.cps[i]? = some c := by simpa using h1
    rw [h1'] at h3; cases h3
    exact ⟨.refl, s, rfl⟩
  stop := fun φ2 H2 S e s _ => by show z.cps.size ≤ _; simp [signs]
theorem i_str {tg : Expr} {e : Expr} {d : DE} (h : SE X E e d) : SI X E tg e (dSigns d) := by
  refine PIw (pi_str h) fun σV H R q => ?_
  obtain ⟨φ, σ, S, r', hs, hen, hd, hq⟩ := q
  unfold dSigns at hd
  match ha : d σ S, hd with
  | none, hd => cases hd
  | some (.xc x S1), hd => cases hd; exact ⟨φ, σ, S, .xc x S1, hs, hen, ha, hq⟩
  | some (.ok w S1), hd =>
    refine ⟨φ, σ, S, .ok w S1, hs, hen, ha, fun φ1 H1 v e1 s1 x1 => ?_⟩
    rw [bnd_ok] at hd
    match hg : (strW w).bind (fun z => if small z.length = true then some (signs z, (none : Option Nat)) else none), hd with
    | none, hd => cases hd
    | some q, hd =>
      cases hd
      obtain ⟨z, g1, g2⟩ := Option.bind_eq_some_iff.mp hg
      split at g2
      · rename_i hz
        cases g2
        unfold strW at g1
        split at g1
        · cases g1
          cases x1
          exact ⟨z, rfl, hq φ1 H1 _ e1 s1 its_it (by simp only [signs, List.length_map]; exact small_le hz)⟩
        · cases g1
      · cases g2
end
end CL
end

section
/-! part CLAny -/
set_option Elab.async false
set_option linter.all false
set_option maxRecDepth 100000
/-! CLAny: rules that look at the value: slices, what is walked, constants of the module. -/
namespace CL
section
open PySem in theorem bo_len : bootBuiltins "len" = some (.builtin "len") := by decide +kernel
open PySem in theorem bo_all : bootBuiltins "all" = some (.builtin "all") := by decide +kernel
open PySem in theorem bo_repr : bootBuiltins "repr" = some (.builtin "repr") := by decide +kernel
open PySem in theorem bo_sorted : bootBuiltins "sorted" = some (.builtin "sorted") := by decide +kernel
open PySem in theorem bo_min : bootBuiltins "min" = some (.builtin "min") := by decide +kernel
open PySem in theorem bo_isinstance : bootBuiltins "isinstance" = some (.builtin "isinstance") := by decide +kernel
open PySem in theorem bo_any : bootBuiltins "any" = some (.builtin "any") := by decide +kernel
open PySem in theorem bo_max : bootBuiltins "max" = some (.builtin "max") := by decide +kernel
open PySem in theorem bo_sum : bootBuiltins "sum" = some (.builtin "sum") := by decide +kernel
open PySem in theorem bo_abs : bootBuiltins "abs" = some (.builtin "abs") := by decide +kernel
open PySem in theorem bo_int : bootBuiltins "int" = some (.type "int") := by decide +kernel
open PySem in theorem bo_bool : bootBuiltins "bool" = some (.type "bool") := by decide +kernel
open PySem in theorem bo_str : bootBuiltins "str" = some (.type "str") := by decide +kernel
open PySem in theorem bo_list : bootBuiltins "list" = some (.type "list") := by decide +kernel
open PySem in theorem bo_tuple : bootBuiltins "tuple" = some (.type "tuple") := by decide +kernel
open PySem in theorem bo_set : bootBuiltins "set" = some (.type "set") := by decide +kernel
open PySem in theorem bo_dict : bootBuiltins "dict" = some (.type "dict") := by decide +kernel
open PySem in theorem bo_zip : bootBuiltins "zip" = some (.type "zip") := by decide +kernel
open PySem in theorem bo_range : bootBuiltins "range" = some (.type "range") := by decide +kernel
end
open PySem PySem.Spec PyProof.Rows L2
section
variable {X : Cx} {E : EK} {pos p : Pos} {a b : Expr} {da db : DE}
def cutA (lo hi : Option Int) : PyData → Option PyData
  | .tuple xs => some (.tuple (cutG xs lo hi))
  | .list xs => some (.list (cutG xs lo hi))
  | .str z => if small z.length = true then some (.str (Txt.slice z lo hi)) else none
  | _ => none
def dSlA (a : DE) (l h : DO) : DE := fun σ S => bnd (a σ S) fun w S1 => bnd (l σ S1) fun lo S2 => bnd (h σ S2) fun hi S3 => giv ((rd S3 w).bind fun x => (cutA lo hi x).map W.d) S3
theorem slA_rd {dl dh : DO} (σV : L2.St) (H : Hp) (Q : VK) (h : tE X.K X.mg E (dSlA da dl dh) σV H Q) :
    tSl (fun x lo hi H Q => (rSlA X.K x lo hi H Q ∨ C8.rSlX x lo hi H Q) ∨ rSlL X.K x lo hi H Q) (tE X.K X.mg E da) (tO X.K X.mg E dl) (tO X.K X.mg E dh) σV H Q := by
  obtain ⟨φ, σ, S, r', hs, he, hd, hq⟩ := h
  unfold dSlA at hd
  match ha : da σ S, hd with
  | none, hd => cases hd
  | some (.xc x S1), hd => cases hd; exact ⟨φ, σ, S, .xc x S1, hs, he, ha, hq⟩
  | some (.ok x S1), hd =>
    refine ⟨φ, σ, S, .ok x S1, hs, he, ha, fun φ1 H1 v1 e1 s1 x1 => ?_⟩
    rw [bnd_ok] at hd
    match hb : dl σ S1, hd with
    | none, hd => cases hd
    | some (.xc y S2), hd => cases hd; exact ⟨φ1, σ, S1, .xc y S2, s1, he.mono e1, hb, XR.keep e1 hq⟩
    | some (.ok lo S2), hd =>
      refine ⟨φ1, σ, S1, .ok lo S2, s1, he.mono e1, hb, fun φ2 H2 e2 s2 => ?_⟩
      rw [bnd_ok] at hd
      have e12 := e1.trans e2
      match hc : dh σ S2, hd with
      | none, hd => cases hd
      | some (.xc y S3), hd => cases hd; exact ⟨φ2, σ, S2, .xc y S3, s2, he.mono e12, hc, XR.keep e12 hq⟩
      | some (.ok hi S3), hd =>
        refine ⟨φ2, σ, S2, .ok hi S3, s2, he.mono e12, hc, fun φ3 H3 e3 s3 => ?_⟩
        rw [bnd_ok] at hd
        have e13 := e12.trans e3
        have x3 := (x1.mono e2).mono e3
        match hg : (rd S3 x).bind fun x => (cutA lo hi x).map W.d, hd with
        | none, hd => cases hd
        | some w, hd =>
          cases hd
          obtain ⟨y, h1, h2⟩ := Option.bind_eq_some_iff.mp hg
          obtain ⟨z, h3, h4⟩ := Option.map_eq_some_iff.mp h2
          subst h4
          unfold cutA at h3
          split at h3
          · cases h3
            obtain ⟨l, vs, e5, f1, r1⟩ := tup_of x3 h1
            refine .inl (.inl ⟨l, vs, e5, f1.sq, fun hw => ?_, fun hw p hp => ?_⟩)
            · have e6 := sIx_whole (lo := lo) (hi := hi) r1.length.symm hw
              exact hq φ3 H3 _ e13 s3 ⟨l, vs, rfl, f1, by rw [e6]; exact r1⟩
            · have e := Ext.new (o := .tup (cutV vs lo hi)) hp s3
              exact hq φ3 _ _ (e13.trans e) (s3.new hp) ⟨p, _, rfl, upd_same, RDs.mono e _ _ r1.cutG⟩
          · cases h3
            obtain ⟨l, vs, e5, f1, r1⟩ := seqL_of s3 x3 h1
            refine .inr ⟨l, vs, e5, f1, fun p hp => ?_⟩
            have e := Ext.new (o := .lst (cutV vs lo hi)) hp s3
            exact hq φ3 _ _ (e13.trans e) (s3.new hp) ⟨p, _, rfl, newFL s3 hp, RDs.mono e _ _ r1.cutG⟩
          · split at h3
            · rename_i hz
              cases h3
              exact .inl (.inr ⟨_, str_of x3 h1, small_le hz, hq φ3 H3 _ e13 s3 rfl⟩)
            · cases h3
          · cases h3
theorem e_slA {lo hi : Option Expr} {dl dh : DO} {p2 : Pos} (ha : SE X E a da) (hl : SO X E lo dl) (hh : SO X E hi dh) : SE X E (.Subscript a (.Slice lo hi none p2) pos) (dSlA da dl dh) :=
  PEw (pe_slice ((sl_tupA.or C8.sl_txt).or sl_list) ha hl hh) slA_rd
theorem pi_any {tg l : Expr} {tl : TE} (hl : PE X l tl) : PI X tg l (fun σ H R => tl σ H fun x H1 => (∃ z, x = .str z ∧ R (Its z) H1) ∨ ∃ a xs, x = .ref a ∧
    ((SqL X.K H1 a xs ∧ (xs.length ≤ sizeLine → R (Itl X.K a) H1)) ∨ (SqT X.K H1 a xs ∧ (xs.length ≤ sizeLine → R (Itt X.K a) H1)))) := by
  refine ⟨fun pins s σ H R I h => thn (hl.run pins s σ H _ I h) fun v s1 ⟨x, H1, I1, r1, q1⟩ => ?_⟩
  rcases q1 with ⟨z, e, q⟩ | ⟨a, xs, e, q⟩
  · subst e
    obtain ⟨t, rfl⟩ := r1
    cases hz : z.cps.all (· < 128) with
    | false => exact wpAny_pyIter_wide hz (pi_one (tk := s1.toks) I1 _ (turn_str _ z t "str_iterator" (.inr rfl)) ⟨_, Heap.get?_push_size _ rfl, rfl, rfl⟩ q)
    | true => exact wpAny_pyIter_ascii hz (pi_one (tk := s1.toks) I1 _ (turn_str _ z t "str_ascii_iterator" (.inl rfl)) ⟨_, Heap.get?_push_size _ rfl, rfl, rfl⟩ q)
  · subst e
    cases r1
    rcases q with ⟨hq, q⟩ | ⟨hq, q⟩
    · obtain ⟨its, rv, pl, hz⟩ := I1.list hq
      exact wpAny_pyIter_list pl.isList (pi_one (tk := s1.toks) I1 _ (turn_list a _) ⟨_, Heap.get?_push_size _ rfl, rfl, rfl⟩ (q hz))
    · obtain ⟨its, rv, pl, hz⟩ := I1.tuple hq
      exact wpAny_pyIter_tuple (show s1.heap.IsTuple a its.toArray from pl) (pi_one (tk := s1.toks) I1 _ (turn_tuple a _) ⟨_, Heap.get?_push_size _ rfl, rfl, rfl⟩ (q hz))
/-- the items of what is walked -/
def anyW (S : So) : W → Option (List PyData × Option Nat)
  | .d (.list xs) => some (xs, none)
  | .d (.tuple xs) => some (xs, none)
  | .d (.str z) => if small z.length = true then some (signs z, none) else none
  | .r n => match S[n]? with
    | some (.lst xs) => some (xs, some n)
    | _ => none
  | _ => none
def dAny (d : DE) : DI := fun σ S => bnd (d σ S) fun w S1 => giv (anyW S1 w) S1
theorem i_any {tg e : Expr} {d : DE} (he : SE X E e d) : SI X E tg e (dAny d) := by
  refine PIw (pi_any he) fun σV H R q => ?_
  obtain ⟨φ, σ, S, r', hs, hen, hd, hq⟩ := q
  unfold dAny at hd
  match ha : d σ S, hd with
  | none, hd => cases hd
  | some (.xc x S1), hd => cases hd; exact ⟨φ, σ, S, .xc x S1, hs, hen, ha, hq⟩
  | some (.ok w S1), hd =>
    refine ⟨φ, σ, S, .ok w S1, hs, hen, ha, fun φ1 H1 v e1 s1 x1 => ?_⟩
    rw [bnd_ok] at hd
    match hg : anyW S1 w, hd with
    | none, hd => cases hd
    | some q, hd =>
      cases hd
      unfold anyW at hg
      split at hg
      · cases hg
        obtain ⟨c, vs, rfl, h1, h2⟩ := x1
        exact .inr ⟨c, vs, rfl, .inl ⟨h1.sq, fun hz => hq φ1 H1 _ e1 s1 (itl_it h1 h2) (by rw [← h2.length]; exact hz)⟩⟩
      · cases hg
        obtain ⟨c, vs, rfl, h1, h2⟩ := x1
        exact .inr ⟨c, vs, rfl, .inr ⟨h1.sq, fun hz => hq φ1 H1 _ e1 s1 (itt_it h1 h2) (by rw [← h2.length]; exact hz)⟩⟩
      · split at hg
        · rename_i hz
          cases hg
          cases x1
          exact .inl ⟨_, rfl, hq φ1 H1 _ e1 s1 its_it (by simp only [signs, List.length_map]; exact small_le hz)⟩
        · cases hg
      · rename_i n
        split at hg
        · rename_i xs hS
          cases hg
          obtain ⟨c, hc, rfl⟩ := x1
          obtain ⟨vs, q1, q2⟩ := s1.ob n c _ hc hS
          exact .inr ⟨c, vs, rfl, .inl ⟨.of q1, fun hz => hq φ1 H1 _ e1 s1 (itr_it hc) (by rw [← q2.length]; exact hz)⟩⟩
        · cases hg
      · cases hg
theorem e_globS {x : Str} {z : Str} (h : ∃ t, X.mg x = some (.str z t)) (hg : Gl X x := by rfl) (hd : (x == ("__debug__" : Str)) = false := by decide) : SE X E (.Name x p) (dC (.str z)) := by
  obtain ⟨t, h⟩ := h
  exact e_glob (v := .str z) h ⟨t, rfl⟩ (fun _ _ => rfl) hg hd
theorem e_globI {x : Str} {z : Int} (h : ∃ t, X.mg x = some (.int z t)) (hg : Gl X x := by rfl) (hd : (x == ("__debug__" : Str)) = false := by decide) : SE X E (.Name x p) (dC (.int z)) := by
  obtain ⟨t, h⟩ := h
  exact e_glob (v := .int z) h ⟨t, rfl⟩ (fun _ _ => rfl) hg hd
end
end CL
end

section
/-! part CLRev -/
set_option Elab.async false
set_option linter.all false
set_option maxRecDepth 100000
/-! CLRev: x[::-1] of a list or a tuple. -/
namespace CL
open PySem PySem.Spec PyProof.Rows L2
open HT (slicePart_)
section
variable {P : Program} {w : World} {A : Around} {E : Value → Shared → Prop} {s : Shared}
theorem pick_all {α : Type} (ys : List α) : (List.range ys.length).filterMap (fun k => ys[k]?) = ys := by
  induction ys with
  | nil => rfl
  | cons y ys ih =>
    rw [List.length_cons, List.range_succ_eq_map, List.filterMap_cons]
    simp only [List.getElem?_cons_zero, List.filterMap_map]
    congr 1
theorem fm_congr {α β : Type} {f g : α → Option β} : ∀ {l : List α}, (∀ x ∈ l, f x = g x) → l.filterMap f = l.filterMap g
  | [], _ => rfl
  | x :: l, h => by
    rw [List.filterMap_cons, List.filterMap_cons, h x List.mem_cons_self, fm_congr fun y hy => h y (List.mem_cons_of_mem _ hy)]
theorem pick_rev (xs : Array Value) : ((List.range xs.size).filterMap fun (k : Nat) => xs[(((xs.size : Int) - 1) + (k : Int) * (-1)).toNat]?) = xs.toList.reverse := by
  have h := pick_all xs.toList.reverse
  rw [List.length_reverse, Array.length_toList] at h
  rw [← h]
  refine fm_congr fun k hk => ?_
  have hk := List.mem_range.mp hk
  have e : (((xs.size : Int) - 1) + (k : Int) * (-1)).toNat = xs.size - 1 - k := by omega
  rw [e, List.getElem?_reverse (by simpa using hk), Array.getElem?_toList, Array.length_toList]
theorem tup_rev {t sl : Addr} {items : Array Value} {vl vu vs : Value} {Q : Value → Shared → Prop} (ht : IsTup s.heap t items) (hs : s.heap.IsSliceOf sl vl vu vs) (pl : IsPart vl none) (pu : IsPart vu none) (ps : IsPart vs (some (-1)))
    (h : Q (.ref s.heap.objs.size) { s with heap := s.heap.push { cls := .type "tuple", data := .seq items.toList.reverse.toArray } }) (hz : items.size ≤ sizeLine) : wpAny (model P w) A (getItem (.ref t) (.ref sl)) Q E s := by
  have size : sizeOk (.seq items.toList.reverse.toArray) := by
    show items.toList.reverse.toArray.size ≤ sizeLine
    rw [List.size_toArray, List.length_reverse, Array.length_toList]
    exact hz
  obtain ⟨os, ho, hc, hd⟩ := id hs
  have ty : s.TypeIs (.ref sl) "slice" := ⟨os, ho, hc⟩
  unfold getItem
  try with_reducible refine wpAny_holding ?_
  first | refine wpAny_bind (wpAny_pure ?_) | skip
  refine wpAny_bind (wpAny_sequenceKey ht.typeIs (by decide) (wpAny_bind (wpAny_callSpecial?_slot (name := Str.ofString "__getitem__") ht.typeIs PyProof.Rows.slot_tuple_getitem (wpAny_call_entry PyProof.Rows.slot_tuple_getitem ht.typeIs entry_tuple_getitem ?_ (args_tuple_getitem _ _)))))
  refine wpAny_bind (m := Builtin.Tuple.tupleItemsOf (.ref t)) (tupleItemsOf_ ht (wpAny_bind (wpAny_typeOf ty ?_)))
  rw [if_pos (by decide)]
  refine wpAny_bind (m := Builtin.Slice.sliceApplied (.ref sl) (pure (items.size : Int))) ?_
  unfold Builtin.Slice.sliceApplied Builtin.Slice.sliceFields
  refine wpAny_bind (wpAny_bind (wpAny_field ho hd (x := vl) rfl (wpAny_bind (wpAny_field ho hd (x := vu) rfl (wpAny_bind (wpAny_field ho hd (x := vs) rfl (wpAny_pure ?_)))))))
  refine wpAny_bind (slicePart_ ps ?_)
  show wpAny _ _ (if ((-1 : Int) == 0) = true then _ else _) _ _ s
  rw [if_neg (by decide)]
  refine wpAny_bind (slicePart_ pl (wpAny_bind (slicePart_ pu (wpAny_bind (wpAny_pure ?_)))))
  have adj : Builtin.Slice.sliceAdjust none none (-1) (items.size : Int) = ((items.size : Int) - 1, -1) := rfl
  have plc : Builtin.Slice.slicePlaces ((items.size : Int) - 1) (-1) (-1) = items.size := by
    unfold Builtin.Slice.slicePlaces
    rw [if_neg (by decide)]
    split <;> simp <;> omega
  show wpAny _ _ (match Builtin.Slice.sliceAdjust none none (-1) (items.size : Int) with | (lo, hi) => pure (lo, (-1 : Int), Builtin.Slice.slicePlaces lo hi (-1))) _ _ s
  rw [adj]
  show wpAny _ _ (pure ((items.size : Int) - 1, (-1 : Int), Builtin.Slice.slicePlaces ((items.size : Int) - 1) (-1) (-1))) _ _ s
  rw [plc]
  refine wpAny_pure ?_
  have no : ¬ (((items.size : Int) - 1 == 0 && (-1 : Int) == 1 && items.size == items.size) = true) := by simp
  show wpAny _ _ (if ((items.size : Int) - 1 == 0 && (-1 : Int) == 1 && items.size == items.size) = true then _ else _) _ _ s
  rw [if_neg no, pick_rev]
  first
    | exact wpAny_bind (m := Builtin.Tuple.tupleExact _) (wpAny_newObj_type (wpAny_pure ⟨_, rfl, wpAny_pure h⟩) size)
    | exact wpAny_bind (m := Builtin.Tuple.tupleExact _) (wpAny_newObj_type (wpAny_bind (wpAny_pure (wpAny_pure ⟨_, rfl, wpAny_pure h⟩))) size)
    | exact wpAny_bind (wpAny_bind (m := Builtin.Tuple.tupleExact _) (wpAny_newObj_type (wpAny_pure (wpAny_pure ⟨_, rfl, wpAny_pure h⟩)) size))
    | exact wpAny_bind (wpAny_bind (m := Builtin.Tuple.tupleExact _) (wpAny_newObj_type (wpAny_pure ⟨_, rfl, wpAny_pure h⟩) size))
end
theorem pick_revL (its : List Value) : slicePick its.toArray none none (some (-1)) = its.reverse.toArray := by
  unfold slicePick
  have e1 : sliceBounds none none (some (-1)) its.toArray.size = ((its.toArray.size : Int) - 1, -1, -1) := by
    simp [sliceBounds]
  rw [e1]
  have e2 : sliceRange ((its.toArray.size : Int) - 1) (-1) (-1) = (List.range its.toArray.size).map fun (k : Nat) => (((its.toArray.size : Int) - 1) + (k : Int) * (-1)).toNat := by
    unfold sliceRange
    rw [if_neg (by decide)]
    have : (if (its.toArray.size : Int) - 1 > -1 then ((its.toArray.size : Int) - 1 - -1 - -1 - 1) / (- -1) else 0).toNat = its.toArray.size := by
      rw [show (- -1 : Int) = 1 from rfl, Int.ediv_one]
      split <;> omega
    dsimp only
    rw [this]
    exact List.map_congr_left fun k _ => by rw [Int.mul_comm]
  rw [e2, List.filterMap_map]
  have := pick_rev its.toArray
  simp only [Function.comp_def]
  rw [this]
section
variable {X : Cx} {E : EK} {pos p : Pos} {a : Expr} {da : DE}
def tRevT (K : PySem.W.Frag) (te : TE) : TE := fun σ H Q => te σ H fun x H1 => ∃ a xs, x = .ref a ∧ ((SqT K H1 a xs ∧ ∀ p, H1 p = none → Q (.ref p) (upd H1 p (.tup xs.reverse))) ∨ (SqL K H1 a xs ∧ ∀ p, H1 p = none → Q (.ref p) (upd H1 p (.lst xs.reverse))))
theorem pe_revT {e : Expr} {te : TE} {k : Nat} {p1 p2 p3 pos : Pos} (he : PE X e te) : PE X (.Subscript e (.Slice none none (some (.UnaryOp .USub (.Constant (.int 1) k p1) p2)) p3) pos) (tRevT X.K te) := by
  refine ⟨fun pins s σ H Q I h => Subscript_ (thn (he.run pins s σ H _ I h) fun v s1 ⟨x, H1, I1, r1, c, xs, ex, hx⟩ => ?_)⟩
  subst ex
  cases r1
  have st : PO X (some (.UnaryOp .USub (.Constant (.int 1) k p1) p2)) (tPart (tUn (rU fun i => .int (-i)) (tC (.int 1)))) := po_some (pe_un un_neg pe_int)
  refine wpAny_Slice (thn (po_none.run pins s1 σ H1 (fun o H2 => o = none ∧ H2 = H1) I1 ⟨rfl, rfl⟩) fun vl s2 ⟨l, H2, I2, pl, el, e2⟩ => ?_)
  subst el; subst e2
  refine thn (po_none.run pins s2 σ H2 (fun o H3 => o = none ∧ H3 = H2) I2 ⟨rfl, rfl⟩) fun vu s3 ⟨u, H3, I3, pu, eu, e3⟩ => ?_
  subst eu; subst e3
  refine thn (st.run pins s3 σ H3 (fun o H4 => o = some (-1) ∧ H4 = H3) I3 ⟨1, rfl, -1, rfl, rfl, rfl⟩) fun vs s4 ⟨o, H4, I4, ps, eo, e4⟩ => ?_
  subst eo; subst e4
  have I5 : Inv X pins σ H4 { s4 with heap := s4.heap.push { cls := .type "slice", data := .fields #[vl, vu, vs] } } := I4.kept (t' := s4.toks) fun b ob q => Heap.get?_push_of_some _ q
  rcases hx with ⟨hx, q⟩ | ⟨hx, q⟩
  rotate_left
  · obtain ⟨its, r, ht, hz⟩ := I5.list hx
    show wpAny (model X.prog X.w) X.A (subscriptTail e (.Slice none none (some (.UnaryOp .USub (.Constant (.int 1) k p1) p2)) p3) (.ref c) (.ref s4.heap.objs.size)) (EP X pins σ Q) X.xe { s4 with heap := s4.heap.push { cls := .type "slice", data := .fields #[vl, vu, vs] } }
    refine tail_any (ops := [.ref c, .ref s4.heap.objs.size]) ht.isList.typeIs PySem.slot_list_getitem.lookup (wpAny_getItem_list_slice ht.isList (Heap.IsSliceOf.new _ vl vu vs) pl pu ps (by simp) ?_ (by rw [List.size_toArray, ← r.length]; exact hz)) (by with_unfolding_all rfl)
    rw [pick_revL]
    refine ⟨.ref _, _, I5.laid (t' := s4.toks) (o := .lst xs.reverse) (fun b ob q => Heap.get?_push_of_some _ q) (Nat.le_refl _) ?_, rfl, q _ (I5.hok.fresh (Nat.le_refl _))⟩
    exact ⟨by rw [List.length_reverse]; exact hz, _, 0, r.reverse, Heap.get?_push_size _ rfl⟩
  obtain ⟨its, r, ht, hz⟩ := I5.tuple hx
  show wpAny (model X.prog X.w) X.A (subscriptTail e (.Slice none none (some (.UnaryOp .USub (.Constant (.int 1) k p1) p2)) p3) (.ref c) (.ref s4.heap.objs.size)) (EP X pins σ Q) X.xe { s4 with heap := s4.heap.push { cls := .type "slice", data := .fields #[vl, vu, vs] } }
  refine tail_any (ops := [.ref c, .ref s4.heap.objs.size]) ht.typeIs PyProof.Rows.slot_tuple_getitem.lookup (tup_rev ht (Heap.IsSliceOf.new _ vl vu vs) pl pu ps ?_ (by rw [List.size_toArray, ← r.length]; exact hz)) (by with_unfolding_all rfl)
  refine ⟨.ref _, _, I5.laid (t' := s4.toks) (o := .tup xs.reverse) (fun b ob q => Heap.get?_push_of_some _ q) (Nat.le_refl _) ?_, rfl, q _ (I5.hok.fresh (Nat.le_refl _))⟩
  exact ⟨by rw [List.length_reverse]; exact hz, _, r.reverse, IsTup.new _ _⟩
def revP : PyData → Option PyData
  | .tuple xs => some (.tuple xs.reverse)
  | .list xs => some (.list xs.reverse)
  | _ => none
theorem e_revT {k : Nat} {p1 p2 p3 : Pos} (ha : SE X E a da) : SE X E (.Subscript a (.Slice none none (some (.UnaryOp .USub (.Constant (.int 1) k p1) p2)) p3) pos) (dUn (on1 revP) da) := by
  refine PEw (pe_revT ha) fun σV H Q h => ?_
  obtain ⟨φ, σ, S, r, hs, he, hd, hq⟩ := un_rd (E := E) σV H Q h
  refine ⟨φ, σ, S, r, hs, he, hd, ?_⟩
  cases r with
  | xc y S' => exact hq
  | ok w S' =>
    intro φ1 H1 v e1 s1 x1
    obtain ⟨φ2, S2, x, z, g1, g2, g3, g4⟩ := hq φ1 H1 v e1 s1 x1
    obtain ⟨c, d, h1, h2, rfl⟩ := on1_of g3
    unfold revP at h2
    split at h2
    · cases h2
      obtain ⟨l, vs, rfl, f1, r1⟩ := tup_of g2 h1
      refine ⟨l, vs, rfl, .inl ⟨f1.sq, fun p hp => ?_⟩⟩
      have e := Ext.new (o := .tup vs.reverse) hp g1
      exact g4 φ2 _ _ e (g1.new hp) ⟨p, _, rfl, upd_same, RDs.mono e _ _ (RDs.reverse r1)⟩
    · cases h2
      obtain ⟨l, vs, rfl, f1, r1⟩ := seqL_of g1 g2 h1
      refine ⟨l, vs, rfl, .inr ⟨f1, fun p hp => ?_⟩⟩
      have e := Ext.new (o := .lst vs.reverse) hp g1
      exact g4 φ2 _ _ e (g1.new hp) ⟨p, _, rfl, newFL g1 hp, RDs.mono e _ _ (RDs.reverse r1)⟩
    · cases h2
end
end CL
end

section
/-! part CLExc -/
set_option Elab.async false
set_option linter.all false
set_option maxRecDepth 100000
/-! CLExc: raise, defs that let exceptions out, try .. except. -/
namespace CL
open PySem PySem.Spec PyProof.Rows L2

/-- what is raised here is taken -/
abbrev Tk (X : Cx) (E : EK) : Prop := L2N.Takes X fun cls d σ H => E σ cls d H
/-- as CalG, for a def that may raise -/
structure CalX (P : Program) (w : World) (K : PySem.W.Frag) (mg : Str → Option Value) (base : Heap) (k : Nat) (x : Str) (F : DF) : Prop where
  ex : ∃ (f : Addr) (fd : FuncData) (ps : List Str), FnG P w K mg base (L2N.CX P w) k f fd ps (spF K mg F) ∧ mg x = some (.ref f) ∧ PySem.W.keepIn K (.ref f) = true ∧ Binds K fd ps [] ∧ ∃ (oc : Value) (od : Option Addr) (osl : Array (Option Value)), K.lookup f = some ⟨oc, od, .func fd, osl⟩ ∧ fd.params.args.map (·.arg) = ps
theorem mk_fnX {P : Program} {w : World} {K : PySem.W.Frag} {mg : Str → Option Value} {base : Heap} {x qual : Str} {st : Stmt} {f : Addr} {fd : FuncData} {N ps : List Str} {k : Nat} {G : Nat → W → So → M W} {d : DS} (hG : GcOk G) (F : Fun K x qual st f fd) (Sc : FnScope N ps (defScope st))
    (hbody : ∀ (cdv : Value) (A : Around) (outer : List Env) (s : Shared) (H : Hp) (E : XK), A.guards = some [] → Room k (A.deeper (envOfC qual (defScope st) s.heap.objs.size f cdv)) →
      Tk (cxOf (L2N.CX P w) P w K mg base N qual (defScope st) f cdv A outer s H E) (fun _ => E) →
      PassesOwn (model P w) (cxOf (L2N.CX P w) P w K mg base N qual (defScope st) f cdv A outer s H E).A (cxOf (L2N.CX P w) P w K mg base N qual (defScope st) f cdv A outer s H E).env (cxOf (L2N.CX P w) P w K mg base N qual (defScope st) f cdv A outer s H E).xe →
      SSs (cxOf (L2N.CX P w) P w K mg base N qual (defScope st) f cdv A outer s H E) (fun _ => E) (defBody st) d) :
    FnG P w K mg base (L2N.CX P w) (k + 1) f fd ps (spF K mg (fnB G ps.length N.length d)) := by
  refine fnG_of F Sc (fun vs H Q E h => ?_) (fun cdv A outer s H vs Q E hgd hr h => ?_)
  · obtain ⟨φ, S, ws, r, hs, hw, hF, hq⟩ := h
    unfold fnB at hF
    split at hF
    · rename_i hl; rw [hw.length, hl]
    · cases hF
  · refine ⟨_, hbody cdv A outer s H E hgd hr (L2N.takes_of rfl rfl rfl rfl) (passes_of rfl), ?_⟩
    obtain ⟨φ, S, ws, r, hs, hw, hF, hq⟩ := h
    unfold fnB at hF
    split at hF
    · have en := start_er (N := N) hw
      match hb : d (startW N.length ws) S, hF with
      | none, hF => cases hF
      | some (.nx σ' S'), hF =>
        cases hF
        exact ⟨φ, _, S, _, hs, en, hb, fun φ' H' σV' e s' _ => hq φ H' .non e.cut (s'.cut e hs.len) rfl⟩
      | some (.rt w S'), hF =>
        refine ⟨φ, _, S, _, hs, en, hb, fun φ' H' v e s' xw => ?_⟩
        dsimp only at hF
        rw [← hs.len] at hF
        obtain ⟨w2, S2, φ2, rfl, e2, s2, x2⟩ := hG K mg φ φ' H H' S' w v r e s' xw hF
        exact hq φ2 H' v e2 s2 x2
      | some (.xc y σ' S'), hF =>
        cases hF
        refine ⟨φ, _, S, _, hs, en, hb, fun φ' H' _ e s' _ C hC => ?_⟩
        have := hq φ H' e.cut (s'.cut e hs.len) C hC
        exact ⟨this.1, fun a us h1 h2 => this.2 a us h1 (RDs.cut e h2)⟩
      | some (.bk _ _), hF => cases hF
      | some (.ct _ _), hF => cases hF
    · cases hF
theorem calX {P : Program} {w : World} {K : PySem.W.Frag} {mg : Str → Option Value} {base : Heap} {x : Str} {st : Stmt} {N ps : List Str} {k : Nat} {G : Nat → W → So → M W} {d : DS} {F : DF} (D : DefG K mg x st ps) (hG : GcOk G) (Sc : FnScope N ps (defScope st))
    (hbody : ∀ (f : Addr) (cdv : Value) (A : Around) (outer : List Env) (s : Shared) (H : Hp) (E : XK), A.guards = some [] → Room k (A.deeper (envOfC x (defScope st) s.heap.objs.size f cdv)) →
      Tk (cxOf (L2N.CX P w) P w K mg base N x (defScope st) f cdv A outer s H E) (fun _ => E) →
      PassesOwn (model P w) (cxOf (L2N.CX P w) P w K mg base N x (defScope st) f cdv A outer s H E).A (cxOf (L2N.CX P w) P w K mg base N x (defScope st) f cdv A outer s H E).env (cxOf (L2N.CX P w) P w K mg base N x (defScope st) f cdv A outer s H E).xe →
      SSs (cxOf (L2N.CX P w) P w K mg base N x (defScope st) f cdv A outer s H E) (fun _ => E) (defBody st) d)
    (hF : F = fnB G ps.length N.length d := by rfl) : CalX P w K mg base (k + 1) x F := by
  subst hF
  obtain ⟨f, fd, h1, h2, h3, h4⟩ := D.ex
  exact ⟨f, fd, ps, mk_fnX hG h1 Sc (hbody f), h2, h1.kp, h3, h1.at_ h4⟩
theorem calX_none {P : Program} {w : World} {K : PySem.W.Frag} {mg : Str → Option Value} {base : Heap} {x : Str} {st : Stmt} {ps : List Str} {k : Nat} (D : DefG K mg x st ps) : CalX P w K mg base k x noF := by
  obtain ⟨f, fd, h1, h2, h3, h4⟩ := D.ex
  refine ⟨f, fd, ps, ⟨fun vs H Q E h => ?_, fun A outer s H args us vs Q E _ _ _ _ _ h => ?_⟩, h2, h1.kp, h3, h1.at_ h4⟩
  · obtain ⟨_, _, _, _, _, _, h, _⟩ := h; cases h
  · obtain ⟨_, _, _, _, _, _, h, _⟩ := h; cases h
section
variable {X : Cx} {E : EK} {pos p : Pos} {a e : Expr} {es : List Expr} {das : DA} {x : Str} {F : DF} {j k : Nat} {f : Addr} {fd : FuncData} {ps : List Str} {sp : Sp}
theorem tk0 : Tk X (fun _ => E0) := fun u s' h => by
  obtain ⟨_, _, _, _, _, _, _, _, _, _, _, _, _, _, _, _, z⟩ := h
  exact z.elim
theorem paX (tk : Tk X E) : PaAt (L2N.CX X.prog X.w) X E := fun σ pins H s e s' I c => tk e s' (L2N.XE.of_call I (fun _ _ _ h => h) c)
theorem e_callX (c : CalX X.prog X.w X.K X.mg X.base k x F) (hgd : X.A.guards = some []) (hr : Room j X.A) (tk : Tk X E) (ha : SA X E (a :: es) das) (hk : k ≤ j := by decide) (hg : Gl X x := by rfl) (hdb : (x == ("__debug__" : Str)) = false := by decide)
    (he : starEach (a :: es) X.env = (false, eval a X.env) :: starEach es X.env := by rfl) (hpl : (backTo pos (starEach es X.env)).any (·.1) = false := by rfl) : SE X E (.Call (.Name x p) (a :: es) [] pos) (dFn F das) := by
  obtain ⟨f, fd, ps, h1, h2, h3, h4, _⟩ := c.ex
  exact e_fn h1 hgd (hr.mono hk) h2 h3 h4 (paX tk) ha hg hdb he hpl

/-! ### raise -/
/-- a class's own __init__ with two parameters, each kept under its name -/
def spIn (K : PySem.W.Frag) (a b : Str) : Sp := fun vs H Q _ => ∃ (e C : Addr) (v1 v2 : V), vs = [.ref e, v1, v2] ∧ H e = some (exo e C none) ∧ OexC K C ∧ PySem.W.findIn K (.ref C) a = some none ∧ PySem.W.findIn K (.ref C) b = some none ∧
  ∀ d, H d = none → d ≠ e → Q .non (upd (upd (upd H d (exd d [(a, v1)])) e (exo e C (some d))) d (exd d [(b, v2), (a, v1)]))
structure ErrG (P : Program) (w : World) (K : PySem.W.Frag) (mg : Str → Option Value) (base : Heap) (x a b : Str) : Prop where
  ex : ∃ (C fI : Addr) (fd : FuncData), mg x = some (.ref C) ∧ OexC K C ∧ PySem.W.findIn K (.ref C) a = some none ∧ PySem.W.findIn K (.ref C) b = some none ∧ PySem.W.findIn K (.ref C) "__init__" = some (some (.ref fI)) ∧
    PySem.W.typeIn K (.ref fI) = some (.type "function") ∧ Binds K fd ["self", a, b] [] ∧ FnOk P w K mg base CX0 1 fI fd ["self", a, b] (spIn K a b)
theorem pmkN {CX : CXT} {x : Str} {C fI : Addr} {k : Nat} {fd : FuncData} {ps : List Str} {sp : Sp} {ta : TA} (T : OexC X.K C) (iC : PySem.W.findIn X.K (.ref C) "__init__" = some (some (.ref fI))) (tI : PySem.W.typeIn X.K (.ref fI) = some (.type "function"))
    (F1 : FnOk X.prog X.w X.K X.mg X.base CX k fI fd ps sp) (hr : Room (k + 1) X.A) (hb : Binds X.K fd ps []) (hx : Passes CX X (fun _ _ _ => False)) (hg : Gl X x) (hm : X.mg x = some (.ref C)) (ha : PA X (e :: es) ta)
    (hdb : (x == ("__debug__" : Str)) = false := by decide) (he : starEach (e :: es) X.env = (false, eval e X.env) :: starEach es X.env := by rfl) (hpl : (backTo pos (starEach es X.env)).any (·.1) = false := by rfl) :
    L2N.PMk X (.Call (.Name x p) (e :: es) [] pos) (tMkO C sp [] ta) := fun pins s σ H Q I h => by
  obtain ⟨nm, q, N, bs, bm, sn, sub, ab, col, dd, k0, k1, k2, k3, k5, hC, hbm⟩ := T.cls
  refine wpAny_Call_Name_kw (ld_glob I hg hm (PySem.W.callWith_K (h₀ := X.base) I.ok.mod.kin T.kC (thn (ha.run pos pins s σ H _ I h) fun us s1 ⟨vs, H1, I1, r1, hz, q1⟩ => ⟨I1.kIn, ?_⟩) he hpl) hdb)
  show wpAny _ _ (call (.ref C) us) _ _ _
  obtain ⟨hp, g, dr, tk, os⟩ := s1
  generalize hA : hp.objs.size + 1 = A1
  have hsz : hp.objs.size ≤ A1 := by omega
  have hq := q1 A1 (I1.hok.fresh hsz)
  rw [List.append_nil] at hq
  have kk : ∀ b o, hp.get? b = some o → ((hp.push (PySem.W.kdv_tup us)).push (PySem.HandSPX.excO C hp.objs.size)).get? b = some o := fun b o z => Heap.get?_push_of_some _ (Heap.get?_push_of_some _ z)
  have hget : ((hp.push (PySem.W.kdv_tup us)).push (PySem.HandSPX.excO C hp.objs.size)).get? A1 = some (PySem.HandSPX.excO C hp.objs.size) := by rw [← hA]; heap_get
  have I2 := I1.laid (t' := tk) (a := A1) (o := exo A1 C none) kk hsz (exo_ok hget)
  have hus : us.length ≤ sizeLine := by rw [← Paired.length r1, sizeLine_eq]; omega
  have r2 : Vals (V.ref A1 :: vs) (Value.ref A1 :: us) := .cons rfl r1
  have hl : (Value.ref A1 :: us ++ []).length = ps.length := by
    have z := r2.length
    rw [F1.len _ _ _ _ hq] at z
    rw [List.append_nil]; exact z.symm
  have b2 := hb _ (Value.ref A1 :: us) I2.kIn hl
  rw [List.append_nil] at b2
  subst hA
  refine wpAny_call (PySem.HandSPX.call_own F.excBase_ValueError (fun Y => PySem.HandSPX.refsVE_contains Y bm hbm) (I1.kIn _ _ hC) (PySem.W.looks_findIn I1.kIn iC) (fun self => PySem.W.bind_fn I1.kIn self tI) hus
    (codeAny_mono (F1.run _ X.stack _ _ ⟨Value.ref (hp.objs.size + 1) :: us, []⟩ _ _ _ (fun _ _ _ => False) (hr.make C us []) (I2.env0.make C us []) b2 r2 hq) fun r s' z => ?_))
  match r, z with
  | .error er, z => exact hx pins σ _ _ er s' I2 z
  | .ok (.ret u), z =>
    obtain ⟨v, H2, os2, bare2, un2, hok2, rv, ev, d, fs, ea, ed, hd1, q2⟩ := z
    subst ev
    obtain ⟨h2, g2, d2, t2, os'⟩ := s'
    obtain ⟨t0, G, J, kG, ge, hoe, na⟩ := mk_end0 (d2 := d2) (t2 := t2) I1 hsz kk un2 hok2 os2 bare2 ea ed hd1
    exact ⟨rv, _, _, _, ⟨G, g2, d2, t2, os'⟩, _, .ref C, some d, rfl, J, kG, ge, hoe, ⟨rfl, rfl, fun vs hv => by cases hv; rfl⟩, rfl, rfl, na, rfl, bare2, raises_own T.exC T.tyC, q2⟩
  | .ok .next, z => exact z.elim
  | .ok .brk, z => exact z.elim
  | .ok .cont, z => exact z.elim
/-- raise x(..) of such a class -/
def sRaise (x a b : Str) (as : DA) : DS := fun σ S => bndS σ (as σ S) fun ws S1 => match datz ws with
  | some [u, v] => some (.xc ⟨x, [(b, v), (a, u)]⟩ σ S1)
  | _ => none
theorem s_raise {n1 n2 : Str} {pos2 : Pos} (R : ErrG X.prog X.w X.K X.mg X.base x n1 n2) (hr : Room j X.A) (tk : Tk X E) (ha : SA X E (e :: es) das) (hj : 2 ≤ j := by decide) (hc : X.calm = true := by rfl) (hg : Gl X x := by rfl)
    (hdb : (x == ("__debug__" : Str)) = false := by decide) (he : starEach (e :: es) X.env = (false, eval e X.env) :: starEach es X.env := by rfl) (hpl : (backTo pos (starEach es X.env)).any (·.1) = false := by rfl) :
    SS X E (.Raise (some (.Call (.Name x p) (e :: es) [] pos)) none pos2) (sRaise x n1 n2 das) := by
  obtain ⟨C, fI, fd, hm, T, c1, c2, iC, tI, hb, F1⟩ := R.ex
  refine PSw (L2N.ps_raise hc tk (pmkN T iC tI F1 (hr.mono hj) hb (fun _ _ _ _ _ _ _ z => z.elim) hg hm ha hdb he hpl)) fun D σV H q => ?_
  obtain ⟨φ, σ, S, o, hs, hen, hd, hq⟩ := q
  unfold sRaise at hd
  match ha : das σ S, hd with
  | none, hd => cases hd
  | some (.xc x S1), hd => cases hd; exact ⟨φ, σ, S, .xc x S1, hs, hen, ha, fun φ' H' e s => hq φ' H' σV e s (hen.mono e)⟩
  | some (.ok ws S1), hd =>
    rw [bndS_ok] at hd
    refine ⟨φ, σ, S, .ok ws S1, hs, hen, ha, fun φ1 H1 vs e1 s1 x1 => ?_⟩
    split at hd
    · rename_i u v hz
      cases hd
      have rd := dats_rd x1 (datz_of hz).2
      obtain ⟨v1, r1, rfl, y1, z1⟩ := rd
      obtain ⟨v2, r2, rfl, y2, z2⟩ := z1
      cases z2
      refine ⟨by simp, fun A1 hA => ?_⟩
      refine ⟨A1, C, v1, v2, rfl, upd_same, T, c1, c2, fun d hd hne => ⟨rfl, d, _, (upd_ne hne.symm).trans upd_same, upd_same, ?_, ?_⟩⟩
      · rw [upd_ne hne] at hd; exact hd
      · have hd1 : H1 d = none := by rw [upd_ne hne] at hd; exact hd
        have eH : upd (del (upd (upd (upd (upd H1 A1 (exo A1 C none)) d (exd d [(n1, v1)])) A1 (exo A1 C (some d))) d (exd d [(n2, v2), (n1, v1)])) A1) d (.xd [(n2, v2), (n1, v1)]) = upd H1 d (.xd [(n2, v2), (n1, v1)]) := by
          funext b
          by_cases h1 : b = d
          · subst h1; rw [upd_same, upd_same]
          · rw [upd_ne h1, upd_ne h1]
            by_cases h2 : b = A1
            · subst h2; rw [del_same, hA]
            · rw [del_ne h2, upd_ne h1, upd_ne h2, upd_ne h1, upd_ne h2]
        rw [eH]
        have ex := Ext.new (o := .xd [(n2, v2), (n1, v1)]) hd1 s1
        have := hq φ1 _ σV (e1.trans ex) (s1.new hd1) ((hen.mono e1).mono ex) C hm
        exact this.2 d [v2, v1] upd_same ⟨v2, _, rfl, RD.mono ex _ _ y2, v1, _, rfl, RD.mono ex _ _ y1, rfl⟩
    · cases hd

/-! ### try -/
def noX : Option Out → Option Out
  | some (.xc _ _ _) => none
  | o => o
/-- try: body / except (a class that catches cs): suite -/
def sTryO (cs : List Str) (body su : DS) : DS := fun σ S => match body σ S with
  | some (.xc x σ1 S1) => if x.cls ∈ cs then noX (su σ1 S1) else none
  | o => o
theorem takesN {X : Cx} {W : WX} (t : L2.Takes X W) : L2N.Takes X W := fun u s' ⟨a, B, sI, pins, σ, H, cls, d, e, I, nb, up, sky, na, os, ag, q⟩ => t u s' ⟨a, B, sI, pins, σ, H, cls, d, e, I, nb, up, by
  rcases sky with ⟨h1, h2, h3, oe, vs, h4, h5, h6⟩ | ⟨h1, h2, h3, oe, vs, T, oT, ts, h4, h5, h6⟩ | ⟨h1, h2, h3, oe, vs, T, oT, ts, h4, h5, h6⟩
  · exact .inl ⟨h1, h2, h3, oe, vs, h4, h5.zc, h6⟩
  · exact .inr (.inl ⟨h1, h2, h3, oe, vs, T, oT, ts, h4, h5.zc, h6⟩)
  · exact .inr (.inr ⟨h1, h2, h3, oe, vs, T, oT, ts, h4, h5.zc, h6⟩), na, os, ag, q⟩
theorem s_tryO {cs : List Str} {c : Value} {body suite : List Stmt} {b₀ : Stmt} {np pos' : Pos} {db dsu : DS} (hcat : ∀ y ∈ cs, ∀ C, X.mg y = some (.ref C) → PySem.W.exmOne X.K (.ref C) c = some true)
    (hb : ∀ (E' : EK) (pn : List (Addr × Obj)) (xe : Value → Shared → Prop), Tk (X.tr pn xe) E' → PassesOwn (model X.prog X.w) X.A X.env xe → SSs (X.tr pn xe) E' body db)
    (hsu : ∀ (a : Addr) (oe : Obj) (pn : List (Addr × Obj)), SSs (X.suite a ((a, oe) :: pn)) (fun _ => E0) (b₀ :: suite) dsu) (hc : Names X x c) (hs : X.stack = X.env :: X.outer := by rfl) (hf : X.env.frame = some X.env.locals := by rfl) :
    SS X E (.Try body [.ExceptHandler (some (.Name x np)) none (b₀ :: suite) pos'] [] [] pos) (sTryO cs db dsu) := by
  refine PSw (ps_try_only (c := c) (Wout := fun _ _ _ _ => False) (tb := fun W => tS X.K X.mg (fun σ cls d H => W cls d σ H) db) (ts := fun _ _ _ => tS X.K X.mg (fun _ => E0) dsu) hs hf hc
    (fun u s' h => by obtain ⟨_, _, _, _, _, _, _, _, _, _, _, _, _, _, _, _, z⟩ := h; exact z.elim) (fun W pn xe tk po => hb _ pn xe (takesN tk) po) (fun a oe cls d pn _ _ => hsu a oe pn)) fun D σV H q => ?_
  obtain ⟨φ, σ, S, o, hs, hen, hd, hq⟩ := q
  unfold sTryO at hd
  match ha : db σ S, hd with
  | none, hd => cases hd
  | some (.nx _ _), hd => cases hd; exact ⟨φ, σ, S, _, hs, hen, ha, hq⟩
  | some (.rt _ _), hd => cases hd; exact ⟨φ, σ, S, _, hs, hen, ha, hq⟩
  | some (.bk _ _), hd => cases hd; exact ⟨φ, σ, S, _, hs, hen, ha, hq⟩
  | some (.ct _ _), hd => cases hd; exact ⟨φ, σ, S, _, hs, hen, ha, hq⟩
  | some (.xc y σ1 S1), hd =>
    dsimp only at hd
    split at hd
    · rename_i hy
      refine ⟨φ, σ, S, _, hs, hen, ha, fun φ1 H1 σV1 e1 s1 n1 C hC => ?_⟩
      have go : ∀ d, wOnly X.K c (fun _ _ _ => tS X.K X.mg (fun _ => E0) dsu) (fun _ _ _ _ => False) D (.ref C) d σV1 H1 := fun d => by
        refine ⟨true, hcat _ hy C hC, fun _ a _ => ?_, fun z => by cases z⟩
        match hsu2 : dsu σ1 S1, hd with
        | none, hd => cases hd
        | some (.nx _ _), hd => cases hd; exact ⟨φ1, σ1, S1, _, s1, n1, hsu2, fun φ' H' σV' e' => hq φ' H' σV' (e1.trans e')⟩
        | some (.rt _ _), hd => cases hd; exact ⟨φ1, σ1, S1, _, s1, n1, hsu2, fun φ' H' σV' e' => hq φ' H' σV' (e1.trans e')⟩
        | some (.bk _ _), hd => cases hd; exact ⟨φ1, σ1, S1, _, s1, n1, hsu2, fun φ' H' σV' e' => hq φ' H' σV' (e1.trans e')⟩
        | some (.ct _ _), hd => cases hd; exact ⟨φ1, σ1, S1, _, s1, n1, hsu2, fun φ' H' σV' e' => hq φ' H' σV' (e1.trans e')⟩
        | some (.xc _ _ _), hd => cases hd
      exact ⟨fun _ => go none, fun a vs _ _ => go (some a)⟩
    · cases hd
end
end CL
end

section
/-! part CLMore -/
set_option Elab.async false
set_option linter.all false
set_option maxRecDepth 100000
/-! CLMore: x in d, any, min of two, extend, dict(pairs). -/
namespace CL
open PySem PySem.Spec PyProof.Rows L2

section
variable {X : Cx} {E : EK} {pos p p2 : Pos} {a b : Expr} {da db : DE}
/-! ### is the key there -/
def dhasW (neg : Bool) (S : So) : W → W → Option W
  | .d y, .r n => match S[n]? with
    | some (.dk kvs) => (keyP y).map fun k => .d (.bool ((valD kvs k).isSome != neg))
    | some (.dt kvs) => match y with
      | .tuple ys => (keysP ys).map fun k => .d (.bool ((valD kvs k).isSome != neg))
      | _ => none
    | _ => none
  | _, _ => none
theorem KR.isSome {α : Type} [DecidableEq α] {K : PySem.W.Frag} {H : Hp} {φ : Fi} {kvs : List (α × PyData)} {es : List (α × V)} (h : KR K H φ kvs es) (k : α) : (valV es k).isSome = (valD kvs k).isSome := by
  cases e : valD kvs k with
  | none => rw [h.none e]; rfl
  | some z => obtain ⟨w, h1, _⟩ := h.val e; rw [h1]; rfl
theorem dhas_rd {neg : Bool} (σV : L2.St) (H : Hp) (Q : VK) (h : tE X.K X.mg E (dBin (dhasW neg) da db) σV H Q) :
    tE X.K X.mg E da σV H fun y H1 => tE X.K X.mg E db σV H1 fun x H2 => ∃ a o, x = .ref a ∧ DGet H2 a y o ∧ Q (.bl (o.isSome != neg)) H2 := by
  refine tE2 (W0 := fun x y S => giv (dhasW neg S x y) S) (R := fun y x H2 Q => ∃ a o, x = .ref a ∧ DGet H2 a y o ∧ Q (.bl (o.isSome != neg)) H2) σV H Q h fun φ H S x y v u r Q hs hx hy hg hq => ?_
  match hw : dhasW neg S x y, hg with
  | none, hg => cases hg
  | some w, hg =>
    cases hg
    unfold dhasW at hw
    split at hw
    · rename_i y n
      obtain ⟨a, ha, rfl⟩ := hy
      split at hw
      · rename_i kvs hS
        obtain ⟨es, h1, h2⟩ := hs.dk ha hS
        obtain ⟨k, h3, h4⟩ := Option.map_eq_some_iff.mp hw
        subst h4
        exact ⟨a, _, rfl, by rw [keyP_of hx h3]; exact DGet.k h1, hq φ H _ .refl hs (by rw [h2.isSome]; rfl)⟩
      · rename_i kvs hS
        split at hw
        · rename_i ys
          obtain ⟨es, h1, h2⟩ := hs.dt ha hS
          obtain ⟨k, h3, h4⟩ := Option.map_eq_some_iff.mp hw
          subst h4
          obtain ⟨b, us, rfl, h9, h10⟩ := hx
          exact ⟨a, _, rfl, DGet.t h1 (by rw [← keysP_of h10 h3]; exact h9), hq φ H _ .refl hs (by rw [h2.isSome]; rfl)⟩
        · cases hw
      · cases hw
    · cases hw
theorem pc_dhas (hu : X.A.units + 1 < cLine) (ha : SE X E a da) (hb : SE X E b db) : PC X .In a b (tE X.K X.mg E (dBin (dhasW false) da db)) :=
  ⟨fun pins s σ H Q I h => (pc_din hu ha hb).run pins s σ H Q I (by simpa [tDIn] using dhas_rd (neg := false) σ H Q h)⟩
theorem pc_dhasnt (hu : X.A.units + 1 < cLine) (ha : SE X E a da) (hb : SE X E b db) : PC X .NotIn a b (tE X.K X.mg E (dBin (dhasW true) da db)) :=
  ⟨fun pins s σ H Q I h => (pc_dnotin hu ha hb).run pins s σ H Q I (by simpa [tDNotIn] using dhas_rd (neg := true) σ H Q h)⟩
theorem e_dhas (hu : X.A.units + 1 < cLine) (ha : SE X E a da) (hb : SE X E b db) (hm : behindInMarks .In b = false := by first | exact nomark _ | rfl) : SE X E (.Compare a [.In] [b] pos) (dBin (dhasW false) da db) := pe_cmp (pc_dhas hu ha hb) hm
theorem e_dhasnt (hu : X.A.units + 1 < cLine) (ha : SE X E a da) (hb : SE X E b db) (hm : behindInMarks .NotIn b = false := by first | exact nomark _ | rfl) : SE X E (.Compare a [.NotIn] [b] pos) (dBin (dhasW true) da db) := pe_cmp (pc_dhasnt hu ha hb) hm
theorem t_dhas (hu : X.A.units + 1 < cLine) (ha : SE X E a da) (hb : SE X E b db) (hm : behindInMarks .In b = false := by first | exact nomark _ | rfl) : ST X E (.Compare a [.In] [b] pos) (dB (dBin (dhasW false) da db)) :=
  PTw (pt_cmp (pc_dhas hu ha hb) hm) fun σV H Q q => b_rd σV H Q q
theorem t_dhasnt (hu : X.A.units + 1 < cLine) (ha : SE X E a da) (hb : SE X E b db) (hm : behindInMarks .NotIn b = false := by first | exact nomark _ | rfl) : ST X E (.Compare a [.NotIn] [b] pos) (dB (dBin (dhasW true) da db)) :=
  PTw (pt_cmp (pc_dhasnt hu ha hb) hm) fun σV H Q q => b_rd σV H Q q
/-! ### any(xs), min(i, j) -/
def anyP : PyData → Option PyData
  | .list xs => (bools xs).map fun bs => .bool (bs.any id)
  | _ => none
theorem b_any (hc : X.calm = true := by rfl) : CallR X (.builtin "any") (rC X.K X.mg (c1 anyP)) :=
  callw (cr_any hc) fun vs H Q ⟨φ, S, ws, w, hs, hx, hg, hq⟩ => by
    obtain ⟨u, x, c, rfl, h1, h2, rfl⟩ := c1_of hg
    obtain ⟨v, rfl, hv⟩ := one_of hx
    unfold anyP at h2
    split at h2
    · obtain ⟨bs, h3, h4⟩ := Option.map_eq_some_iff.mp h2
      subst h4
      obtain ⟨l, vs, rfl, f1, r1⟩ := seqL_of hs hv h1
      rw [bools_of r1 h3] at f1
      exact ⟨l, bs, rfl, f1, hq φ H _ .refl hs rfl⟩
    · cases h2
def min2W : So → List W → Option W
  | _, [.d (.int i), .d (.int j)] => some (.d (.int (if j < i then j else i)))
  | _, _ => none
theorem b_min2 (hc : X.calm = true := by rfl) : CallR X (.builtin "min") (rC X.K X.mg min2W) :=
  callw (call_min2 hc) fun vs H Q ⟨φ, S, ws, w, hs, hx, hg, hq⟩ => by
    unfold min2W at hg
    split at hg
    · cases hg
      obtain ⟨u1, r1, rfl, x1, y1⟩ := hx
      obtain ⟨u2, r2, rfl, x2, y2⟩ := y1
      cases y2; cases x1; cases x2
      exact ⟨_, _, rfl, hq φ H _ .refl hs rfl⟩
    · cases hg
/-! ### l.extend(xs) -/
def seqD (S : So) (w : W) : Option (List PyData) := (rd S w).bind fun
  | .list xs => some xs
  | .tuple xs => some xs
  | _ => none
theorem extend_as {l b : Addr} {items items2 : Array Value} {n n2 : Nat} {T : String} {dct : Option Addr} {sl : Array (Option Value)} (hT : T = "list" ∨ T = "tuple") (hc0 : ¬(!items.isEmpty && Builtin.List.listTooLong (items.size + items2.size)) = true) (hc1 : items.size ≤ sizeLine) (hs2 : items.size + items2.size ≤ sizeLine + 1) :
    Meets (Builtin.«list.extend» ⟨[.ref l, .ref b], []⟩) (fun _ R s => s.heap.get? l = some { cls := .type "list", dict := none, data := .seq items n, slots := #[] } ∧ s.heap.get? b = some { cls := .type T, dict := dct, data := .seq items2 n2, slots := sl } ∧
      R (.ok (.ret Value.none)) { s with heap := s.heap.update l (Obj.mapSeq fun x => x ++ items2), toks := s.toks }) := by
  rcases hT with rfl | rfl
  · refine .of_wp fun prog w A R s h => ?_
    obtain ⟨hp, g, d, tk, os⟩ := s
    obtain ⟨hl, hb, h⟩ := h
    have f1 := AutoSeq1.idx_int; have f2 := AutoSeq1.sub_tuple_tuple; have f3 := AutoSeq1.sub_list_list; have f4 := AutoSeq1.sub_tuple_list; have f5 := AutoSeq1.sub_list_tuple
    have hz' : (items ++ items2).size ≤ sizeLine + 1 := by rw [Array.size_append]; exact hs2
    wp_walk using (wpAny_updateSeq hl rfl (hz := hc1) (_hz' := hz')), AutoSeq1.wpAny_loadPart' hl, AutoSeq1.wpAny_loadPart' hb
    exact ⟨_, rfl, h⟩
  · refine .of_wp fun prog w A R s h => ?_
    obtain ⟨hp, g, d, tk, os⟩ := s
    obtain ⟨hl, hb, h⟩ := h
    have f1 := AutoSeq1.idx_int; have f2 := AutoSeq1.sub_tuple_tuple; have f3 := AutoSeq1.sub_list_list; have f4 := AutoSeq1.sub_tuple_list; have f5 := AutoSeq1.sub_list_tuple
    have hz' : (items ++ items2).size ≤ sizeLine + 1 := by rw [Array.size_append]; exact hs2
    wp_walk using (wpAny_updateSeq hl rfl (hz := hc1) (_hz' := hz')), AutoSeq1.wpAny_loadPart' hl, AutoSeq1.wpAny_loadPart' hb
    exact ⟨_, rfl, h⟩
def rExtS (K : PySem.W.Frag) : V → List V → Hp → VK → Prop := fun x vs H Q => ∃ l b xs zs, x = .ref l ∧ vs = [.ref b] ∧ H l = some (.lst xs) ∧ (SqL K H b zs ∨ SqT K H b zs) ∧ xs.length + zs.length ≤ sizeLine ∧ Q .non (upd H l (.lst (xs ++ zs)))
theorem mt_extS : MtM X "list.extend" (rExtS X.K) := by
  intro pins s σ H x vs v us Q I rx rv h
  obtain ⟨l, b, xs, zs, rfl, rfl, hH, hB, hz, q⟩ := h
  cases rx
  obtain ⟨u, rfl, ru⟩ := rv.one
  cases ru
  obtain ⟨z, its, n, r, hl, e⟩ := I.lstM hH
  obtain ⟨its2, r2, T, dct, n2, sl, hT, e2⟩ : ∃ its2 : List Value, Vals zs its2 ∧ ∃ (T : String) (dct : Option Addr) (n2 : Nat) (sl : Array (Option Value)), (T = "list" ∨ T = "tuple") ∧ s.heap.get? b = some { cls := .type T, dict := dct, data := .seq its2.toArray n2, slots := sl } := by
    rcases hB with hB | hB
    · obtain ⟨its2, r2, ⟨o, n2, e2, hc, _, hd⟩, _⟩ := I.list hB
      obtain ⟨c, dct, dt, sl⟩ := o
      cases hc; cases hd
      exact ⟨its2, r2, _, dct, n2, sl, .inl rfl, e2⟩
    · obtain ⟨its2, r2, ⟨o, e2, hc, n2, hd⟩, _⟩ := I.tuple hB
      obtain ⟨c, dct, dt, sl⟩ := o
      cases hc; cases hd
      exact ⟨its2, r2, _, dct, n2, sl, .inr rfl, e2⟩
  have hl2 := r2.length
  have hsz : its.toArray.size + its2.toArray.size ≤ sizeLine := by rw [List.size_toArray, List.size_toArray]; omega
  have hlong : ¬ (!its.toArray.isEmpty && Builtin.List.listTooLong (its.toArray.size + its2.toArray.size)) = true := by
    rw [notLongL hsz, Bool.and_false]; exact Bool.false_ne_true
  refine call_meets F.slot_list_extend ⟨_, e, rfl⟩ F.entry_list_extend (F.args_list_extend_2 _ _) (extend_as hT hlong (by rw [List.size_toArray]; omega) (by omega)) ⟨e, e2, ?_⟩
  refine ⟨.non, _, I.lset (its' := its ++ its2) hH e (by simp) (r.append r2) ?_, rfl, q⟩
  rw [List.length_append]; omega
def gExt : GM
  | S, .r n, [w] => match S[n]?, seqD S w with
    | some (.lst xs), some ys => if small (xs.length + ys.length) = true then some (.d .none, S.set n (.lst (xs ++ ys))) else none
    | _, _ => none
  | _, _, _ => none
theorem seqD_of {K : PySem.W.Frag} {mg : Str → Option Value} {H : Hp} {φ : Fi} {S : So} {w : W} {v : V} {ds : List PyData} (hs : SR K H φ S) (h : RW K H φ mg w v) (e : seqD S w = some ds) : ∃ a vs, v = .ref a ∧ (SqL K H a vs ∨ SqT K H a vs) ∧ RDs K H φ ds vs := by
  obtain ⟨x, h1, h2⟩ := Option.bind_eq_some_iff.mp e
  split at h2
  · cases h2; obtain ⟨a, vs, e1, q1, q2⟩ := seqL_of hs h h1; exact ⟨a, vs, e1, .inl q1, q2⟩
  · cases h2; obtain ⟨a, vs, e1, q1, q2⟩ := seqT_of h h1; exact ⟨a, vs, e1, .inr q1, q2⟩
  · cases h2
theorem e_extend {o e : Expr} {dO : DE} {das : DA} {apos cpos : Pos} (ho : SE X E o dO) (ha : SA X E [e] das) (hbase : attributeBase o "extend" X.env (eval o X.env) = eval o X.env := by rfl)
    (hfew : ((backTo cpos (starEach [e] X.env)).all (fun x => !x.1) && (backToKw cpos (keywordEach [] X.env)).all (fun x => x.1.isSome) && decide (([e] : List Expr).length + ([] : List Keyword).length + (if ([] : List Keyword).isEmpty then 0 else 1) < 30)) = true := by rfl)
    (hline : (apos.endLine == cpos.line) = true := by rfl) (hs : starEach [e] X.env = (false, eval e X.env) :: starEach [] X.env := by rfl) (hplain : (backTo cpos (starEach [] X.env)).any (·.1) = false := by rfl) :
    SE X E (.Call (.Attribute o "extend" apos) [e] [] cpos) (dMeth "list" gExt dO das) :=
  e_meth mt_extS (fun v1 vs H Q h => by
    obtain ⟨φ, S, x, ws, w, S', hs, hx, hws, hg, hq⟩ := h
    unfold gExt at hg
    split at hg
    · rename_i n y
      split at hg
      · rename_i xs ys hS hy
        split at hg
        · rename_i hz
          cases hg
          obtain ⟨c, ha, rfl⟩ := hx
          obtain ⟨v, rfl, hv⟩ := one_of hws
          obtain ⟨b, zs, rfl, f1, f2⟩ := seqD_of hs hv hy
          obtain ⟨us, q1, q2⟩ := hs.ob n c _ ha hS
          have nl : notLk S[n]? := by rw [hS]; trivial
          have ex := Ext.wr (o := .lst (us ++ zs)) hs ha nl
          refine ⟨c, b, us, zs, rfl, rfl, q1, f1, by rw [q2.length, f2.length]; exact small_le hz, hq φ _ _ ex (hs.wr ha nl ⟨_, upd_same, RDs.append (RDs.mono ex _ _ q2) (RDs.mono ex _ _ f2)⟩) rfl⟩
        · cases hg
      · cases hg
    · cases hg) F.plainAttrs_list F.slot_list_extend F.type_list_extend ho ha hbase hfew hline hs hplain
end
end CL
end

section
/-! part CLKw -/
set_option Elab.async false
set_option linter.all false
set_option maxRecDepth 100000
/-! CLKw: calls of defs by keywords alone; dict comprehensions; items of a dict. -/
namespace CL
open PySem PySem.Spec PyProof.Rows L2
section
variable {X : Cx} {E : EK} {pos p : Pos} {e : Expr} {kws : List Keyword} {de : DE} {das : DA} {x : Str} {F : DF} {j k : Nat} {CX : CXT}
/-! ### f(k = e, ..) -/
abbrev SK (X : Cx) (E : EK) (kws : List Keyword) (d : DA) : Prop := PK X kws (tA X.K X.mg E d)
theorem PKw {kws : List Keyword} {t t' : TA} (h : PK X kws t) (k : ∀ σ H Q, t' σ H Q → t σ H Q) : PK X kws t' := ⟨fun ps pins s σ H Q I q => h.run ps pins s σ H Q I (k σ H Q q)⟩
theorem cons_rd {dr : DA} (σV : L2.St) (H : Hp) (Q : List V → Hp → Prop) (q : tA X.K X.mg E (dCons de dr) σV H Q) : tCons (tE X.K X.mg E de) (tA X.K X.mg E dr) σV H Q := by
  obtain ⟨φ, σ, S, r', hs, he, hd, hq⟩ := q
  unfold dCons at hd
  match ha : de σ S, hd with
  | none, hd => cases hd
  | some (.xc x S1), hd => cases hd; exact ⟨φ, σ, S, .xc x S1, hs, he, ha, hq⟩
  | some (.ok x S1), hd =>
    refine ⟨φ, σ, S, .ok x S1, hs, he, ha, fun φ1 H1 v1 e1 s1 x1 => ?_⟩
    rw [bnd_ok] at hd
    match hb : dr σ S1, hd with
    | none, hd => cases hd
    | some (.xc y S2), hd => cases hd; exact ⟨φ1, σ, S1, .xc y S2, s1, he.mono e1, hb, XR.keep e1 hq⟩
    | some (.ok xs S2), hd =>
      cases hd
      exact ⟨φ1, σ, S1, .ok xs S2, s1, he.mono e1, hb, fun φ2 H2 vs e2 s2 y2 => hq φ2 H2 (v1 :: vs) (e1.trans e2) s2 ⟨v1, vs, rfl, x1.mono e2, y2⟩⟩
theorem k_nil : SK X E [] dNil := PKw pk_nil fun σV H Q ⟨φ, σ, S, r, hs, he, hd, hq⟩ => by cases hd; exact hq φ H [] .refl hs rfl
theorem k_cons {nm : Option Str} {kp : Pos} {dr : DA} (ha : SE X E e de) (hr : SK X E kws dr) : SK X E (⟨nm, e, kp⟩ :: kws) (dCons de dr) := PKw (pk_cons ha hr) cons_rd
/-- the arguments in the parameters' order -/
def pick {α : Type} (π : List Nat) (l : List α) : List α := π.filterMap fun i => l[i]?
theorem pick_vals {vs : List V} {us : List Value} (r : Vals vs us) : ∀ π : List Nat, Vals (pick π vs) (pick π us)
  | [] => .nil
  | i :: π => by
    have ih := pick_vals r π
    unfold pick at ih ⊢
    rw [List.filterMap_cons, List.filterMap_cons]
    cases h : vs[i]? with
    | none =>
      have hl := r.length
      have : us[i]? = none := by
        rw [List.getElem?_eq_none_iff] at h ⊢; omega
      rw [this]; exact ih
    | some v =>
      obtain ⟨u, h1, h2⟩ := r.get h
      rw [h1]; exact .cons h2 ih
theorem pick_rws {K : PySem.W.Frag} {H : Hp} {φ : Fi} {mg : Str → Option Value} {ws : List W} {vs : List V} (r : RWs K H φ mg ws vs) : ∀ π : List Nat, RWs K H φ mg (pick π ws) (pick π vs)
  | [] => rfl
  | i :: π => by
    have ih := pick_rws r π
    unfold pick at ih ⊢
    rw [List.filterMap_cons, List.filterMap_cons]
    cases h : ws[i]? with
    | none =>
      have hl := r.length
      have : vs[i]? = none := by
        rw [List.getElem?_eq_none_iff] at h ⊢; omega
      rw [this]; exact ih
    | some v =>
      obtain ⟨u, h1, h2⟩ := r.get h
      rw [h1]; exact ⟨u, _, rfl, h2, ih⟩
def dFnK (F : DF) (π : List Nat) (as : DA) : DE := fun σ S => bnd (as σ S) fun ws S1 => if ws.length = π.length then F (pick π ws) S1 else none
theorem e_fnK {π : List Nat} {ks ps : List Str} {f : Addr} {fd : FuncData} (hF : FnG X.prog X.w X.K X.mg X.base CX k f fd ps (spF X.K X.mg F)) (hgd : X.A.guards = some []) (hr : Room k X.A) (hm : X.mg x = some (.ref f)) (hk : PySem.W.keepIn X.K (.ref f) = true)
    (hb : ∀ (s : Shared) (us : List Value), us.length = π.length → BindsTo s fd ⟨[], ks.zip us⟩ (ps.zip (pick π us))) (hx : PaAt CX X E) (ha : SK X E kws das) (hg : Gl X x := by rfl)
    (hall : (backToKw pos (keywordEach kws X.env)).all (·.1.isSome) = true := by rfl) (hks : (backToKw pos (keywordEach kws X.env)).filterMap (·.1) = ks := by rfl) (hdb : (x == ("__debug__" : Str)) = false := by decide)
    (hpl : ((backTo pos (starEach [] X.env)).any (·.1) || (backToKw pos (keywordEach kws X.env)).any (·.1.isNone)) = false := by rfl) : SE X E (.Call (.Name x p) [] kws pos) (dFnK F π das) := by
  refine ⟨fun pins s σ H Q I h => wpAny_Call_Name_kw (ld_glob I hg hm (PySem.W.callWith_KW0 (h₀ := X.base) I.ok.mod.kin hk hall ?_ hpl) hdb)⟩
  obtain ⟨φ, σ', S, r', hs, he, hd, hq⟩ := h
  unfold dFnK at hd
  match hda : das σ' S, hd with
  | none, hd => cases hd
  | some (.xc y S1), hd => cases hd; exact thn (ha.run pos pins s σ H (fun _ _ => False) I ⟨φ, σ', S, .xc y S1, hs, he, hda, hq⟩) fun us s1 ⟨vs, H1, I1, r, z⟩ => z.elim
  | some (.ok ws S1), hd =>
    refine thn (ha.run pos pins s σ H (fun vs H1 => ∃ φ1, Ext φ H φ1 H1 ∧ SR X.K H1 φ1 S1 ∧ RWs X.K H1 φ1 X.mg ws vs) I ⟨φ, σ', S, .ok ws S1, hs, he, hda, fun φ1 H1 v e1 s1 x1 => ⟨φ1, e1, s1, x1⟩⟩) fun us s1 ⟨vs, H1, I1, r, φ1, e1, s1', x1⟩ => ⟨I1.kIn, ?_⟩
    rw [hks]
    rw [bnd_ok] at hd
    split at hd
    · rename_i hl
      have hlu : us.length = π.length := by rw [← r.length, x1.length, hl]
      have hsp : spF X.K X.mg F (pick π vs) H1 Q (E σ) := ⟨φ1, S1, _, r', s1', pick_rws x1 π, hd, by
        cases r' with
        | ok w S2 => exact fun φ' H' v e' => hq φ' H' v (e1.trans e')
        | xc y S2 => exact XR.keep e1 hq⟩
      apply wpAny_call
      refine codeAny_mono (hF.run X.A X.stack s1 H1 ⟨[], ks.zip us⟩ _ _ Q (E σ) hgd hr I1.env0 (hb s1 us hlu) (pick_vals r π) hsp) ?_
      intro r2 s' hq2
      match r2, hq2 with
      | .error er, hq2 => exact hx σ pins H1 s1 er s' I1 hq2
      | .ok (.ret u), hq2 => exact I1.after hq2
    · cases hd
theorem kw_binds {K : PySem.W.Frag} {x : Str} {st : Stmt} {f : Addr} {fd fd' : FuncData} {π : List Nat} {ks ps : List Str} (F : Fun K x x st f fd') (lk : ∃ (oc : Value) (od : Option Addr) (osl : Array (Option Value)), K.lookup f = some ⟨oc, od, .func fd, osl⟩ ∧ fd.params.args.map (·.arg) = ps)
    (hb : ∀ (kV doc pm : Value) (an : Option Addr) (cdv ct : Value) (us : List Value), us.length = π.length → bindArgs (PySem.W.fnOf x x (defArgs st) (defBody st) (defScope st) .none kV doc pm an cdv ct) ⟨[], ks.zip us⟩ = pure (((defArgs st).args.map (·.arg)).zip (pick π us))) :
    ∀ (s : Shared) (us : List Value), us.length = π.length → BindsTo s fd ⟨[], ks.zip us⟩ (ps.zip (pick π us)) := by
  obtain ⟨oc, od, osl, l1, l2⟩ := lk
  obtain ⟨oc', od', kV, doc, pm, an, cdv, ct, osl', rfl, l3, _⟩ := F.ex
  rw [l1] at l3
  have e := Option.some.inj l3
  injection e with _ _ e _
  injection e with e
  subst e
  subst l2
  exact fun s us hl => .of_eq (hb kV doc pm an cdv ct us hl)
theorem e_callK {π : List Nat} {ks : List Str} {st : Stmt} {ps0 : List Str} (c : CalG X.prog X.w X.K X.mg X.base k x F) (D : DefG X.K X.mg x st ps0) (hgd : X.A.guards = some []) (hr : Room j X.A) (ha : SK X E kws das)
    (hb : ∀ (kV doc pm : Value) (an : Option Addr) (cdv ct : Value) (us : List Value), us.length = π.length → bindArgs (PySem.W.fnOf x x (defArgs st) (defBody st) (defScope st) .none kV doc pm an cdv ct) ⟨[], ks.zip us⟩ = pure (((defArgs st).args.map (·.arg)).zip (pick π us)))
    (hk : k ≤ j := by decide) (hg : Gl X x := by rfl)
    (hall : (backToKw pos (keywordEach kws X.env)).all (·.1.isSome) = true := by rfl) (hks : (backToKw pos (keywordEach kws X.env)).filterMap (·.1) = ks := by rfl) (hdb : (x == ("__debug__" : Str)) = false := by decide)
    (hpl : ((backTo pos (starEach [] X.env)).any (·.1) || (backToKw pos (keywordEach kws X.env)).any (·.1.isNone)) = false := by rfl) : SE X E (.Call (.Name x p) [] kws pos) (dFnK F π das) := by
  obtain ⟨f, fd, ps1, h1, h2, h3, h4, h5⟩ := c.ex
  obtain ⟨f', fd', F1, h6, _⟩ := D.ex
  rw [h2] at h6
  cases h6
  exact e_fnK h1 hgd (hr.mono hk) h2 h3 (kw_binds F1 h5 hb) pa0 ha hg hall hks hdb hpl
theorem e_callKX {π : List Nat} {ks : List Str} {st : Stmt} {ps0 : List Str} (c : CalX X.prog X.w X.K X.mg X.base k x F) (D : DefG X.K X.mg x st ps0) (hgd : X.A.guards = some []) (hr : Room j X.A) (tk : Tk X E) (ha : SK X E kws das)
    (hb : ∀ (kV doc pm : Value) (an : Option Addr) (cdv ct : Value) (us : List Value), us.length = π.length → bindArgs (PySem.W.fnOf x x (defArgs st) (defBody st) (defScope st) .none kV doc pm an cdv ct) ⟨[], ks.zip us⟩ = pure (((defArgs st).args.map (·.arg)).zip (pick π us)))
    (hk : k ≤ j := by decide) (hg : Gl X x := by rfl)
    (hall : (backToKw pos (keywordEach kws X.env)).all (·.1.isSome) = true := by rfl) (hks : (backToKw pos (keywordEach kws X.env)).filterMap (·.1) = ks := by rfl) (hdb : (x == ("__debug__" : Str)) = false := by decide)
    (hpl : ((backTo pos (starEach [] X.env)).any (·.1) || (backToKw pos (keywordEach kws X.env)).any (·.1.isNone)) = false := by rfl) : SE X E (.Call (.Name x p) [] kws pos) (dFnK F π das) := by
  obtain ⟨f, fd, ps1, h1, h2, h3, h4, h5⟩ := c.ex
  obtain ⟨f', fd', F1, h6, _⟩ := D.ex
  rw [h2] at h6
  cases h6
  exact e_fnK h1 hgd (hr.mono hk) h2 h3 (kw_binds F1 h5 hb) (paX tk) ha hg hall hks hdb hpl
/-! ### a dict comprehension -/
/-- .. makes a new object of the store; k: its number -/
def dcGo (o : Option Nat) (all : List PyData) (k : Nat) (vs : List Nat) (σ : En) (tg : Tg) (cond : DT) (key val : DE) : List PyData → So → M W
  | [], S => if keepB o all S = true then some (.ok (.r k) S) else none
  | x :: xs, S => if keepB o all S = true then
      match bindT tg (.d x) (wipeW σ vs) with
      | none => none
      | some σ1 => match cond σ1 S with
        | some (.ok true S1) => match key σ1 S1 with
          | some (.ok (.d y) S2) => match val σ1 S2 with
            | some (.ok (.d z) S3) => match S3[k]?, keyP y with
              | some (.dk kvs), some ky => if small (kvs.length + 1) = true then dcGo o all k vs σ tg cond key val xs (S3.set k (.dk (putD kvs ky z))) else none
              | _, _ => none
            | _ => none
          | _ => none
        | some (.ok false S1) => dcGo o all k vs σ tg cond key val xs S1
        | _ => none
    else none
def dDc (vs : List Nat) (it : DI) (tg : Tg) (cond : DT) (key val : DE) : DE := fun σ S => bnd (it σ S) fun p S1 => dcGo p.2 p.1 S1.length vs σ tg cond key val p.1 (S1 ++ [.dk []])
theorem dc_rd {vs : List Nat} {di : DI} {tgd : Tg} {dt : DT} {dk dv : DE} (hsub : subT tgd vs = true) (σV : L2.St) (H : Hp) (Q : VK) (q : tE X.K X.mg E (dDc vs di tgd dt dk dv) σV H Q) :
    tDc (iD X.K X.mg E di) (gT X.K tgd) (tT X.K X.mg EN dt) (tE X.K X.mg EN dk) (tE X.K X.mg EN dv) vs σV H Q := by
  obtain ⟨φ, σ, S, r, hs, hen, hd, hq⟩ := q
  unfold dDc at hd
  match ha : di σ S, hd with
  | none, hd => cases hd
  | some (.xc x S1), hd => cases hd; exact ⟨φ, σ, S, .xc x S1, hs, hen, ha, hq⟩
  | some (.ok (ds, o) S1), hd =>
    rw [bnd_ok] at hd
    refine ⟨φ, σ, S, .ok (ds, o) S1, hs, hen, ha, fun φ1 H1 J e1 s1 itd hz D hD => ?_⟩
    have ep := Ext.push (o := .dK []) hD s1
    have sp : SR X.K (upd H1 D (.dK [])) (φ1.push D) (S1 ++ [.dk []]) := s1.push hD (.dk' upd_same rfl)
    have kD : (φ1.push D).l[S1.length]? = some D := by
      show (φ1.l ++ [D])[S1.length]? = some D
      rw [← s1.len]; simp
    have up : ∀ {φ2 H2}, Ext (φ1.push D) (upd H1 D (.dK [])) φ2 H2 → φ2.l[S1.length]? = some D := fun {φ2 H2} e => by
      obtain ⟨t, ht⟩ := e.pre
      rw [← ht, List.getElem?_append_left (List.getElem?_eq_some_iff.mp kD).1]; exact kD
    refine ⟨fun i m H2 => ∃ φ2 S2, i + m = ds.length ∧ Ext (φ1.push D) (upd H1 D (.dK [])) φ2 H2 ∧ SR X.K H2 φ2 S2 ∧ ER X.K H2 φ2 X.mg σV σ ∧ dcGo o ds S1.length vs σ tgd dt dk dv (ds.drop i) S2 = some r,
      ⟨ds.length, _, _, by omega, .refl, sp, (hen.mono e1).mono ep, hd⟩, fun i m H2 hW => ?_⟩
    obtain ⟨φ2, S2, hm, e2, s2, en2, hf⟩ := hW
    by_cases hlt : i < ds.length
    · have hdr : ds.drop i = ds[i] :: ds.drop (i + 1) := List.drop_eq_getElem_cons hlt
      rw [hdr] at hf
      unfold dcGo at hf
      split at hf
      · rename_i hk
        obtain ⟨go, yl⟩ := itd.go φ2 H2 S2 i ds[i] (ep.trans e2) s2 hk (List.getElem?_eq_getElem hlt)
        refine .inr ⟨go, fun H' => ∃ φ3 S3, i + 1 + (m - 1) = ds.length ∧ Ext (φ1.push D) (upd H1 D (.dK [])) φ3 H' ∧ SR X.K H' φ3 S3 ∧ ER X.K H' φ3 X.mg σV σ ∧ dcGo o ds S1.length vs σ tgd dt dk dv (ds.drop (i + 1)) S3 = some r,
          fun H' hN => ⟨m - 1, by omega, hN⟩, fun x H3 hy => ?_⟩
        obtain ⟨e3, s3, x3⟩ := yl x H3 hy
        have e23 := e2.trans e3
        match hbd : bindT tgd (.d ds[i]) (wipeW σ vs), hf with
        | none, hf => cases hf
        | some σ3, hf =>
          refine gT_wipe (wipe_er (en2.mono e3) vs) (w := .d ds[i]) x3 hbd hsub fun σV3 en3 hw => ⟨hw, ?_⟩
          dsimp only at hf
          match hct : dt σ3 S2, hf with
          | none, hf => cases hf
          | some (.xc x S4), hf => cases hf
          | some (.ok false S4), hf =>
            exact ⟨φ2, σ3, S2, _, s3, en3, hct, fun φ4 H4 e4 s4 => iteF ⟨φ4, S4, by omega, e23.trans e4, s4, (en2.mono e3).mono e4, hf⟩⟩
          | some (.ok true S4), hf =>
            refine ⟨φ2, σ3, S2, _, s3, en3, hct, fun φ4 H4 e4 s4 => iteT ?_⟩
            dsimp only at hf
            match hky : dk σ3 S4, hf with
            | none, hf => cases hf
            | some (.xc x S5), hf => cases hf
            | some (.ok (.r _) S5), hf => cases hf
            | some (.ok (.g _) S5), hf => cases hf
            | some (.ok (.s _) S5), hf => cases hf
            | some (.ok (.d y) S5), hf =>
              refine ⟨φ4, σ3, S4, _, s4, en3.mono e4, hky, fun φ5 H5 v5 e5 s5 y5 => ?_⟩
              dsimp only at hf
              match hvl : dv σ3 S5, hf with
              | none, hf => cases hf
              | some (.xc x S6), hf => cases hf
              | some (.ok (.r _) S6), hf => cases hf
              | some (.ok (.g _) S6), hf => cases hf
              | some (.ok (.s _) S6), hf => cases hf
              | some (.ok (.d z) S6), hf =>
                refine ⟨φ5, σ3, S5, _, s5, (en3.mono e4).mono e5, hvl, fun φ6 H6 v6 e6 s6 z6 => ?_⟩
                dsimp only at hf
                split at hf
                · rename_i kvs ky hS hP
                  split at hf
                  · rename_i hsm
                    have eall := ((e23.trans e4).trans e5).trans e6
                    have haD := up eall
                    obtain ⟨es, h1, h2⟩ := s6.dk haD hS
                    have hl : es.length < sizeLine := by rw [h2.length]; exact small_le hsm
                    have nl : notLk S6[S1.length]? := by rw [hS]; trivial
                    have ex := Ext.wr (o := .dK (putK es ky v6)) s6 haD nl
                    refine ⟨es, ky, keyP_of (RD.mono e6 _ _ y5) hP, h1, hl, φ6, _, by omega, eall.trans ex, s6.wr haD nl (.dk' upd_same ((h2.mono ex).put (RD.mono ex _ _ z6))), ((((en2.mono e3).mono e4).mono e5).mono e6).mono ex, hf⟩
                  · cases hf
                · cases hf
      · cases hf
    · have hi : i = ds.length := by omega
      subst hi
      rw [List.drop_length] at hf
      unfold dcGo at hf
      split at hf
      · rename_i hk
        cases hf
        exact .inl ⟨itd.stop φ2 H2 S2 (ep.trans e2) s2 hk, hq φ2 H2 _ ((e1.trans ep).trans e2) s2 ⟨D, up e2, rfl⟩⟩
      · cases hf
theorem e_dc {kx vx tg iter : Expr} {ifs : List Expr} {scope : Scope} (own : List (Str × Nat)) {di : DI} {tgd : Tg} {dt : DT} {dk dv : DE} (hN : X.N.Nodup) (hi : SI X E tg iter di) (ok : BlkOk X.N X.env.scope scope own)
    (hg : ∀ (s : Shared) (H : Hp) (C : Addr) (cl : List (Str × Addr)) (fp : List Addr), PG (X.blk s H scope (compEnvC scope cl C X.env) fp) tg (gT X.K tgd)) (ht : ∀ (s : Shared) (H : Hp) (C : Addr) (cl : List (Str × Addr)) (fp : List Addr), STs (X.blk s H scope (compEnvC scope cl C X.env) fp) EN ifs dt)
    (hk : ∀ (s : Shared) (H : Hp) (C : Addr) (cl : List (Str × Addr)) (fp : List Addr), SE (X.blk s H scope (compEnvC scope cl C X.env) fp) EN kx dk) (he : ∀ (s : Shared) (H : Hp) (C : Addr) (cl : List (Str × Addr)) (fp : List Addr), SE (X.blk s H scope (compEnvC scope cl C X.env) fp) EN vx dv)
    (hsub : subT tgd (own.map (·.2)) = true := by rfl) (hc : X.calm = true := by rfl) (hs : ∀ x, foldedSetIterable iter X.env x = pure x := by intro _; rfl) :
    SE X E (.DictComp kx vx [⟨tg, iter, ifs, 0⟩] scope pos) (dDc (own.map (·.2)) di tgd dt dk dv) :=
  PEw (pe_dc (g := gT X.K tgd) (tt := tT X.K X.mg EN dt) (tk := tE X.K X.mg EN dk) (tv := tE X.K X.mg EN dv) hc hN hi ok hg ht hk he hs) (dc_rd hsub)
/-! ### what reads a dict that is walked -/
def dLockE (i : Nat) (d : DE) : DE := fun σ S => match lockS σ i S with
  | some (n, ob, S1) => match d σ S1 with
    | some (.ok w S2) => some (.ok w (S2.set n ob))
    | _ => none
  | none => none
theorem e_lock (i : Nat) {d : DE} (h : SE X E e d) : SE X E e (dLockE i d) := by
  refine PEw (pe_lock h) fun σV H Q q => ?_
  obtain ⟨φ, σ, S, r, hs, he, hd, hq⟩ := q
  unfold dLockE at hd
  split at hd
  · rename_i n ob S1 hl
    obtain ⟨a, u, hu, h0, mu, ha, or, back, lk⟩ := lock_of hs he hl
    refine ⟨a, u, h0, mu, fun od => ?_⟩
    obtain ⟨ex, s1⟩ := lk od
    split at hd
    · rename_i w S2 hx
      cases hd
      refine ⟨φ, σ, S1, .ok w S2, s1, he.mono ex, hx, fun φ2 H2 v e2 s2 x2 => ?_⟩
      have hfr : H2 a = some (.frz od u) := e2.frz a od u upd_same
      have eu := Ext.un hu h0 (List.mem_of_getElem? ha) e2
      have ha2 : φ2.l[n]? = some a := by
        obtain ⟨t, ht⟩ := e2.pre
        rw [← ht, List.getElem?_append_left (List.getElem?_eq_some_iff.mp ha).1]; exact ha
      exact ⟨hfr, hq φ2 _ v eu (SR.un hu hfr s2 ha2 (back _ _ upd_same eu)) (RW.map (fun _ _ q => fl_un hu hfr q) (fun _ _ q => tp_un hu hfr q) x2)⟩
    · cases hd
  · cases hd
def lkItems (S : So) : W → Option (List PyData)
  | .r n => match S[n]? with
    | some (.lkK kvs) => some (kvs.map fun p => .tuple [keyD p.1, p.2])
    | _ => none
  | _ => none
def dItems (d : DE) : DI := fun σ S => bnd (d σ S) fun w S1 => giv ((lkItems S1 w).bind fun xs => if small xs.length = true then some (xs, none) else none) S1
theorem KR.at_ {κ : Type} {K : PySem.W.Frag} {H : Hp} {φ : Fi} : ∀ {kvs : List (κ × PyData)} {es : List (κ × V)} {i : Nat} {q : κ × PyData} {ky : κ} {u : V}, KR K H φ kvs es → kvs[i]? = some q → es[i]? = some (ky, u) → q.1 = ky ∧ RD K H φ q.2 u
  | [], _, _, _, _, _, _, h, _ => by simp at h
  | p :: kvs, _, 0, q, ky, u, ⟨v, t, e1, h3, h4⟩, h, g => by
    subst e1
    simp at h g
    subst h
    obtain ⟨a1, a2⟩ := g
    subst a1; subst a2
    exact ⟨rfl, h3⟩
  | p :: kvs, _, i + 1, q, ky, u, ⟨v, t, e1, h3, h4⟩, h, g => by
    subst e1
    exact KR.at_ h4 (by simpa using h) (by simpa using g)
theorem iti_it {K : PySem.W.Frag} {d : Addr} {o : Obj} {es : List (Key × V)} {kvs : List (Key × PyData)} {φ : Fi} {H : Hp} (h : H d = some (.frz o (.dK es))) (k : KR K H φ kvs es) : ItD K (Iti d o es) (kvs.map fun p => .tuple [keyD p.1, p.2]) none φ H where
  go := fun φ2 H2 S i x e s _ hi => by
    rw [List.getElem?_map] at hi
    obtain ⟨q, h1, h2⟩ := Option.map_eq_some_iff.mp hi
    have hl := k.length
    have hlt := (List.getElem?_eq_some_iff.mp h1).1
    refine ⟨⟨e.frz _ _ _ h, by omega⟩, fun v H' hy => ?_⟩
    obtain ⟨T, ky, u, g1, rfl, hT, rfl⟩ := hy
    subst h2
    have g2 := KR.at_ k h1 g1
    obtain ⟨rfl, g2⟩ := g2
    exact pair_new s hT (keyD_rd q.1) (RD.mono e _ _ g2)
  stop := fun φ2 H2 S e s _ => ⟨e.frz _ _ _ h, by rw [List.length_map, k.length]; exact Nat.le_refl _⟩
theorem i_items {d : DE} {elts : List Expr} {kk : Nat} {tp apos cpos : Pos} (h : SE X E e d) (hbase : attributeBase e "items" X.env (eval e X.env) = eval e X.env := by rfl) (hline : (apos.endLine == cpos.line) = true := by rfl) :
    SI X E (.Tuple elts kk tp) (.Call (.Attribute e "items" apos) [] [] cpos) (dItems d) := by
  refine PIw (pi_items h hbase hline) fun σV H R q => ?_
  obtain ⟨φ, σ, S, r', hs, hen, hd, hq⟩ := q
  unfold dItems at hd
  match ha : d σ S, hd with
  | none, hd => cases hd
  | some (.xc x S1), hd => cases hd; exact ⟨φ, σ, S, .xc x S1, hs, hen, ha, hq⟩
  | some (.ok w S1), hd =>
    refine ⟨φ, σ, S, .ok w S1, hs, hen, ha, fun φ1 H1 v e1 s1 x1 => ?_⟩
    rw [bnd_ok] at hd
    match hg : (lkItems S1 w).bind (fun xs => if small xs.length = true then some (xs, (none : Option Nat)) else none), hd with
    | none, hd => cases hd
    | some z, hd =>
      cases hd
      obtain ⟨xs, g1, g2⟩ := Option.bind_eq_some_iff.mp hg
      split at g2
      · rename_i hz
        cases g2
        unfold lkItems at g1
        split at g1
        · rename_i n
          obtain ⟨c, hc, rfl⟩ := x1
          split at g1
          · rename_i kvs hS
            cases g1
            obtain ⟨es, ⟨od, q1⟩, q2, q3⟩ := s1.ob n c _ hc hS
            exact ⟨c, od, es, rfl, q1, hq φ1 H1 _ e1 s1 (iti_it q1 (.of q2 q3)) (small_le hz)⟩
          · cases g1
        · cases g1
      · cases g2
end
end CL
end

section
/-! part CLTset -/
set_option Elab.async false
set_option linter.all false
set_option maxRecDepth 100000
set_option maxHeartbeats 4000000
/-! CLTset: sorted(set(xs)) where xs is a list of tuples of texts and ints: the set's table in any World, then its items in some order. -/
namespace CL
open PySem PySem.Spec PyProof.Rows L2

section
variable {P : Program} {w : World} {A : Around} {E : Value → Shared → Prop} {s : Shared}
abbrev KT (P : Program) (w : World) (h : Heap) (k : List Key) (b : Addr) : Prop := IsTupleKey (mixKind P w) h k b
abbrev khash (P : Program) (w : World) (k : List Key) : Int := tupleKeyHash (mixKind P w) k
def Flat (v : Value) : Prop := (∃ i t, v = .int i t) ∨ ∃ z t, v = .str z t
theorem flat_of {k : List Key} {vs : List Value} (h : ItemsAre (mixKind P w) k vs) : ∀ v ∈ vs, Flat v := by
  induction h with
  | nil => exact fun v hv => nomatch hv
  | cons h1 _ ih =>
    intro v hv
    rcases List.mem_cons.mp hv with e | hv
    · subst e
      rcases keyIs_shape h1 with ⟨i, t, _, e⟩ | ⟨z, t, _, e⟩
      · exact .inl ⟨i, t, e⟩
      · exact .inr ⟨z, t, e⟩
    · exact ih v hv
theorem ofA_flat (n : Nat) {v : Value} (h : Flat v) : ofAClassStatement n v = pure false := by
  rcases h with ⟨i, t, e⟩ | ⟨z, t, e⟩ <;> subst e <;> cases n <;> rfl
theorem hashBy_flat (n : Nat) {v : Value} (h : Flat v) : ∃ b, hashByValue n v = pure b := by
  rcases h with ⟨i, t, e⟩ | ⟨z, t, e⟩ <;> subst e <;> cases n <;> exact ⟨_, rfl⟩
theorem noClass {k : List Key} {b : Addr} {Q : Bool → Shared → Prop} (hk : KT P w s.heap k b) (q : Q false s) : wpAny (model P w) A (ofAClassStatement 8 (.ref b)) Q E s := by
  have hT := hk.typeIs
  obtain ⟨o, its, n, ho, hc, hd, hi⟩ := hk
  unfold ofAClassStatement
  refine wpAny_bind (wpAny_typeOf hT ?_)
  dsimp only
  rw [show (("tuple" : String) == "tuple") = true from rfl]
  simp only [if_true, Bool.not_true, Bool.false_eq_true, if_false]
  try refine wpAny_bind (wpAny_pure ?_)
  try simp only [Bool.not_true, Bool.false_eq_true, if_false]
  show wpAny _ _ (seqItems? (.ref b) >>= _) _ _ s
  refine wpAny_bind (wpAny_seqItems ho hd (wpAny_bind ?_))
  show wpAny _ _ (forIn its _ _) _ _ s
  rw [← Array.forIn_toList]
  refine wpAny_forIn_list _ (fun l r s' => (r.1 = none ∧ s' = s) ∧ ∀ v ∈ l, Flat v) _ (fun v l r s' h => ?_) (fun r s' h => ?_) _ _ ⟨⟨rfl, rfl⟩, flat_of hi⟩
  · obtain ⟨⟨h1, rfl⟩, h2⟩ := h
    rw [ofA_flat _ (h2 v List.mem_cons_self)]
    refine wpAny_bind (wpAny_pure ?_)
    simp only [Bool.false_eq_true, if_false]
    exact wpAny_pure ⟨⟨rfl, rfl⟩, fun u hu => h2 u (List.mem_cons_of_mem _ hu)⟩
  · obtain ⟨⟨h1, rfl⟩, _⟩ := h
    obtain ⟨r1, r2⟩ := r
    cases h1
    exact wpAny_pure q
/-- whether a tuple's hash goes by value is left open -/
theorem hashAny {k : List Key} {b : Addr} {Q : Bool → Shared → Prop} (hk : KT P w s.heap k b) (q : ∀ v, Q v s) : wpAny (model P w) A (hashByValue 8 (.ref b)) Q E s := by
  have hT := hk.typeIs
  obtain ⟨o, its, n, ho, hc, hd, hi⟩ := hk
  unfold hashByValue
  refine wpAny_bind (wpAny_specialOf hT F.slot_tuple_hash.lookup ?_)
  show wpAny _ _ (seqItems? (.ref b) >>= _) _ _ s
  refine wpAny_bind (wpAny_seqItems ho hd (wpAny_bind ?_))
  show wpAny _ _ (forIn its _ _) _ _ s
  rw [← Array.forIn_toList]
  refine wpAny_forIn_list _ (fun l r s' => (r.1 = none ∧ s' = s) ∧ ∀ v ∈ l, Flat v) _ (fun v l r s' h => ?_) (fun r s' h => ?_) _ _ ⟨⟨rfl, rfl⟩, flat_of hi⟩
  · obtain ⟨⟨h1, rfl⟩, h2⟩ := h
    obtain ⟨bv, e⟩ := hashBy_flat 7 (h2 v List.mem_cons_self)
    rw [e]
    refine wpAny_bind (wpAny_pure ?_)
    cases bv with
    | true =>
      simp only [Bool.not_true, Bool.false_eq_true, if_false]
      exact wpAny_pure ⟨⟨rfl, rfl⟩, fun u hu => h2 u (List.mem_cons_of_mem _ hu)⟩
    | false =>
      simp only [Bool.not_false, if_true]
      exact wpAny_pure (wpAny_pure (q _))
  · obtain ⟨⟨h1, rfl⟩, _⟩ := h
    obtain ⟨r1, r2⟩ := r
    cases h1
    exact wpAny_pure (q _)
theorem unseen {k : List Key} {b : Addr} {Q : Bool → Shared → Prop} (hk : KT P w s.heap k b) {ys : List Value} (hy : ∀ y ∈ ys, ∃ k' c, y = .ref c ∧ KT P w s.heap k' c) (q : Q false s) : wpAny (model P w) A (searchCouldBeSeen (.ref b) ys) Q E s := by
  unfold searchCouldBeSeen
  refine wpAny_bind (wpAny_forIn_list _ (fun l r s' => (r.1 = none ∧ s' = s) ∧ ∀ y ∈ l, ∃ k' c, y = .ref c ∧ KT P w s.heap k' c) _ (fun v l r s' h => ?_) (fun r s' h => ?_) _ _ ⟨⟨rfl, rfl⟩, hy⟩)
  · obtain ⟨⟨h1, e⟩, h2⟩ := h
    subst e
    obtain ⟨k', c, e, hc⟩ := h2 v List.mem_cons_self
    subst e
    have go : ∀ r' : Option Bool × PUnit, r'.1 = none → (r'.1 = none ∧ s' = s') ∧ ∀ y ∈ l, ∃ k' c, y = Value.ref c ∧ KT P w s'.heap k' c := fun r' e => ⟨⟨e, rfl⟩, fun u hu => h2 u (List.mem_cons_of_mem _ hu)⟩
    dsimp only
    by_cases hv : (b == c || (carriedByValue (.ref b) && carriedByValue (.ref c))) = true
    · exact wp_if_pos hv (wpAny_pure (go _ rfl))
    · refine wp_if_neg hv (wpAny_bind (wpAny_eqIsQuiet_tuple hk ?_))
      simp only [Bool.not_true, Bool.false_eq_true, if_false]
      refine wpAny_bind (wpAny_eqIsQuiet_tuple hc ?_)
      simp only [Bool.not_true, Bool.false_eq_true, if_false]
      refine wpAny_bind (noClass hk ?_)
      simp only [Bool.false_eq_true, if_false]
      refine wpAny_bind (noClass hc ?_)
      simp only [Bool.false_eq_true, if_false]
      exact wpAny_pure (go _ rfl)
  · obtain ⟨⟨h1, rfl⟩, _⟩ := h
    obtain ⟨r1, r2⟩ := r
    cases h1
    exact wpAny_pure q
/-! ### the table and what stands in it -/
def entT (P : Program) (w : World) (q : Addr × List Key) : Int × Value := (khash P w q.2, .ref q.1)
structure SetS (P : Program) (w : World) (h : Heap) (a : Addr) (L : List (Addr × List Key)) (es : Array (Int × Value)) (ep : Nat) (t : SetTable) : Prop where
  ob : ∃ o, h.get? a = some o ∧ o.ExactSet ∧ o.data = .set es ep t
  rows : es.toList = L.map (entT P w)
  tab : TabOk t (L.map fun q => khash P w q.2)
  nd : (L.map (·.2)).Nodup
  key : ∀ q ∈ L, KT P w h q.2 q.1
  led : w.params.followText "set-order" = true ∨ t.led = true
  room : L.length * 5 < t.mask * 3
  few : L.length < 64
variable {a : Addr} {L : List (Addr × List Key)} {es : Array (Int × Value)} {ep : Nat} {t : SetTable}
theorem SetS.size (R : SetS P w s.heap a L es ep t) : es.size = L.length := by
  simpa using congrArg List.length R.rows
theorem fits_of (T : t.place.size = es.size) (D : t.dummies = #[]) (le : es.size ≤ t.mask) : t.fits es.size = true := by
  unfold SetTable.fits SetTable.fill
  rw [D, Bool.and_eq_true, beq_iff_eq, decide_eq_true_eq]
  exact ⟨T, by show t.place.size + 0 ≤ t.mask; omega⟩
theorem SetS.fits (R : SetS P w s.heap a L es ep t) : t.fits es.size = true := by
  have h1 := R.tab.sz
  have h2 := R.size
  have h3 := R.room
  rw [List.length_map] at h1
  exact fits_of (by omega) R.tab.dm (by omega)
theorem SetS.at_ (R : SetS P w s.heap a L es ep t) {i : Nat} {q : Addr × List Key} (h : L[i]? = some q) : es[i]? = some (khash P w q.2, .ref q.1) := by
  rw [← Array.getElem?_toList, R.rows, List.getElem?_map, h]; rfl
theorem dummy_nth (m : Nat) : ∀ (n : Nat) (p : SetTable.Probe), p.dummy = none → (nth m p n).dummy = none
  | 0, _, h => h
  | n + 1, p, h => dummy_nth m n (adv m p) (by unfold adv; split <;> exact h)
/-- the search of a tuple that is to be added -/
theorem seek (R : SetS P w s.heap a L es ep t) {x : Addr} {k : List Key} (hx : KT P w s.heap k x) (hu : A.units < cLine) {Q : SetFound → Shared → Prop} (hin : k ∈ L.map (·.2) → Q (.there none) s)
    (hout : ∀ K, k ∉ L.map (·.2) → way t.mask (khash P w k) K ∉ t.place.toList → (∀ c, c < K → way t.mask (khash P w k) c ∈ t.place.toList) → Q (.free (way t.mask (khash P w k) K) false) s) :
    wpAny (model P w) A (setSearch a (.ref x) (khash P w k) true) Q E s := by
  have hroom := R.room
  obtain ⟨K, hKf, hK, hKb⟩ := R.tab.first (by rw [List.length_map]; omega) (khash P w k)
  obtain ⟨o, ho, hex, hd⟩ := R.ob
  generalize eN : (fun c => nth t.mask (runAt t.mask (SetTable.bits (khash P w k) % (t.mask + 1)) (SetTable.bits (khash P w k))) c) = N
  have nw : ∀ c, (N c).j = way t.mask (khash P w k) c := fun c => by rw [← eN]
  have nn : ∀ c q, nth t.mask (N c) q = N (c + q) := fun c q => by rw [← eN]; exact (nth_add t.mask c _ q).symm
  have nd : ∀ c, (N c).dummy = none := fun c => by rw [← eN]; exact dummy_nth _ _ _ rfl
  have hz : ∀ (i : Nat) q, L[i]? = some q → (es[i]?.map (·.1)).getD 0 = khash P w q.2 := fun i q hq => by rw [R.at_ hq]; rfl
  suffices main : ∀ (f c : Nat) (stand : Option SetTable.Probe), stand.getD (t.probeStart (khash P w k)) = N c → c ≤ K → K - c < f →
      (∀ (i : Nat) q, L[i]? = some q → q.2 = k → ∃ c', c ≤ c' ∧ c' < K ∧ t.place.toList[i]? = some (N c').j) → wpAny (model P w) A (setSearchFrom a (.ref x) (khash P w k) true f stand) Q E s by
    unfold setSearch
    have big : 10 * SetTable.turns t.mask ≤ 1420 := by
      unfold SetTable.turns
      rcases R.tab.mok with e | e | e <;> omega
    refine main 100000 0 none (by rw [← eN]; rfl) (Nat.zero_le _) (by omega) fun i q hq hk => ?_
    have hi : (L.map fun q => khash P w q.2)[i]? = some (khash P w k) := by rw [List.getElem?_map, hq, ← hk]; rfl
    have hsz := R.tab.sz
    rw [List.length_map] at hsz
    have hil : i < t.place.toList.length := by
      have h1 : i < L.length := (List.getElem?_eq_some_iff.mp hq).1
      rw [Array.length_toList]; omega
    have hj := List.getElem?_eq_getElem hil
    obtain ⟨c, hc, e⟩ := R.tab.before hK hi hj
    exact ⟨c, Nat.zero_le _, hc, by rw [hj, nw, e]⟩
  intro f
  induction f with
  | zero => exact fun c stand _ _ hf => absurd hf (Nat.not_lt_zero _)
  | succ f ih =>
    intro c stand hst hc hf hre
    rw [setSearchFrom_succ]
    refine wpAny_bind (wpAny_setState_of ho hd R.fits ?_)
    dsimp only
    have gw : ¬ t.gaveWay = true := by unfold SetTable.gaveWay; rw [mask_odd R.tab.mok]; decide
    refine wp_if_neg gw ?_
    try refine wpAny_bind (wpAny_pure ?_)
    have spec := go_spec t R.tab.ris R.tab.dm (fun i => (es[i]?.map (·.1)).getD 0) (khash P w k) (10 * SetTable.turns t.mask) (K - c) (N c) (nd c) (by omega)
      (fun q hq => by rw [nn, nw]; exact hKb (c + q) (by omega)) (by rw [nn, nw, show c + (K - c) = K by omega]; exact hK)
    rcases spec with ⟨q, i, hq, hi, hh, hno, hpr⟩ | ⟨hno, hpr⟩
    · have pr : t.probe (fun i => (es[i]?.map (·.1)).getD 0) (khash P w k) (stand.getD (t.probeStart (khash P w k))) = some (.candidate (N (c + q)).j i (N (c + (q + 1)))) := by
        rw [hst, ← nn, ← nn]; exact hpr
      rw [pr]
      dsimp only
      rw [nn] at hi
      have hil : i < L.length := by
        have h1 := (List.getElem?_eq_some_iff.mp hi).1
        have h2 := R.tab.sz
        rw [List.length_map] at h2
        rw [Array.length_toList] at h1
        omega
      have hr : L[i]? = some L[i] := List.getElem?_eq_getElem hil
      generalize L[i] = r at hr
      have hm : r ∈ L := List.mem_of_getElem? hr
      have rest : wpAny (model P w) A (searchRest a (.ref x) (khash P w k) true f es t (N (c + q)).j i (N (c + (q + 1)))) Q E s := by
        unfold searchRest
        rw [R.at_ hr]
        refine wpAny_bind (wpAny_holding (wpAny_eqBool_tuple hu (R.key r hm) hx ?_))
        refine wpAny_bind (wpAny_setState_of ho hd R.fits ?_)
        by_cases hk : r.2 = k
        · exact wp_if_pos (by simp [hk]) (wpAny_pure (hin (List.mem_map.mpr ⟨r, hm, hk⟩)))
        · refine wp_if_neg (by simp [hk]) ?_
          try refine wpAny_bind (wpAny_pure ?_)
          rw [sameMem]
          have hsl : t.slot (N (c + q)).j = .live i := slot_live R.tab.ris hi
          simp only [if_true, hsl, R.at_ hr]
          refine wpAny_bind (wpAny_isSame_ref_self (wpAny_bind (wpAny_pure ?_)))
          simp only [if_true]
          refine wp_if_neg (by simp [hk]) (ih (c + (q + 1)) _ rfl (by omega) (by omega) fun i0 r0 h0 k0 => ?_)
          obtain ⟨c', a1, a2, a3⟩ := hre i0 r0 h0 k0
          refine ⟨c', ?_, a2, a3⟩
          by_cases z : c' < c + q
          · exact absurd ((hz i0 r0 h0).trans (congrArg (khash P w) k0)) (hno (c' - c) i0 (by omega) (by rw [nn, show c + (c' - c) = c' by omega]; exact a3))
          · by_cases y : c' = c + q
            · subst y
              have s0 := slot_live R.tab.ris a3
              rw [hsl] at s0
              injection s0 with s0
              rw [← s0, hr] at h0
              exact absurd ((congrArg Prod.snd (Option.some.inj h0)).trans k0) hk
            · omega
      by_cases hl : t.led = true
      · refine wp_if_neg (by simp [hl]) ?_
        try refine wpAny_bind (wpAny_pure ?_)
        exact rest
      · refine wp_if_pos (by simp [hl]) (wpAny_bind (unseen hx (fun y hy => ?_) (wp_if_neg (by decide) ?_)))
        · obtain ⟨e, he, ee⟩ := List.mem_map.mp hy
          have he2 : e ∈ es.toList := by
            have he1 : e ∈ es ∧ e.1 = khash P w k := by simpa using he
            simpa using he1.1
          rw [R.rows] at he2
          obtain ⟨r2, m2, e2⟩ := List.mem_map.mp he2
          exact ⟨r2.2, r2.1, by rw [← ee, ← e2]; rfl, R.key r2 m2⟩
        · try refine wpAny_bind (wpAny_pure ?_)
          exact rest
    · have pr : t.probe (fun i => (es[i]?.map (·.1)).getD 0) (khash P w k) (stand.getD (t.probeStart (khash P w k))) = some (.empty (way t.mask (khash P w k) K) none) := by
        have e2 : way t.mask (khash P w k) K = (nth t.mask (N c) (K - c)).j := by rw [nn, nw, show c + (K - c) = K by omega]
        rw [hst, e2]; exact hpr
      rw [pr]
      dsimp only
      refine wpAny_pure (hout K (fun hm => ?_) hK hKb)
      obtain ⟨r0, m0, k0⟩ := List.mem_map.mp hm
      obtain ⟨i0, hi0, e0⟩ := List.getElem_of_mem m0
      have h0 : L[i0]? = some r0 := by rw [List.getElem?_eq_getElem hi0, e0]
      obtain ⟨c', a1, a2, a3⟩ := hre i0 r0 h0 k0
      exact hno (c' - c) i0 (by omega) (by rw [nn, show c + (c' - c) = c' by omega]; exact a3) ((hz i0 r0 h0).trans (congrArg (khash P w) k0))
/-! ### the table laid anew; one more row -/
theorem kt_off {h h' : Heap} {k : List Key} {a b : Addr} {o : Obj} {es : Array (Int × Value)} {ep : Nat} {t : SetTable} (hb : KT P w h k b) (ho : h.get? a = some o) (hd : o.data = .set es ep t) (hs : Heap.SameBut a h h') : KT P w h' k b := by
  obtain ⟨u, its, n, hu, r, d, q⟩ := hb
  refine ⟨u, its, n, ?_, r, d, q⟩
  rw [hs.2 b ?_]; exact hu
  rintro rfl
  rw [hu] at ho; cases ho
  rw [hd] at d; cases d
theorem picked (es : Array (Int × Value)) (L : List (Addr × List Key)) (hr : es.toList = L.map (entT P w)) (order : Array Nat) (hp : order.toList.Perm (List.range L.length)) :
    ∃ L2 : List (Addr × List Key), (order.filterMap (es[·]?)).toList = L2.map (entT P w) ∧ L2.Perm L ∧ (L2.map fun q => khash P w q.2) = order.toList.map fun i => (es.map (·.1)).getD i 0 := by
  have at_ : ∀ i : Nat, es[i]? = (L[i]?).map (entT P w) := fun i => by rw [← Array.getElem?_toList, hr, List.getElem?_map]
  refine ⟨order.toList.filterMap fun i => L[i]?, ?_, ?_, ?_⟩
  · rw [Array.toList_filterMap, List.map_filterMap]
    exact congrArg (fun f => List.filterMap f order.toList) (funext fun i => at_ i)
  · have h1 := hp.filterMap fun i => L[i]?
    refine h1.trans ?_
    have h2 : (List.range L.length).map (fun i => L[i]?) = L.map some := by
      apply List.ext_getElem
      · simp
      · intro i h1 h2; simp at h1 ⊢
    have h3 : (List.range L.length).filterMap (fun i => L[i]?) = L := by
      have : (List.range L.length).filterMap (fun i => L[i]?) = ((List.range L.length).map fun i => L[i]?).filterMap id := by rw [List.filterMap_map]; rfl
      rw [this, h2, List.filterMap_map]
      simp
    rw [h3]
  · have go : ∀ l : List Nat, (∀ i ∈ l, i < L.length) → ((l.filterMap fun i => L[i]?).map fun q => khash P w q.2) = l.map fun i => (es.map (·.1)).getD i 0 := by
      intro l
      induction l with
      | nil => exact fun _ => rfl
      | cons i l ih =>
        intro hl
        have hi := hl i List.mem_cons_self
        have e1 : (es.map (·.1)).getD i 0 = khash P w (L[i]).2 := by
          have : (es.map (·.1))[i]? = some (khash P w (L[i]).2) := by rw [Array.getElem?_map, at_, List.getElem?_eq_getElem hi]; rfl
          simp [Array.getD_eq_getD_getElem?, this]
        rw [List.filterMap_cons_some (List.getElem?_eq_getElem hi), List.map_cons, List.map_cons, ih fun j hj => hl j (List.mem_cons_of_mem _ hj), e1]
    exact go _ fun i hi => List.mem_range.mp (hp.mem_iff.mp hi)
theorem relay {o : Obj} (ho : s.heap.get? a = some o) (hex : o.ExactSet) (hd : o.data = .set es ep t) (hr : es.toList = L.map (entT P w)) (hsz : t.place.size = es.size) (hdm : t.dummies = #[]) (hfl : es.size ≤ t.mask)
    (nd : (L.map (·.2)).Nodup) (key : ∀ q ∈ L, KT P w s.heap q.2 q.1) (ld : w.params.followText "set-order" = true ∨ t.led = true) (few : L.length < 64) {wanted M : Nat}
    (hw : SetTable.sizeAbove wanted - 1 = M) (hM : MaskOk M) (hw2 : SetTable.sizeAbove wanted ≤ 128) (hn : L.length * 5 < M * 3) {Q : Unit → Shared → Prop}
    (q : ∀ h' L' es' ep' t', Heap.SameBut a s.heap h' → SetS P w h' a L' es' ep' t' → L'.Perm L → Q () { s with heap := h' }) : wpAny (model P w) A (setRelay a wanted) Q E s := by
  have hl : es.size = L.length := by simpa using congrArg List.length hr
  obtain ⟨t', order, e, hp, T, em, el, ep', ed⟩ := relaid_ok t (hs := es.map (·.1)) (wanted := wanted) hw hM (by rw [Array.size_map, hl]; omega)
  rw [Array.size_map, hl] at hp
  obtain ⟨L2, r1, r2, r3⟩ := picked (P := P) (w := w) es L hr order hp
  rw [← r3] at T
  have hs2 : (order.filterMap (es[·]?)).size = es.size := by
    have h := congrArg List.length r1
    rw [Array.length_toList, List.length_map, r2.length_eq] at h
    omega
  rw [setRelay_eq]
  refine wpAny_bind (wpAny_setState_of ho hd (fits_of hsz hdm hfl) (wp_if_neg (by rw [sizeLine_eq]; omega) ?_))
  try refine wpAny_bind (wpAny_pure ?_)
  rw [e]
  refine wpAny_bind (wp_if_neg (by rw [hs2]; simp) ?_)
  try refine wpAny_bind (wpAny_pure ?_)
  refine wpAny_pure (wpAny_storeSet_of ho hd ?_ (by rw [hs2, hl, sizeLine_eq]; omega))
  have sb : Heap.SameBut a s.heap (s.heap.update a (Obj.putSet (order.filterMap (es[·]?)) t')) := .update ..
  exact q _ L2 _ (ep + 1) t' sb ⟨⟨_, store_at ho hd, ⟨hex.1, hex.2.1, hex.2.2⟩, rfl⟩, r1, T, (r2.map (·.2)).nodup_iff.mpr nd, fun z hz => kt_off (key z (r2.mem_iff.mp hz)) ho hd sb, by rw [el]; exact ld, by rw [r2.length_eq, em]; exact hn, by rw [r2.length_eq]; exact few⟩ r2
theorem addS1 (R : SetS P w s.heap a L es ep t) {x : Addr} {k : List Key} (hx : KT P w s.heap k x) (hu : A.units < cLine) (hf : L.length + 1 < 64) {Q : Bool → Shared → Prop}
    (q : ∀ b h' L' es' ep' t', Heap.SameBut a s.heap h' → SetS P w h' a L' es' ep' t' → (k ∈ L.map (·.2) ∧ L' = L ∨ k ∉ L.map (·.2) ∧ L'.Perm ((x, k) :: L)) → Q b { s with heap := h' }) :
    wpAny (model P w) A (setAddHashed a (.ref x) (khash P w k)) Q E s := by
  obtain ⟨o, ho, hex, hd⟩ := R.ob
  have hl := R.size
  have hroom := R.room
  unfold setAddHashed
  refine wpAny_holding ?_
  rw [show (100000 : Nat) = 99999 + 1 from rfl, setAddHashedIn_succ]
  refine wpAny_bind (wpAny_setState_of ho hd R.fits (wp_if_neg (by simp [byScan, Value.scannable]) ?_))
  try refine wpAny_bind (wpAny_pure ?_)
  refine wpAny_bind (seek R hx hu (fun hm => wpAny_pure (q false s.heap L es ep t (.refl a s.heap) R (.inl ⟨hm, rfl⟩))) fun K hm hK hb => ?_)
  refine wpAny_bind (wpAny_setState_of ho hd R.fits ?_)
  dsimp only
  obtain ⟨q1, q2, q3, q4, q5, q6, q7, q8, q9⟩ := R.tab.put hK hb
  generalize t.put (way t.mask (khash P w k) K) = pt at q1 q3 q4 q5 q6 q7 q8 q9 ⊢
  obtain ⟨t1, c⟩ := pt
  dsimp only at q1 q3 q4 q5 q6 q7 q8 q9 ⊢
  subst q1
  have hin : (SetTable.insertAt es (SetTable.below t.place (way t.mask (khash P w k) K)) (khash P w k, Value.ref x)).toList = (L.take (SetTable.below t.place (way t.mask (khash P w k) K)) ++ (x, k) :: L.drop (SetTable.below t.place (way t.mask (khash P w k) K))).map (entT P w) := by
    rw [SetTable.toList_insertAt, R.rows, List.map_append, List.map_cons, List.map_take, List.map_drop]; rfl
  generalize hc : SetTable.below t.place (way t.mask (khash P w k) K) = c at q2 q3 hin ⊢
  have pm : (L.take c ++ (x, k) :: L.drop c).Perm ((x, k) :: L) := by
    have := List.perm_middle (a := (x, k)) (l₁ := L.take c) (l₂ := L.drop c)
    rwa [List.take_append_drop] at this
  have hhs : (L.take c ++ (x, k) :: L.drop c).map (fun q => khash P w q.2) = (L.map fun q => khash P w q.2).take c ++ khash P w k :: (L.map fun q => khash P w q.2).drop c := by
    rw [List.map_append, List.map_cons, List.map_take, List.map_drop]
  rw [← hhs] at q3
  generalize L.take c ++ (x, k) :: L.drop c = L1 at pm q3 hin
  generalize SetTable.insertAt es c (khash P w k, Value.ref x) = es1 at hin ⊢
  have hl1 : L1.length = L.length + 1 := pm.length_eq
  have nd1 : (L1.map (·.2)).Nodup := (pm.map (·.2)).nodup_iff.mpr (List.nodup_cons.mpr ⟨hm, R.nd⟩)
  have he1 : es1.size = L.length + 1 := by rw [← hl1]; simpa using congrArg List.length hin
  -- whatever is kept of the hash's kind
  have fin : ∀ pl : Bool, ∀ t2 : SetTable, t2 = (if pl then t1 else { t1 with plain := false }) → wpAny (model P w) A (do storeSet a es1 t2; if (!false && t2.tooFull) = true then (do setRelay a (SetTable.grown (es.size + 1)); pure true) else pure true) Q E s := by
    intro pl t2 e2
    have T2 : TabOk t2 (L1.map fun q => khash P w q.2) ∧ t2.mask = t.mask ∧ t2.led = t.led ∧ t2.fill = L.length + 1 ∧ t2.tooFull = t1.tooFull := by
      rw [List.length_map] at q9
      cases pl with
      | true => rw [if_pos rfl] at e2; subst e2; exact ⟨q3, q4, q5, q9, rfl⟩
      | false => rw [if_neg Bool.false_ne_true] at e2; subst e2; exact ⟨⟨q3.ris, q3.dm, q3.sz, q3.mok, q3.bd, q3.reach⟩, q4, q5, q9, rfl⟩
    obtain ⟨w1, w2, w3, w4, _⟩ := T2
    refine wpAny_bind (wpAny_storeSet_of ho hd ?_ (by rw [he1, sizeLine_eq]; omega))
    have sb : Heap.SameBut a s.heap (s.heap.update a (Obj.putSet es1 t2)) := .update ..
    have ho1 := store_at (es' := es1) (t' := t2) ho hd
    generalize s.heap.update a (Obj.putSet es1 t2) = h1 at sb ho1 ⊢
    have key1 : ∀ z ∈ L1, KT P w h1 z.2 z.1 := fun z hz => by
      rcases List.mem_cons.mp (pm.mem_iff.mp hz) with e | hz
      · rw [e]; exact kt_off hx ho hd sb
      · exact kt_off (R.key z hz) ho hd sb
    have ld1 : w.params.followText "set-order" = true ∨ t2.led = true := by rw [w3]; exact R.led
    by_cases hfu : t2.tooFull = true
    · refine wp_if_pos (by simp [hfu]) (wpAny_bind ?_)
      have full : (L.length + 1) * 5 ≥ t2.mask * 3 := by
        have h := hfu
        unfold SetTable.tooFull at h
        rw [decide_eq_true_eq, w4] at h
        exact h
      rw [hl]
      have two : (t.mask = 7 ∧ L.length = 4) ∨ (t.mask = 31 ∧ L.length = 18) := by
        rw [w2] at full
        rcases R.tab.mok with e | e | e
        · left; rw [e] at full hroom; exact ⟨e, by omega⟩
        · right; rw [e] at full hroom; exact ⟨e, by omega⟩
        · exfalso; rw [e] at full; omega
      have go : ∀ M, SetTable.sizeAbove (SetTable.grown (L.length + 1)) - 1 = M → MaskOk M → SetTable.sizeAbove (SetTable.grown (L.length + 1)) ≤ 128 → (L.length + 1) * 5 < M * 3 →
          wpAny (model P w) A (setRelay a (SetTable.grown (L.length + 1))) (fun _ s' => wpAny (model P w) A (pure true) Q E s') E { s with heap := h1 } := fun M g1 g2 g3 g4 =>
        relay (s := { s with heap := h1 }) ho1 ⟨hex.1, hex.2.1, hex.2.2⟩ rfl hin (by rw [w1.sz, List.length_map, hl1, he1]) w1.dm (by rw [he1, w2]; rcases two with ⟨e, e2⟩ | ⟨e, e2⟩ <;> omega) nd1 key1 ld1 (by rw [hl1]; exact hf) g1 g2 g3 (by rw [hl1]; exact g4)
          fun h2 L2 es2 ep2 t2 sb2 R2 pm2 => wpAny_pure (q true h2 L2 es2 ep2 t2 (sb.trans sb2) R2 (.inr ⟨hm, pm2.trans pm⟩))
      rcases two with ⟨_, e2⟩ | ⟨_, e2⟩
      · exact go 31 (by rw [e2, size_20]) (.inr (.inl rfl)) (by rw [e2, size_20]; decide) (by omega)
      · exact go 127 (by rw [e2, size_76]) (.inr (.inr rfl)) (by rw [e2, size_76]; decide) (by omega)
    · refine wp_if_neg (by simp [hfu]) ?_
      refine wpAny_pure (q true h1 L1 es1 (ep + 1) t2 sb ⟨⟨_, ho1, ⟨hex.1, hex.2.1, hex.2.2⟩, rfl⟩, hin, w1, nd1, key1, ld1, ?_, by rw [hl1]; exact hf⟩ (.inr ⟨hm, pm⟩))
      have h := hfu
      unfold SetTable.tooFull at h
      rw [decide_eq_true_eq, w4] at h
      rw [hl1]; omega
  by_cases hp : t1.plain = true
  · first
      | (refine wpAny_bind ?_; refine wp_if_pos hp ?_; refine hashAny hx fun v => ?_)
      | refine wp_if_pos hp (wpAny_bind (hashAny hx fun v => ?_))
    exact fin v _ rfl
  · first
      | (refine wpAny_bind ?_; refine wp_if_neg hp ?_; refine wpAny_pure ?_)
      | refine wp_if_neg hp (wpAny_bind (wpAny_pure ?_))
    exact fin true _ rfl
/-! ### set(l) of a list of such tuples -/
structure Took (ks : List (Addr × List Key)) (i : Nat) (L : List (Addr × List Key)) : Prop where
  sub : ∀ q ∈ L, q ∈ ks
  all : ∀ q ∈ ks.take i, q.2 ∈ L.map (·.2)
  len : L.length ≤ i
theorem Took.step {ks L L' : List (Addr × List Key)} {i : Nat} {x : Addr} {k : List Key} (g : Took ks i L) (h : ks[i]? = some (x, k)) (c : k ∈ L.map (·.2) ∧ L' = L ∨ k ∉ L.map (·.2) ∧ L'.Perm ((x, k) :: L)) : Took ks (i + 1) L' := by
  have ht : ks.take (i + 1) = ks.take i ++ [(x, k)] := by rw [List.take_add_one, h]; rfl
  rcases c with ⟨c, e⟩ | ⟨c, p⟩
  · subst e
    refine ⟨g.sub, fun q hq => ?_, Nat.le_succ_of_le g.len⟩
    rw [ht] at hq
    rcases List.mem_append.mp hq with z | z
    · exact g.all q z
    · rw [List.mem_singleton.mp z]; exact c
  · refine ⟨fun q hq => ?_, fun q hq => ?_, ?_⟩
    · rcases List.mem_cons.mp (p.mem_iff.mp hq) with e | z
      · rw [e]; exact List.mem_of_getElem? h
      · exact g.sub q z
    · rw [(p.map (·.2)).mem_iff]
      rw [ht] at hq
      rcases List.mem_append.mp hq with z | z
      · exact List.mem_cons_of_mem _ (g.all q z)
      · rw [List.mem_singleton.mp z]; exact List.mem_cons_self
    · have := p.length_eq
      have := g.len
      simp at *; omega
theorem kt_keep {h h' : Heap} {k : List Key} {b : Addr} (x : KT P w h k b) (e : ∀ c o, h.get? c = some o → h'.get? c = some o) : KT P w h' k b := by
  obtain ⟨o, its, n, ho, r⟩ := x
  exact ⟨o, its, n, e b o ho, r⟩
theorem SetS.moved {h h' : Heap} (R : SetS P w h a L es ep t) (e : ∀ o, h.get? a = some o → h'.get? a = some o) (k : ∀ q ∈ L, KT P w h' q.2 q.1) : SetS P w h' a L es ep t :=
  ⟨let ⟨o, ho, r⟩ := R.ob; ⟨o, e o ho, r⟩, R.rows, R.tab, R.nd, k, R.led, R.room, R.few⟩
theorem set_empty {h : Heap} (ho : h.get? a = some { cls := .type "set", dict := none, data := .set #[] 0 (.fresh 0 0 (!w.params.followText "set-order")) }) : SetS P w h a [] #[] 0 (.fresh 0 0 (!w.params.followText "set-order")) := by
  have T : TabOk (.fresh 0 0 (!w.params.followText "set-order")) [] := ⟨List.Pairwise.nil, rfl, rfl, .inl rfl, fun x hx => (nomatch hx), fun i h j hi _ => (by cases i <;> cases hi)⟩
  have D : w.params.followText "set-order" = true ∨ (SetTable.fresh 0 0 (!w.params.followText "set-order")).led = true := by
    show _ ∨ (!w.params.followText "set-order") = true
    cases w.params.followText "set-order" <;> simp
  exact { ob := ⟨_, ho, ⟨rfl, rfl, rfl⟩, rfl⟩, rows := rfl, tab := T, nd := List.nodup_nil, key := fun q hq => (nomatch hq), led := D, room := (by show 0 * 5 < 7 * 3; decide), few := (by decide) }
theorem tup_loop {R : Result → Shared → Prop} {I : Addr} {fp wr : List Addr} {G : Array GenState → Array GenState → Prop} {n : Nat} {Pv : Nat → Value → Prop} {St : Nat → Shared → Prop} (W : WalksS P w A.in1 I fp wr G n Pv St) (Z : Addr) (hZ : Z ∉ fp)
    (ks : List (Addr × List Key)) (hn : n = ks.length) (hv : ∀ i v, Pv i v → ∃ q, ks[i]? = some q ∧ v = .ref q.1) (hb : n < 64) (hu : A.in1.units < cLine) (h0 : Heap) (hk : ∀ q ∈ ks, KT P w h0 q.2 q.1) (z0 : h0.get? Z = none) (w0 : ∀ b ∈ wr, h0.get? b = none) (m : Nat) :
    ∀ (i : Nat) (s : Shared), i + m = n → St i s → (∀ b o, h0.get? b = some o → s.heap.get? b = some o) → (∃ L es ep t, SetS P w s.heap Z L es ep t ∧ Took ks i L) →
      (∀ s' L es ep t, Moved (Z :: wr) G s s' → SetS P w s'.heap Z L es ep t → Took ks n L → (∀ b o, h0.get? b = some o → s'.heap.get? b = some o) → R (.ok (.ret .none)) s') →
      codeAny (model P w) A (.builtin "set.update.loop" ⟨[.ref Z, .ref I], []⟩) R s := by
  have hZw : Z ∉ wr := fun h => hZ (W.sub _ h)
  have up : ∀ b ∈ wr, b ∈ Z :: wr := fun b h => List.mem_cons_of_mem _ h
  have kp : ∀ {s s' : Shared}, Moved wr G s s' → (∀ b o, h0.get? b = some o → s.heap.get? b = some o) → ∀ b o, h0.get? b = some o → s'.heap.get? b = some o := fun mv hkp b o e =>
    mv.heap b o (fun hb => by rw [w0 b hb] at e; cases e) (hkp b o e)
  induction m with
  | zero =>
    intro i s hi st hkp hS hR
    obtain ⟨L, es, ep, t, hS, g⟩ := hS
    have ei : i = n := by omega
    subst ei
    refine codeAny_builtin PyProof.Rows.F.entry_set_update_loop ?_
    rw [Around.under_plainId PyProof.Rows.F.plain_set_update_loop _]
    exact wpAny_bind (m := pyNext (.ref I)) (W.done s _ _ st fun s' mv => wpAny_pure (hR s' L es ep t (mv.mono up) (hS.moved (fun o ho => mv.heap Z o hZw ho) fun q hq => kt_keep (hk q (g.sub q hq)) (kp mv hkp)) g (kp mv hkp)))
  | succ m ih =>
    intro i s hi st hkp hS hR
    obtain ⟨L, es, ep, t, hS, g⟩ := hS
    refine codeAny_builtin PyProof.Rows.F.entry_set_update_loop ?_
    rw [Around.under_plainId PyProof.Rows.F.plain_set_update_loop _]
    refine wpAny_bind (m := pyNext (.ref I)) (W.item i s _ _ (by omega) st fun v s' pv st' mv => ?_)
    obtain ⟨⟨x, k⟩, hx, rfl⟩ := hv i v pv
    have hkp' := kp mv hkp
    have hS1 : SetS P w s'.heap Z L es ep t := hS.moved (fun o ho => mv.heap Z o hZw ho) fun q hq => kt_keep (hk q (g.sub q hq)) hkp'
    have kx : KT P w s'.heap k x := kt_keep (hk (x, k) (List.mem_of_getElem? hx)) hkp'
    refine wpAny_bind (m := holding [Value.ref x] (setAdd Z (.ref x))) (wpAny_holding ?_)
    unfold setAdd
    refine wpAny_holding (wpAny_bind (wpAny_pyHash_tuple hu kx ?_))
    refine addS1 (s := { s' with toks := s'.toks + (k.length + 1) }) hS1 kx hu (by have := g.len; omega) fun b h' L' es' ep' t' sb hS2 c => ?_
    have hkp2 : ∀ b o, h0.get? b = some o → h'.get? b = some o := fun b o e => (sb.2 b (fun z => by rw [z, z0] at e; cases e)).trans (hkp' b o e)
    refine wpAny_pure ⟨plainId_quiet PyProof.Rows.F.plain_set_update_loop _, ih (i + 1) _ (by omega) (W.frame _ s' _ _ st' (Nat.le_add_right _ _) fun b hb' o eo => ?_) hkp2 ⟨L', es', ep', t', hS2, g.step hx c⟩ fun s2 L2 es2 ep2 t2 mv2 hS3 g3 kp3 =>
      hR s2 L2 es2 ep2 t2 (Moved.trans W.gtrans ((mv.mono up).then_heap (Nat.le_add_right _ _) fun b o hb' eo => ?_) mv2) hS3 g3 kp3⟩
    · rw [sb.2 b fun e : b = Z => hZ (e ▸ hb')]; exact eo
    · rw [sb.2 b fun e : b = Z => hb' (e ▸ List.mem_cons_self)]; exact eo
theorem set_tups {l : Addr} {its : Array Value} {ks : List (Addr × List Key)} {Q : Value → Shared → Prop} (h0 : A.handled = none) (hl : s.heap.IsList l its) (hi : its.toList = ks.map fun q => Value.ref q.1) (hk : ∀ q ∈ ks, KT P w s.heap q.2 q.1) (hb : ks.length < 64) (hu : A.units + 3 < cLine)
    (hQ : ∀ (h2 : Heap) (tk : Nat) L es ep t, SetS P w h2 s.heap.objs.size L es ep t → Took ks ks.length L → (∀ b o, s.heap.get? b = some o → h2.get? b = some o) → Q (.ref s.heap.objs.size) { s with heap := h2, toks := tk }) :
    wpAny (model P w) A (call (.type "set") [.ref l]) Q E s := by
  obtain ⟨m0, m1, m2⟩ := F.called_set.mro
  have y1 := F.called_set.made; have y2 := F.called_set.sub; have y3 := F.called_set.notType; have y4 := F.called_set.canCreate; have y5 := F.typeCall_set_1 (.ref l)
  refine wpAny_call (codeAny_of_tree (show wpAny _ _ (callAny (.type "set") _) _ _ _ from wpAny_pure ⟨Code.quiet_builtin _ (by decide +kernel), codeAny_builtin F.entry_type_call ?_⟩))
  rw [Around.under_plain (weight_type_call_type "set" [Value.ref l] ([] : List (Str × Value))) rfl]
  repeat (any_goals (first | wp_step | assumption))
  let H0 : Heap := s.heap.push { cls := .type "set", dict := none, data := .set #[] 0 (.fresh 0 0 (!w.params.followText "set-order")) }
  refine codeAny_mono (code_set_led1 (Value.ref l) (E := E) (Q₁ := fun u s1 => u = .ref s.heap.objs.size ∧ s1 = { s with heap := H0 }) ⟨rfl, rfl⟩) fun r s1 hr => ?_
  match r, hr with
  | .error e, hr => exact hr
  | .ok .next, hr => exact hr.elim
  | .ok .brk, hr => exact hr.elim
  | .ok .cont, hr => exact hr.elim
  | .ok (.ret u), hr =>
    obtain ⟨e1, e2⟩ := hr
    subst e1; subst e2
    have g0 : H0.get? s.heap.objs.size = some { cls := .type "set", dict := none, data := .set #[] 0 (.fresh 0 0 (!w.params.followText "set-order")) } := Heap.get?_push_size _ rfl
    have t0 : Shared.TypeIs { s with heap := H0 } (.ref s.heap.objs.size) "set" := ⟨_, g0, rfl⟩
    have i1 := F.called_set.init.lookup; have i2 := F.called_set.init.bind (Value.ref s.heap.objs.size)
    repeat (any_goals (first | wp_step | assumption))
    refine codeAny_mono (codeAny_call_builtin (R := wants (fun r s2 => r = .none ∧ ∃ h2 tk L es ep t, s2 = { s with heap := h2, toks := tk } ∧ SetS P w h2 s.heap.objs.size L es ep t ∧ Took ks ks.length L ∧ ∀ b o, s.heap.get? b = some o → h2.get? b = some o) E)
      F.called_set.init.plain F.entry_set_init (check_set_init_1 t0 ?_)) fun r2 s2 hr2 => ?_
    · obtain ⟨⟨oc, od, oda, osl⟩, ho, hc, nl, hd⟩ := id hl
      dsimp only at hc hd
      subst hc hd
      have g1 : H0.get? l = some { cls := .type "list", dict := od, data := .seq its nl, slots := osl } := Heap.get?_push_of_some _ ho
      have z1 := F.sub_list_set; have z2 := F.sub_list_frozenset
      have z3 : (Value.type "list" == Value.type "dict") = false := by decide
      have l1 : H0.IsList l its := ⟨_, g1, rfl, nl, rfl⟩
      have lS : l < s.heap.objs.size := Heap.lt_size ho
      have sz : H0.objs.size = s.heap.objs.size + 1 := Heap.size_push _ _
      unfold Builtin.«set.__init__» noKeywords Builtin.Frozenset.updateFrom
      generalize hPy : pyIter = Py
      wp_walk
      subst hPy
      refine wpAny_pyIter_list l1 (wpAny_bind (wpAny_runValue ?_))
      have len : ks.length = its.size := by rw [← Array.length_toList, hi, List.length_map]
      have nI : l ≠ H0.objs.size := by rw [sz]; exact Nat.ne_of_lt (Nat.lt_succ_of_lt lS)
      have nS : s.heap.objs.size ∉ [H0.objs.size, l] := by
        rw [sz]
        intro hm
        rcases List.mem_cons.mp hm with e | hm
        · exact Nat.ne_of_lt (Nat.lt_succ_self _) e
        · exact Nat.ne_of_gt lS (List.mem_singleton.mp hm)
      refine tup_loop ((Walks.list (by simp [h0]) _ l nI its).toS) s.heap.objs.size nS ks len.symm (fun i v hv => ?_) (by rw [← len]; exact hb) hu s.heap hk (Heap.get?_none_of_le (Nat.le_refl _)) (fun b hb => ?_) its.size 0 _ (by omega)
        ⟨⟨_, Heap.get?_push_size _ rfl, rfl, rfl⟩, l1.push _⟩ (fun b o e => Heap.get?_push_of_some _ (Heap.get?_push_of_some _ e)) ⟨[], _, _, _, set_empty (Heap.get?_push_of_some _ g0), ⟨fun q hq => (nomatch hq), fun q hq => by simp at hq, Nat.le_refl _⟩⟩ fun s' L es ep t mv q g k => ?_
      · have e : its.toList[i]? = some v := by rw [Array.getElem?_toList]; exact hv
        rw [hi, List.getElem?_map] at e
        obtain ⟨q, e1, e2⟩ := Option.map_eq_some_iff.mp e
        exact ⟨q, e1, e2.symm⟩
      · have e5 := List.mem_singleton.mp hb
        rw [e5, sz]
        exact Heap.get?_none_of_le (Nat.le_succ _)
      · obtain ⟨h2, gg, dd, tk, os⟩ := s'
        have e1 : gg = s.gens := mv.gens
        have e2 : dd = s.drawn := mv.drawn
        have e3 : os = s.os := mv.os
        subst e1; subst e2; subst e3
        rw [← len] at g
        exact wpAny_pure (wpAny_pure ⟨rfl, h2, tk, L, es, ep, t, rfl, q, g, k⟩)
    · match r2, hr2 with
      | .error e, hr2 => exact hr2
      | .ok .next, hr2 => exact hr2.elim
      | .ok .brk, hr2 => exact hr2.elim
      | .ok .cont, hr2 => exact hr2.elim
      | .ok (.ret v), hr2 =>
        obtain ⟨rfl, h2, tk, L, es, ep, t, rfl, q, g, k⟩ := hr2
        repeat (any_goals (first | wp_step | assumption))
        exact hQ _ _ _ _ _ _ q g k
end
end CL
end

section
/-! part CLTsort -/
set_option Elab.async false
set_option linter.all false
set_option maxRecDepth 100000
set_option maxHeartbeats 2000000
/-! CLTsort: sorted(set(xs)). -/
namespace CL
open PySem PySem.Spec PyProof.Rows L2

theorem perm_map_inv {α β : Type} {f : α → β} : ∀ {L : List α} {l : List β}, l.Perm (L.map f) → ∃ L' : List α, L'.Perm L ∧ l = L'.map f
  | [], l, h => ⟨[], .refl _, by simpa using h⟩
  | x :: L, l, h => by
    obtain ⟨l1, l2, e⟩ := List.append_of_mem (h.mem_iff.mpr (List.mem_map_of_mem (a := x) List.mem_cons_self))
    subst e
    have h2 : (l1 ++ l2).Perm (L.map f) := (List.perm_middle.symm.trans h).cons_inv
    obtain ⟨L', p, e⟩ := perm_map_inv h2
    obtain ⟨a, b, e1, e2, e3⟩ := List.map_eq_append_iff.mp e.symm
    subst e1
    exact ⟨a ++ x :: b, List.perm_middle.trans (p.cons x), by rw [List.map_append, List.map_cons, e2, e3]⟩
section
variable {P : Program} {w : World} {A : Around} {E : Value → Shared → Prop} {s : Shared}
theorem items_reads {h : Heap} {k : List Key} {vs : List Value} (x : ItemsAre (mixKind P w) k vs) : ReadsAll h vs (k.map keyD) [] := by
  induction x with
  | nil => exact .nil
  | cons h1 _ ih =>
    rcases keyIs_shape h1 with ⟨i, t, e1, e2⟩ | ⟨z, t, e1, e2⟩ <;> subst e1 <;> subst e2
    · exact .cons (as := []) (.int i t) ih
    · exact .cons (as := []) (.str z t) ih
theorem kt_reads {h : Heap} {k : List Key} {b : Addr} (x : KT P w h k b) : Reads h (.ref b) (tupOf k) [] := by
  obtain ⟨o, its, n, ho, hc, hd, hi⟩ := x
  exact .tuple ho hc hd (items_reads hi)
theorem each_refs {h : Heap} {p : Addr} : ∀ {L : List (Addr × List Key)}, (∀ q ∈ L, KT P w h q.2 q.1) → PySem.W.EachIs (fun (v : Value) (q : Addr × List Key) => ∃ as, Reads h v (tupOf q.2) as ∧ p ∉ as) (L.map fun q => .ref q.1) L
  | [], _ => .nil
  | q :: L, k => .cons ⟨[], kt_reads (k q List.mem_cons_self), List.not_mem_nil⟩ (each_refs fun z hz => k z (List.mem_cons_of_mem _ hz))
theorem each_self : ∀ L : List (Addr × List Key), PySem.W.EachIs (fun (v : Value) (q : Addr × List Key) => v = .ref q.1) (L.map fun q => .ref q.1) L
  | [] => .nil
  | q :: L => .cons rfl (each_self L)
theorem self_each : ∀ {L : List (Addr × List Key)} {vs : List Value}, PySem.W.EachIs (fun (v : Value) (q : Addr × List Key) => v = .ref q.1) vs L → vs = L.map fun q => .ref q.1
  | [], _, .nil => rfl
  | q :: L, _, .cons e t => by rw [self_each t, e]; rfl
theorem sorted_setS {a : Addr} {L : List (Addr × List Key)} {es : Array (Int × Value)} {ep : Nat} {t : SetTable} {Q : Value → Shared → Prop} (R : SetS P w s.heap a L es ep t) (hh : A.handled = none) (hu : A.units + 64 < cLine) (ok : sortOk (L.map fun q => tupOf q.2) = true)
    (q : ∀ s' p c (L' : List (Addr × List Key)), (∀ b o, s.heap.get? b = some o → s'.heap.get? b = some o) → s'.gens = s.gens → s'.os = s.os → s.heap.objs.size ≤ p → L'.Perm L →
      s'.heap.get? p = some (seqObj "list" ((L'.mergeSort (PySem.W.dataLe false fun q => tupOf q.2)).map fun q => Value.ref q.1).toArray c) → Q (.ref p) s') :
    wpAny (model P w) A (call (.builtin "sorted") [.ref a]) Q E s := by
  obtain ⟨o, ho, hex, hd⟩ := R.ob
  have hsz := R.size
  have hfew := R.few
  obtain ⟨o1, o2, o3, o4⟩ := sortOk_of ok
  refine Calls.call_function_entry kind_sorted plain_sorted entry_sorted (args_sorted1 _) ?_
  unfold Builtin.«sorted»
  refine wpAny_bind (m := checkCount "sorted" 1 1 _) (wpAny_pure (wpAny_bind (collect_set (A := A.in1) hh ⟨o, ho, hex.1, hd⟩ R.fits (by unfold scanBound; omega) R.tab.ris R.led fun s1 vs k1 hz g1 x1 pm => ?_)))
  have hes : es.toList.map (·.2) = L.map fun q => Value.ref q.1 := by rw [R.rows, List.map_map]; rfl
  rw [hes] at pm
  obtain ⟨L', pL, e⟩ := perm_map_inv pm
  subst e
  have hl : (L'.map fun q => Value.ref q.1).length < 64 := by rw [List.length_map, pL.length_eq]; exact hfew
  refine wpAny_bind (wpAny_newList ?_ (by rw [sizeLine_eq]; omega))
  have hoL : (s1.heap.push (seqObj "list" (L'.map fun q => Value.ref q.1).toArray 0)).get? s1.heap.objs.size = some (seqObj "list" (L'.map fun q => Value.ref q.1).toArray 0) := Heap.get?_push_size _ rfl
  have up : ∀ b u, s.heap.get? b = some u → (s1.heap.push (seqObj "list" (L'.map fun q => Value.ref q.1).toArray 0)).get? b = some u := fun b u e => Heap.get?_push_of_some _ (k1 b u e)
  have key : ∀ q ∈ L', KT P w (s1.heap.push (seqObj "list" (L'.map fun q => Value.ref q.1).toArray 0)) q.2 q.1 := fun q hq => kt_keep (R.key q (pL.mem_iff.mp hq)) up
  have pe : (L'.map fun q => tupOf q.2).Perm (L.map fun q => tupOf q.2) := pL.map _
  refine wpAny_bind (wpAny_holding (PySem.W.list_sort_data (s := { s1 with heap := s1.heap.push (seqObj "list" (L'.map fun q => Value.ref q.1).toArray 0) }) (enc := fun q : Addr × List Key => tupOf q.2) hoL (each_self L') (each_refs key)
    (fun d hd e he => o1 d (pe.mem_iff.mp hd) e (pe.mem_iff.mp he)) ?_ (by rw [sizeLine_eq]; rw [List.length_map] at hl; omega) (fun b hb => ?_) fun out hlo eo => ?_))
  · rcases o2 with o2 | o2
    · exact .inl fun d hd => o2 d (pe.mem_iff.mp hd)
    · exact .inr fun d hd => o2 d (pe.mem_iff.mp hd)
  · have := o3 (tupOf b.2) (pe.mem_iff.mp (List.mem_map.mpr ⟨b, hb, rfl⟩))
    have e1 : A.in1.units ≤ A.units + 2 := by first | exact Nat.le_succ _ | exact Nat.le_refl _ | simp [Around.in1]
    omega
  · have e := self_each eo
    subst e
    obtain ⟨c, hc⟩ := sortedHeap_at (vs := L'.map fun q => Value.ref q.1) (out := ((L'.mergeSort (PySem.W.dataLe false fun q => tupOf q.2)).map fun q => Value.ref q.1).toArray) hoL
    refine wpAny_pure ⟨_, rfl, q _ s1.heap.objs.size c L' (fun b u e => ?_) g1 x1 hz pL hc⟩
    have hlt := Heap.lt_size (k1 b u e)
    show (sortedHeap (s1.heap.push (seqObj "list" (L'.map fun q => Value.ref q.1).toArray 0)) s1.heap.objs.size (L'.map fun q => Value.ref q.1) ((L'.mergeSort (PySem.W.dataLe false fun q => tupOf q.2)).map fun q => Value.ref q.1).toArray).get? b = some u
    rw [sortedHeap_old (Nat.ne_of_lt hlt) (by rw [size_push']; exact Nat.lt_succ_of_lt hlt)]
    exact up b u e
end

/-! ### the order of such tuples is one -/
theorem key_tri {x y : Key} (h : PySem.W.alike (keyD x) (keyD y) = true) (h1 : ltD (keyD x) (keyD y) = false) (h2 : ltD (keyD y) (keyD x) = false) : x = y := by
  cases x <;> cases y
  · rename_i i j
    simp [keyD, ltD] at h1 h2
    rw [show i = j by omega]
  · simp [keyD, PySem.W.alike] at h
  · simp [keyD, PySem.W.alike] at h
  · rename_i a b
    simp only [keyD, ltD, decide_eq_false_iff_not] at h1 h2
    have e : a.cps.toList = b.cps.toList := List.le_antisymm (List.not_lt.mp h2) (List.not_lt.mp h1)
    have : a = b := by
      obtain ⟨a⟩ := a
      obtain ⟨b⟩ := b
      exact congrArg _ (Array.toList_inj.mp e)
    rw [this]
theorem keyD_eqv {x y : Key} (h : PySem.W.alike (keyD x) (keyD y) = true) (e : PyData.eqv (keyD x) (keyD y) = true) : x = y := by
  cases x <;> cases y
  · simp [keyD, PyData.eqv] at e; rw [e]
  · simp [keyD, PySem.W.alike] at h
  · simp [keyD, PySem.W.alike] at h
  · simp [keyD, PyData.eqv] at e; rw [e]
theorem eqv_refl_key (x : Key) : PyData.eqv (keyD x) (keyD x) = true := by cases x <;> simp [keyD, PyData.eqv]
theorem keys_tri : ∀ {k l : List Key}, PySem.W.alikeAll (k.map keyD) (l.map keyD) = true → ltDs (k.map keyD) (l.map keyD) = false → ltDs (l.map keyD) (k.map keyD) = false → k = l
  | [], [], _, _, _ => rfl
  | [], _ :: _, _, h, _ => by simp [ltDs] at h
  | _ :: _, [], _, _, h => by simp [ltDs] at h
  | x :: k, y :: l, h, h1, h2 => by
    obtain ⟨a1, a2⟩ := PySem.W.alike_all_cons (show PySem.W.alikeAll (keyD x :: k.map keyD) (keyD y :: l.map keyD) = true from h)
    simp only [List.map_cons, ltDs] at h1 h2
    by_cases e : PyData.eqv (keyD x) (keyD y) = true
    · have e' := keyD_eqv a1 e
      subst e'
      rw [if_pos e] at h1 h2
      rw [keys_tri a2 h1 h2]
    · have e2 : ¬ PyData.eqv (keyD y) (keyD x) = true := fun q => e (by
        have : x = y := by
          cases x <;> cases y <;> simp [keyD, PyData.eqv, PySem.W.alike] at q a1 ⊢ <;> exact q.symm
        subst this; exact eqv_refl_key x)
      rw [if_neg e] at h1
      rw [if_neg e2] at h2
      exact absurd (key_tri a1 h1 h2) fun q => e (by subst q; exact eqv_refl_key x)
theorem srt_perm {ks ls : List (List Key)} (p : ks.Perm ls) (ok : likeAll (ks.map tupOf) = true) : srtD (ks.map tupOf) = srtD (ls.map tupOf) := by
  have al := likeAll_of ok
  have T : PySem.W.TotalLe (PySem.W.dataLe false (id : PyData → PyData)) := PySem.W.sortLe_total ..
  unfold srtD
  refine List.Perm.eq_of_pairwise (le := fun a b => PySem.W.dataLe false id a b = true) (fun a b ha hb h1 h2 => ?_) (PySem.W.sort_pairwise T _) (PySem.W.sort_pairwise T _) ((List.mergeSort_perm _ _).trans ((p.map tupOf).trans (List.mergeSort_perm _ _).symm))
  have ma := List.mem_mergeSort.mp ha
  have mb := List.mem_mergeSort.mp hb
  obtain ⟨k, hk, rfl⟩ := List.mem_map.mp ma
  obtain ⟨l, hl, rfl⟩ := List.mem_map.mp mb
  have m2 : tupOf l ∈ ks.map tupOf := List.mem_map.mpr ⟨l, p.mem_iff.mpr hl, rfl⟩
  have a1 := al _ ma _ m2
  have a2 := al _ m2 _ ma
  have g1 : (!PySem.W.dataLt (tupOf l) (tupOf k)) = true := h1
  have g2 : (!PySem.W.dataLt (tupOf k) (tupOf l)) = true := h2
  rw [dataLt_eq _ _ a2, Bool.not_eq_true'] at g1
  rw [dataLt_eq _ _ a1, Bool.not_eq_true'] at g2
  have : k = l := keys_tri (by simpa [tupOf, PySem.W.alike] using a1) (by simpa [tupOf, ltD] using g2) (by simpa [tupOf, ltD] using g1)
  rw [this]
/-! ### the rule -/
def onceK (acc : List (List Key)) (x : List Key) : List (List Key) := if (acc.any fun y => decide (y = x)) = true then acc else acc ++ [x]
def tupsK : List PyData → Option (List (List Key))
  | [] => some []
  | .tuple ys :: r => match keysP ys, tupsK r with
    | some k, some ks => some (k :: ks)
    | _, _ => none
  | _ :: _ => none
/-- each item once -/
def onceKs (ks : List (List Key)) : List (List Key) := ks.foldl onceK []
theorem onceKs_spec (ks : List (List Key)) : ∀ acc : List (List Key), acc.Nodup → (ks.foldl onceK acc).Nodup ∧ ∀ x, x ∈ ks.foldl onceK acc ↔ x ∈ acc ∨ x ∈ ks := by
  induction ks with
  | nil => exact fun acc h => ⟨h, fun x => by simp⟩
  | cons k ks ih =>
    intro acc h
    rw [List.foldl_cons]
    by_cases hk : k ∈ acc
    · have e : onceK acc k = acc := if_pos (by simpa using hk)
      rw [e]
      obtain ⟨h1, h2⟩ := ih acc h
      refine ⟨h1, fun x => (h2 x).trans ⟨fun q => q.imp id (List.mem_cons_of_mem _), fun q => ?_⟩⟩
      rcases q with q | q
      · exact .inl q
      · rcases List.mem_cons.mp q with e | q
        · subst e; exact .inl hk
        · exact .inr q
    · have e : onceK acc k = acc ++ [k] := if_neg (by simpa using hk)
      rw [e]
      obtain ⟨h1, h2⟩ := ih (acc ++ [k]) (by
        rw [List.nodup_append]
        exact ⟨h, by simp, fun a ha b hb => by rw [List.mem_singleton.mp hb]; rintro rfl; exact hk ha⟩)
      refine ⟨h1, fun x => (h2 x).trans ?_⟩
      simp [or_assoc]
theorem onceKs_nodup (ks : List (List Key)) : (onceKs ks).Nodup := (onceKs_spec ks [] List.nodup_nil).1
theorem onceKs_mem (ks : List (List Key)) (x : List Key) : x ∈ onceKs ks ↔ x ∈ ks := ((onceKs_spec ks [] List.nodup_nil).2 x).trans (by simp)
def sortSet (xs : List PyData) : Option (List PyData) := (tupsK xs).bind fun ks => if (decide (ks.length < 64) && sortOk ((onceKs ks).map tupOf)) = true then some (srtD ((onceKs ks).map tupOf)) else none
def dSortSet (d : DE) : DN := fun σ S => bnd (d σ S) fun w S1 => giv ((lstW S1 w).bind sortSet) S1
section
variable {X : Cx} {E : EK} {pos p p2 q : Pos} {a : Expr} {da : DE}
theorem tups_of {K : PySem.W.Frag} {H : Hp} {φ : Fi} : ∀ {ds : List PyData} {vs : List V} {ks : List (List Key)}, RDs K H φ ds vs → tupsK ds = some ks → ∃ L : List (Addr × List Key), L.map (·.2) = ks ∧ vs = L.map (fun q => V.ref q.1) ∧ ∀ q ∈ L, H q.1 = some (.tup (q.2.map kV))
  | [], _, _, h, e => by cases e; cases h; exact ⟨[], rfl, rfl, fun q hq => nomatch hq⟩
  | .tuple ys :: ds, _, ks, ⟨v, r, e1, h1, h2⟩, e => by
    subst e1
    unfold tupsK at e
    match hp : keysP ys, hr : tupsK ds, e with
    | none, _, e => cases e
    | some _, none, e => cases e
    | some k, some ls, e =>
      cases e
      obtain ⟨L, g1, g2, g3⟩ := tups_of h2 hr
      obtain ⟨b, us, rfl, h3, h4⟩ := h1
      refine ⟨(b, k) :: L, by rw [List.map_cons, g1], by rw [List.map_cons, g2], fun q hq => ?_⟩
      rcases List.mem_cons.mp hq with e | hq
      · subst e; rw [← keysP_of h4 hp]; exact h3
      · exact g3 q hq
  | .none :: _, _, _, _, e => by cases e
  | .int _ :: _, _, _, _, e => by cases e
  | .bool _ :: _, _, _, _, e => by cases e
  | .list _ :: _, _, _, _, e => by cases e
  | .str _ :: _, _, _, _, e => by cases e
  | .dict _ :: _, _, _, _, e => by cases e
theorem refs_of : ∀ {L : List (Addr × List Key)} {us : List Value}, Vals (L.map fun q => V.ref q.1) us → us = L.map fun q => Value.ref q.1
  | [], _, .nil => rfl
  | _ :: _, _, .cons r t => by cases r; rw [refs_of t]; rfl
theorem vals_refs : ∀ L : List (Addr × List Key), Vals (L.map fun q => V.ref q.1) (L.map fun q => Value.ref q.1)
  | [] => .nil
  | q :: L => .cons rfl (vals_refs L)
theorem n_sortedSet (hu : X.A.units + 65 < cLine) (hm : X.mg "sorted" = none) (hm2 : X.mg "set" = none) (ha : SE X E a da) (hc : X.calm = true := by rfl) (hg : Gl X "sorted" := by rfl) (hg2 : Gl X "set" := by rfl)
    (na : starEach [a] X.env = (false, eval a X.env) :: starEach [] X.env := by rfl) : SN X E (.Call (.Name "sorted" p) [.Call (.Name "set" p2) [a] [] q] [] pos) (dSortSet da) := by
  refine ⟨fun pins s σ H Q I h => ?_⟩
  refine Call_ (ld_blt I hg hm boot_sorted (PyProof.Rows.callWith_builtin1 (PyProof.Rows.args_cons ?_ rfl) rfl rfl))
  refine Call_ (ld_blt I hg2 hm2 boot_set (PyProof.Rows.callWith_type1 (PyProof.Rows.args_cons ?_ na) na rfl))
  obtain ⟨φ, σ', S, r', hs, he, hd, hq⟩ := h
  have run := ha.run pins s σ H
  unfold dSortSet at hd
  match hda : da σ' S, hd with
  | none, hd => cases hd
  | some (.xc x S1), hd => cases hd; exact thn (run (fun _ _ => False) I ⟨φ, σ', S, .xc x S1, hs, he, hda, hq⟩) fun v s1 ⟨x, H1, I1, r1, q1⟩ => q1.elim
  | some (.ok w S1), hd =>
    refine thn (run (fun x H1 => ∃ φ1, Ext φ H φ1 H1 ∧ SR X.K H1 φ1 S1 ∧ RW X.K H1 φ1 X.mg w x) I ⟨φ, σ', S, .ok w S1, hs, he, hda, fun φ1 H1 v e1 s1 x1 => ⟨φ1, e1, s1, x1⟩⟩) fun v s1 ⟨x, H1, I1, r1, φ1, e1, s1', x1⟩ => PyProof.Rows.args_nil ?_
    rw [bnd_ok] at hd
    match hg : (lstW S1 w).bind sortSet, hd with
    | none, hd => cases hd
    | some out, hd =>
      cases hd
      obtain ⟨ds, g1, g2⟩ := Option.bind_eq_some_iff.mp hg
      obtain ⟨ks, g3, g4⟩ := Option.bind_eq_some_iff.mp g2
      split at g4
      · rename_i ok
        cases g4
        rw [Bool.and_eq_true, decide_eq_true_eq] at ok
        obtain ⟨l, vs, rfl, f1, q1⟩ := seqL_of s1' x1 (lstW_of g1)
        obtain ⟨L, l1, l2, l3⟩ := tups_of q1 g3
        subst l2
        cases r1
        obtain ⟨its, rv, pl, _⟩ := I1.list f1
        have hu' := hu
        have kt : ∀ q ∈ L, KT X.prog X.w s1.heap q.2 q.1 := fun q hq => key_of I1.hok (l3 q hq)
        refine set_tups (P := X.prog) (w := X.w) (I1.ok.hd hc) pl.isList (by simpa using refs_of rv) kt (by rw [← List.length_map (f := (·.2)), l1]; exact ok.1) (by omega) fun h2 tk L2 es ep t R g k => PyProof.Rows.args_nil ?_
        have I2 : Inv X pins σ H1 { s1 with heap := h2, toks := tk } := I1.kept k
        have m2 : (L2.map (·.2)).Perm (onceKs ks) := (List.perm_ext_iff_of_nodup R.nd (onceKs_nodup ks)).mpr fun x => by
          rw [onceKs_mem, ← l1]
          constructor
          · intro h
            obtain ⟨q, hq, e⟩ := List.mem_map.mp h
            exact List.mem_map.mpr ⟨q, g.sub q hq, e⟩
          · intro h
            obtain ⟨q, hq, e⟩ := List.mem_map.mp h
            rw [← e]; exact g.all q (by rw [List.take_length]; exact hq)
        have mm : (L2.map fun q => tupOf q.2) = (L2.map (·.2)).map tupOf := by rw [List.map_map]; rfl
        have lk : likeAll ((L2.map (·.2)).map tupOf) = true := by
          have o1 := (sortOk_of ok.2).1
          refine List.all_eq_true.mpr fun x hx => List.all_eq_true.mpr fun y hy => o1 x ((m2.map tupOf).mem_iff.mp hx) y ((m2.map tupOf).mem_iff.mp hy)
        have ok2 : sortOk (L2.map fun q => tupOf q.2) = true := by
          rw [mm]
          have pm := m2.map tupOf
          have := ok.2
          unfold sortOk at this ⊢
          simp only [Bool.and_eq_true, Bool.or_eq_true] at this ⊢
          obtain ⟨⟨⟨_, b2⟩, b3⟩, b4⟩ := this
          refine ⟨⟨⟨lk, ?_⟩, ?_⟩, by rw [pm.length_eq]; exact b4⟩
          · exact b2.imp (fun h => List.all_eq_true.mpr fun x hx => List.all_eq_true.mp h x (pm.mem_iff.mp hx)) (fun h => List.all_eq_true.mpr fun x hx => List.all_eq_true.mp h x (pm.mem_iff.mp hx))
          · exact List.all_eq_true.mpr fun x hx => List.all_eq_true.mp b3 x (pm.mem_iff.mp hx)
        refine sorted_setS R (I2.ok.hd hc) (by omega) ok2 fun s' p c L' k2 gg oo hp pL hget => ?_
        have hn : H1 p = none := I2.hok.fresh hp
        have kt' : ∀ q ∈ L', H1 q.1 = some (.tup (q.2.map kV)) := fun q hq => l3 q (g.sub q (pL.mem_iff.mp hq))
        have hlen : ((L'.mergeSort (PySem.W.dataLe false fun q => tupOf q.2)).map fun q => V.ref q.1).length ≤ sizeLine := by
          rw [List.length_map, List.length_mergeSort, pL.length_eq, sizeLine_eq]
          have := R.few; omega
        have J : Inv X pins σ (upd H1 p (.lst ((L'.mergeSort (PySem.W.dataLe false fun q => tupOf q.2)).map fun q => V.ref q.1))) { ({ s1 with heap := h2, toks := tk } : Shared) with heap := s'.heap, gens := s'.gens, drawn := s'.drawn, toks := s'.toks } :=
          I2.call (ch := []) (Un.laid k2 hp hn) (I2.hok.laid k2 hp ⟨hlen, _, c, vals_refs _, hget⟩) (by rw [gg]; exact I2.bare) (fun _ z => nomatch z)
        have e : s' = { s1 with heap := s'.heap, gens := s'.gens, drawn := s'.drawn, toks := s'.toks } := by
          cases s'; cases s1; cases oo; rfl
        rw [e]
        refine ⟨.ref p, _, J, rfl, hq φ1 H1 p _ e1 s1' hn ?_⟩
        have ee : srtD ((onceKs ks).map tupOf) = (L'.mergeSort (PySem.W.dataLe false fun q => tupOf q.2)).map fun q => tupOf q.2 := by
          rw [List.map_mergeSort (r := PySem.W.dataLe false fun q : Addr × List Key => tupOf q.2) (s := PySem.W.dataLe false id) (f := fun q : Addr × List Key => tupOf q.2) (fun a _ b _ => rfl)]
          have p2 : (L'.map (·.2)).Perm (onceKs ks) := (pL.map _).trans m2
          have lk2 : likeAll ((L'.map (·.2)).map tupOf) = true := by
            have o1 := (sortOk_of ok.2).1
            exact List.all_eq_true.mpr fun x hx => List.all_eq_true.mpr fun y hy => o1 x ((p2.map tupOf).mem_iff.mp hx) y ((p2.map tupOf).mem_iff.mp hy)
          rw [← srt_perm p2 lk2, List.map_map]; rfl
        rw [ee]
        have go : ∀ M : List (Addr × List Key), (∀ q ∈ M, H1 q.1 = some (.tup (q.2.map kV))) → RDs X.K H1 φ1 (M.map fun q => tupOf q.2) (M.map fun q => V.ref q.1) := by
          intro M
          induction M with
          | nil => exact fun _ => rfl
          | cons q M ih => exact fun h => ⟨_, _, rfl, ⟨q.1, _, rfl, h q List.mem_cons_self, keysD_rd q.2⟩, ih fun z hz => h z (List.mem_cons_of_mem _ hz)⟩
        exact go _ fun q hq => kt' q (List.mem_mergeSort.mp hq)
      · cases g4
end
end CL
end

section
/-! part LK16 -/
set_option Elab.async false
set_option linter.all false
set_option maxRecDepth 100000
set_option maxHeartbeats 4000000
/-! printed by gen.py: the defs of the text, what they compute, that they do. -/
namespace LK16
open CL
open PySem PySem.Spec PyProof.Rows L2
def topS (i : Nat) : Stmt := PySem.Challenge.pw_chosenlast_k16_coins_found.main.body.getD i (.Pass ⟨0, 0, 0, 0⟩)
abbrev st_l_feed : Stmt := topS 4
abbrev st_l_pairs : Stmt := topS 8
abbrev st_l_draw : Stmt := topS 5
abbrev st_l_choice : Stmt := topS 6
abbrev st_l_scope : Stmt := topS 9
abbrev st_l_purse : Stmt := topS 10
abbrev st_l_table : Stmt := topS 7
abbrev st_l_by_hand : Stmt := topS 15
abbrev st_l_payments : Stmt := topS 11
abbrev st_find_coin : Stmt := topS 1
abbrev st_coins_for : Stmt := topS 2
abbrev st_l_agrees : Stmt := topS 14
abbrev st_l_wanted : Stmt := topS 13
abbrev st_l_reachable : Stmt := topS 12
abbrev st_law : Stmt := topS 16
theorem sc_l_feed : FnScope ["_law_script"] ["_law_script"] (defScope st_l_feed) := ⟨rfl, rfl, rfl, by decide +kernel, rfl, by decide +kernel, by decide +kernel⟩
theorem sc_l_pairs : FnScope ["_law_grid", "_law_found", "_law_line", "_law_pair"] ["_law_grid"] (defScope st_l_pairs) := ⟨rfl, rfl, rfl, by decide +kernel, rfl, by decide +kernel, by decide +kernel⟩
theorem sc_l_draw : FnScope ["_law_feed_here", "_law_limit", "_law_digit", "_law_at", "_law_cell", "_law_mixed"] ["_law_feed_here", "_law_limit"] (defScope st_l_draw) := ⟨rfl, rfl, rfl, by decide +kernel, rfl, by decide +kernel, by decide +kernel⟩
theorem sc_l_choice : FnScope ["_law_feed_here", "_law_values"] ["_law_feed_here", "_law_values"] (defScope st_l_choice) := ⟨rfl, rfl, rfl, by decide +kernel, rfl, by decide +kernel, by decide +kernel⟩
theorem sc_l_scope : FnScope ["_law_feed_here", "_law_every", "_law_most", "_law_found", "_law_k"] ["_law_feed_here", "_law_every", "_law_most"] (defScope st_l_scope) := ⟨rfl, rfl, rfl, by decide +kernel, rfl, by decide +kernel, by decide +kernel⟩
theorem sc_l_purse : FnScope ["_law_feed_here", "_law_every", "_law_most", "_law_found", "_law_next_number", "_law_k"] ["_law_feed_here", "_law_every", "_law_most"] (defScope st_l_purse) := ⟨rfl, rfl, rfl, by decide +kernel, rfl, by decide +kernel, by decide +kernel⟩
theorem sc_l_table : FnScope ["_law_feed_here", "_law_most_rows", "_law_names", "_law_lists", "_law_found", "_law_name", "_law_first", "_law_k", "_law_some"] ["_law_feed_here", "_law_most_rows"] (defScope st_l_table) := ⟨rfl, rfl, rfl, by decide +kernel, rfl, by decide +kernel, by decide +kernel⟩
theorem sc_l_by_hand : FnScope ["_law_p", "_law_q", "_law_r", "_law_chain", "_law_found", "_law_some", "_law_alike", "_law_k"] [] (defScope st_l_by_hand) := ⟨rfl, rfl, rfl, by decide +kernel, rfl, by decide +kernel, by decide +kernel⟩
theorem sc_l_payments : FnScope ["_law_purse_here", "_law_wanted_here", "_law_found", "_law_pair", "_law_longer", "_law_ahead", "_law_number", "_law_scope_here"] ["_law_purse_here", "_law_wanted_here"] (defScope st_l_payments) := ⟨rfl, rfl, rfl, by decide +kernel, rfl, by decide +kernel, by decide +kernel⟩
theorem sc_find_coin : FnScope ["coins", "pairs", "k", "held", "tried", "number", "scope"] ["coins", "pairs", "k", "held", "tried"] (defScope st_find_coin) := ⟨rfl, rfl, rfl, by decide +kernel, rfl, by decide +kernel, by decide +kernel⟩
theorem sc_coins_for : FnScope ["coins", "pairs", "held", "k", "by_pair", "number"] ["coins", "pairs"] (defScope st_coins_for) := ⟨rfl, rfl, rfl, by decide +kernel, rfl, by decide +kernel, by decide +kernel⟩
theorem sc_l_agrees : FnScope ["_law_purse_here", "_law_wanted_here", "_law_before", "_law_payments_here", "_law_found", "_law_one"] ["_law_purse_here", "_law_wanted_here"] (defScope st_l_agrees) := ⟨rfl, rfl, rfl, by decide +kernel, rfl, by decide +kernel, by decide +kernel⟩
theorem sc_l_wanted : FnScope ["_law_feed_here", "_law_every", "_law_most", "_law_pool", "_law_found", "_law_k"] ["_law_feed_here", "_law_every", "_law_most"] (defScope st_l_wanted) := ⟨rfl, rfl, rfl, by decide +kernel, rfl, by decide +kernel, by decide +kernel⟩
theorem sc_l_reachable : FnScope ["_law_purse_here", "_law_some", "_law_number", "_law_scope_here", "_law_pair"] ["_law_purse_here", "_law_some"] (defScope st_l_reachable) := ⟨rfl, rfl, rfl, by decide +kernel, rfl, by decide +kernel, by decide +kernel⟩
theorem sc_law : FnScope ["_law_script", "_law_feed_here", "_law_case", "_law_attempt", "_law_every", "_law_purse_here", "_law_k", "_law_tried", "_law_pair"] ["_law_script"] (defScope st_law) := ⟨rfl, rfl, rfl, by decide +kernel, rfl, by decide +kernel, by decide +kernel⟩
structure Mo (K : PySem.W.Frag) (mg : Str → Option Value) : Prop where
  d_l_feed : DefG K mg "_law_feed" st_l_feed ["_law_script"]
  d_l_pairs : DefG K mg "_law_pairs" st_l_pairs ["_law_grid"]
  d_l_draw : DefG K mg "_law_draw" st_l_draw ["_law_feed_here", "_law_limit"]
  d_l_choice : DefG K mg "_law_choice" st_l_choice ["_law_feed_here", "_law_values"]
  d_l_scope : DefG K mg "_law_scope" st_l_scope ["_law_feed_here", "_law_every", "_law_most"]
  d_l_purse : DefG K mg "_law_purse" st_l_purse ["_law_feed_here", "_law_every", "_law_most"]
  d_l_table : DefG K mg "_law_table" st_l_table ["_law_feed_here", "_law_most_rows"]
  d_l_by_hand : DefG K mg "_law_by_hand" st_l_by_hand []
  d_l_payments : DefG K mg "_law_payments" st_l_payments ["_law_purse_here", "_law_wanted_here"]
  d_find_coin : DefG K mg "find_coin" st_find_coin ["coins", "pairs", "k", "held", "tried"]
  d_coins_for : DefG K mg "coins_for" st_coins_for ["coins", "pairs"]
  d_l_agrees : DefG K mg "_law_agrees" st_l_agrees ["_law_purse_here", "_law_wanted_here"]
  d_l_wanted : DefG K mg "_law_wanted" st_l_wanted ["_law_feed_here", "_law_every", "_law_most"]
  d_l_reachable : DefG K mg "_law_reachable" st_l_reachable ["_law_purse_here", "_law_some"]
  d_law : DefG K mg "law" st_law ["_law_script"]
  z_len : mg "len" = none
  z_list : mg "list" = none
  z_min : mg "min" = none
  z_range : mg "range" = none
  z_repr : mg "repr" = none
  z_set : mg "set" = none
  z_sorted : mg "sorted" = none
  z_tuple : mg "tuple" = none
  z_zip : mg "zip" = none
def b_l_feed : DS := (sCons (sRet (dDisp [("cells", (dFz (dCallN listG (dCons (dSlA (dVar 0) dNoP (dPt (dC (.int 63)))) dNil)))), ("at", (dC (.int 0))), ("rest", (dC (.int 0))), ("draws", (dC (.int 0)))]))
      sNil)
def f_l_feed : DF := fnB gcNew 1 1 b_l_feed
def b_l_pairs : DS := (sCons (sSet 1 (dD0 (.dt [])))
      (sCons (sFor (.nm 2) (dAny (dIx (dVar 0) (dC (.int 1)))) (sCons (sDrop (dMeth "dict" gUpd (dVar 1) (dCons (dFz (dLc [3] (dZip (dCons (dIx (dVar 0) (dC (.int 0))) (dCons (dVar 2) dNil))) (.nm 3) dYes (dTup (dCons (dVar 3) (dCons (dC (.bool true)) dNil))))) dNil)))
      sNil))
      (sCons (sRet (dFz (dCallN sortDG (dCons (dVar 1) dNil))))
      sNil)))
def f_l_pairs : DF := fnB gc 1 4 b_l_pairs
def b_l_draw : DS := (sCons (sPut (dVar 0) (dC (.str "draws")) (dBin addW (dGet (dVar 0) (dC (.str "draws"))) (dC (.int 1))))
      (sCons (sIf (dB (dBin (on2 (i2 gtI)) (dGet (dVar 0) (dC (.str "rest"))) (dC (.int 0)))) (sCons (sSet 2 (dBin (on2 (i2 modI)) (dGet (dVar 0) (dC (.str "rest"))) (dVar 1)))
      (sCons (sPut (dVar 0) (dC (.str "rest")) (dBin (on2 (i2 divI)) (dGet (dVar 0) (dC (.str "rest"))) (dVar 1)))
      (sCons (sRet (dVar 2))
      sNil))) sNil)
      (sCons (sSet 3 (dGet (dVar 0) (dC (.str "at"))))
      (sCons (sPut (dVar 0) (dC (.str "at")) (dBin addW (dVar 3) (dC (.int 1))))
      (sCons (sSet 4 (dIf (dB (dBin (on2 neP) (dGet (dVar 0) (dC (.str "cells"))) (dFz (dLst dNil)))) (dIx (dGet (dVar 0) (dC (.str "cells"))) (dBin (on2 (i2 modI)) (dVar 3) (dCall (c1 lenP) (dCons (dGet (dVar 0) (dC (.str "cells"))) dNil)))) (dC (.int 43))))
      (sCons (sIf (dAndT (dB (dBin (on2 (i2 geI)) (dVar 4) (dBin (on2 (i2 powI)) (dC (.int 10)) (dC (.int 18))))) (dB (dBin (on2 ltP) (dVar 3) (dCall (c1 lenP) (dCons (dGet (dVar 0) (dC (.str "cells"))) dNil))))) (sCons (sPut (dVar 0) (dC (.str "rest")) (dBin (on2 (i2 divI)) (dVar 4) (dVar 1)))
      (sCons (sRet (dBin (on2 (i2 modI)) (dVar 4) (dVar 1)))
      sNil)) sNil)
      (sCons (sSet 5 (dBin (on2 (i2 modI)) (dBin addW (dBin addW (dBin (on2 (i2 modI)) (dVar 4) (dC (.int 2147483587))) (dBin (on2 (i2 mulI)) (dC (.int 60621)) (dGet (dVar 0) (dC (.str "draws"))))) (dC (.int 19))) (dC (.int 2147483647))))
      (sCons (sSet 5 (dBin (on2 (i2 modI)) (dBin addW (dBin addW (dBin (on2 (i2 mulI)) (dVar 5) (dVar 5)) (dBin (on2 (i2 mulI)) (dC (.int 8233)) (dGet (dVar 0) (dC (.str "draws"))))) (dC (.int 41))) (dC (.int 2147483489))))
      (sCons (sRet (dBin (on2 (i2 modI)) (dBin (on2 (i2 divI)) (dBin (on2 (i2 modI)) (dBin addW (dBin (on2 (i2 mulI)) (dVar 5) (dVar 5)) (dBin (on2 (i2 mulI)) (dC (.int 69)) (dVar 5))) (dC (.int 2147483323))) (dC (.int 32))) (dVar 1)))
      sNil)))))))))
def f_l_draw : DF := fnB gc 2 6 b_l_draw
def b_l_choice : DS := (sCons (sRet (dIx (dVar 1) (dFn f_l_draw (dCons (dVar 0) (dCons (dCall (c1 lenP) (dCons (dVar 1) dNil)) dNil)))))
      sNil)
def f_l_choice : DF := fnB gc 2 2 b_l_choice
def b_l_scope : DS := (sCons (sSet 3 (dD0 (.dt [])))
      (sCons (sFor (.nm 4) (dRng1 (dCons (dFn f_l_draw (dCons (dVar 0) (dCons (dBin addW (dVar 2) (dC (.int 1))) dNil))) dNil)) (sCons (sPut (dVar 3) (dFn f_l_choice (dCons (dVar 0) (dCons (dVar 1) dNil))) (dC (.bool true)))
      sNil))
      (sCons (sRet (dCall (c1 tupP) (dCons (dFz (dCallN sortDG (dCons (dVar 3) dNil))) dNil)))
      sNil)))
def f_l_scope : DF := fnB gc 3 5 b_l_scope
def b_l_purse : DS := (sCons (sPar [3, 4] (dCons (dNew (dLst dNil)) (dCons (dC (.int 0)) dNil)))
      (sCons (sFor (.nm 5) (dRng1 (dCons (dFn f_l_draw (dCons (dVar 0) (dCons (dBin addW (dVar 2) (dC (.int 1))) dNil))) dNil)) (sCons (sSet 4 (dBin addW (dVar 4) (dFn f_l_choice (dCons (dVar 0) (dCons (dFz (dLst (dCons (dC (.int 0)) (dCons (dC (.int 1)) (dCons (dC (.int 2)) (dCons (dBin (on2 (i2 powI)) (dC (.int 10)) (dC (.int 20))) dNil)))))) dNil)))))
      (sCons (sDrop (dMeth "list" gApp (dVar 3) (dCons (dTup (dCons (dVar 4) (dCons (dFn f_l_scope (dCons (dVar 0) (dCons (dVar 1) (dCons (dC (.int 3)) dNil)))) dNil))) dNil)))
      (sCons (sSet 4 (dBin addW (dVar 4) (dC (.int 1))))
      sNil))))
      (sCons (sRet (dCall (c1 tupP) (dCons (dVar 3) dNil)))
      sNil)))
def f_l_purse : DF := fnB gc 3 6 b_l_purse
def b_l_table : DS := (sCons (sSet 2 (dSlA (dFz (dLst (dCons (dC (.str "a")) (dCons (dC (.str "bb")) (dCons (dC (.str "zzzzzzzz")) dNil))))) dNoP (dPt (dBin addW (dC (.int 1)) (dFn f_l_draw (dCons (dVar 0) (dCons (dC (.int 3)) dNil)))))))
      (sCons (sPar [3, 4] (dCons (dNew (dLst dNil)) (dCons (dD0 (.dt [])) dNil)))
      (sCons (sFor (.nm 5) (dAny (dVar 2)) (sCons (sSet 6 (dFn f_l_draw (dCons (dVar 0) (dCons (dC (.int 2)) dNil))))
      (sCons (sDrop (dMeth "list" gApp (dVar 3) (dCons (dSlA (dFz (dLst (dCons (dC (.str "p")) (dCons (dC (.str "q")) (dCons (dC (.str "r")) (dCons (dC (.str "s")) (dCons (dC (.str "tttttttt")) dNil))))))) (dPt (dVar 6)) (dPt (dBin addW (dC (.int 3)) (dFn f_l_draw (dCons (dVar 0) (dCons (dC (.int 3)) dNil)))))) dNil)))
      sNil)))
      (sCons (sFor (.nm 7) (dAny (dTup (dCons (dC (.int 0)) (dCons (dUn (on1 negI) (dC (.int 1))) dNil)))) (sCons (sPut (dVar 4) (dCall (c1 tupP) (dCons (dFz (dLc [8] (dAny (dVar 3)) (.nm 8) dYes (dIx (dVar 8) (dVar 7)))) dNil)) (dC (.bool true)))
      sNil))
      (sCons (sFor (.nm 7) (dRng1 (dCons (dFn f_l_draw (dCons (dVar 0) (dCons (dBin (on2 subP) (dVar 1) (dC (.int 1))) dNil))) dNil)) (sCons (sPut (dVar 4) (dCall (c1 tupP) (dCons (dFz (dLc [8] (dAny (dVar 3)) (.nm 8) dYes (dFn f_l_choice (dCons (dVar 0) (dCons (dVar 8) dNil))))) dNil)) (dC (.bool true)))
      sNil))
      (sCons (sRet (dTup (dCons (dCall (c1 tupP) (dCons (dVar 2) dNil)) (dCons (dCall (c1 tupP) (dCons (dFz (dCallN sortDG (dCons (dVar 4) dNil))) dNil)) dNil))))
      sNil))))))
def f_l_table : DF := fnB gc 2 9 b_l_table
def b_l_by_hand : DS := (sCons (sPar [0, 1, 2] (dCons (dTup (dCons (dC (.str "a")) (dCons (dC (.str "p")) dNil))) (dCons (dTup (dCons (dC (.str "a")) (dCons (dC (.str "q")) dNil))) (dCons (dTup (dCons (dC (.str "a")) (dCons (dC (.str "r")) dNil))) dNil))))
      (sCons (sSet 3 (dTup (dCons (dTup (dCons (dC (.int 0)) (dCons (dTup (dCons (dVar 0) (dCons (dVar 1) dNil))) dNil))) (dCons (dTup (dCons (dC (.int 3)) (dCons (dTup (dCons (dVar 1) (dCons (dVar 2) dNil))) dNil))) (dCons (dTup (dCons (dC (.int 4)) (dCons (dTup (dCons (dVar 2) dNil)) dNil))) (dCons (dTup (dCons (dC (.int 9)) (dCons (dTup (dCons (dVar 0) dNil)) dNil))) dNil))))))
      (sCons (sSet 4 (dFz (dLc [5] (dAny (dTup (dCons (dTup (dCons (dVar 0) (dCons (dVar 1) (dCons (dVar 2) dNil)))) (dCons (dTup (dCons (dVar 2) (dCons (dVar 1) (dCons (dVar 0) dNil)))) (dCons (dTup (dCons (dVar 1) (dCons (dVar 2) dNil))) (dCons (dTup (dCons (dVar 2) (dCons (dVar 0) dNil))) (dCons (dTup dNil) (dCons (dTup (dCons (dVar 0) dNil)) dNil)))))))) (.nm 5) dYes (dTup (dCons (dVar 3) (dCons (dVar 5) dNil))))))
      (sCons (sSet 4 (dBin addW (dVar 4) (dFz (dLst (dCons (dTup (dCons (dTup (dCons (dTup (dCons (dC (.int 0)) (dCons (dTup (dCons (dVar 0) (dCons (dVar 1) dNil))) dNil))) (dCons (dTup (dCons (dC (.int 1)) (dCons (dTup (dCons (dVar 0) dNil)) dNil))) dNil))) (dCons (dTup (dCons (dVar 0) (dCons (dVar 1) dNil))) dNil))) (dCons (dTup (dCons (dTup (dCons (dTup (dCons (dC (.int 0)) (dCons (dTup (dCons (dVar 0) (dCons (dVar 1) dNil))) dNil))) (dCons (dTup (dCons (dC (.int 1)) (dCons (dTup (dCons (dVar 1) (dCons (dVar 2) dNil))) dNil))) (dCons (dTup (dCons (dC (.int 2)) (dCons (dTup (dCons (dVar 0) dNil)) dNil))) dNil)))) (dCons (dTup (dCons (dVar 0) (dCons (dVar 1) (dCons (dVar 2) dNil)))) dNil))) dNil))))))
      (sCons (sSet 6 (dCall (c1 tupP) (dCons (dFz (dLc [7] (dRng1 (dCons (dC (.int 5)) dNil)) (.nm 7) dYes (dTup (dCons (dVar 7) (dCons (dTup (dCons (dVar 0) (dCons (dVar 1) (dCons (dVar 2) dNil)))) dNil))))) dNil)))
      (sCons (sSet 4 (dBin addW (dVar 4) (dFz (dLst (dCons (dTup (dCons (dVar 6) (dCons (dTup (dCons (dVar 2) (dCons (dVar 0) (dCons (dVar 1) dNil)))) dNil))) (dCons (dTup (dCons (dSlA (dVar 6) dNoP (dPt (dC (.int 2)))) (dCons (dTup (dCons (dVar 0) (dCons (dVar 1) (dCons (dVar 2) dNil)))) dNil))) (dCons (dTup (dCons (dTup dNil) (dCons (dTup dNil) dNil))) (dCons (dTup (dCons (dTup dNil) (dCons (dTup (dCons (dVar 0) dNil)) dNil))) dNil))))))))
      (sCons (sRet (dBin addW (dVar 4) (dFz (dLst (dCons (dTup (dCons (dTup (dCons (dTup (dCons (dC (.int 1)) (dCons (dTup dNil) dNil))) (dCons (dTup (dCons (dC (.int 2)) (dCons (dTup (dCons (dVar 0) dNil)) dNil))) dNil))) (dCons (dTup (dCons (dVar 0) dNil)) dNil))) (dCons (dTup (dCons (dTup (dCons (dTup (dCons (dC (.int 1)) (dCons (dTup (dCons (dVar 0) dNil)) dNil))) (dCons (dTup (dCons (dC (.int 2)) (dCons (dTup (dCons (dVar 0) dNil)) dNil))) (dCons (dTup (dCons (dC (.int 5)) (dCons (dTup (dCons (dVar 1) dNil)) dNil))) dNil)))) (dCons (dTup (dCons (dVar 0) (dCons (dVar 1) (dCons (dVar 2) dNil)))) dNil))) dNil))))))
      sNil)))))))
def f_l_by_hand : DF := fnB gc 0 8 b_l_by_hand
def b_l_payments : DS := (sCons (sSet 2 (dFz (dLst (dCons (dTup dNil) dNil))))
      (sCons (sFor (.nm 3) (dAny (dVar 1)) (sCons (sSet 4 (dNew (dLst dNil)))
      (sCons (sFor (.nm 5) (dAny (dVar 2)) (sCons (sDrop (dMeth "list" gExt (dVar 4) (dCons (dFz (dLc [6, 7] (dAny (dVar 0)) (.tp [6, 7]) (dAndT (dB (dBin (on2 (inP false)) (dVar 3) (dVar 7))) (dB (dBin (on2 (inP true)) (dVar 6) (dVar 5)))) (dBin addW (dVar 5) (dTup (dCons (dVar 6) dNil))))) dNil)))
      sNil))
      (sCons (sSet 2 (dVar 4))
      sNil))))
      (sCons (sRet (dVar 2))
      sNil)))
def f_l_payments : DF := fnB gc 2 8 b_l_payments
def b_find_coin (fself : DF) : DS := (sCons (sFor (.tp [5, 6]) (dAny (dVar 0)) (sCons (sIf (dAndT (dB (dBin (on2 (inP false)) (dIx (dVar 1) (dVar 2)) (dVar 6))) (dB (dBin (dhasW true) (dVar 5) (dVar 4)))) (sCons (sPut (dVar 4) (dVar 5) (dC (.bool true)))
      (sCons (sIf (dOrT (dB (dBin (dhasW true) (dVar 5) (dVar 3))) (dB (dFn fself (dCons (dVar 0) (dCons (dVar 1) (dCons (dGet (dVar 3) (dVar 5)) (dCons (dVar 3) (dCons (dVar 4) dNil)))))))) (sCons (sPut (dVar 3) (dVar 5) (dVar 2))
      (sCons (sRet (dC (.bool true)))
      sNil)) sNil)
      sNil)) sNil)
      sNil))
      (sCons (sRet (dC (.bool false)))
      sNil))
def f_find_coin : Nat → DF
  | 0 => noF
  | n + 1 => fnB gc 5 7 (b_find_coin (f_find_coin n))
def b_coins_for : DS := (sCons (sSet 2 (dD0 (.dk [])))
      (sCons (sFor (.nm 3) (dRng1 (dCons (dCall (c1 lenP) (dCons (dVar 1) dNil)) dNil)) (sCons (sIf (dNotT (dB (dFn (f_find_coin 7) (dCons (dVar 0) (dCons (dVar 1) (dCons (dVar 3) (dCons (dVar 2) (dCons (dD0 (.dk [])) dNil)))))))) (sCons (sRet (dC .none))
      sNil) sNil)
      sNil))
      (sCons (sSet 4 (dLockE 2 (dDc [5, 3] (dItems (dVar 2)) (.tp [5, 3]) dYes (dVar 3) (dVar 5))))
      (sCons (sRet (dCall (c1 tupP) (dCons (dFz (dLc [3] (dRng1 (dCons (dCall (c1 lenP) (dCons (dVar 1) dNil)) dNil)) (.nm 3) dYes (dGet (dVar 4) (dVar 3)))) dNil)))
      sNil))))
def f_coins_for : DF := fnB gc 2 6 b_coins_for
def b_l_agrees : DS := (sCons (sPar [2, 3] (dCons (dCall (c1 reprP) (dCons (dTup (dCons (dVar 0) (dCons (dVar 1) dNil))) dNil)) (dCons (dFn f_l_payments (dCons (dVar 0) (dCons (dVar 1) dNil))) dNil)))
      (sCons (sFor (.nm 4) (dAny (dTup (dCons (dFn f_coins_for (dCons (dVar 0) (dCons (dVar 1) dNil))) (dCons (dFnK f_coins_for [1, 0] (dCons (dVar 1) (dCons (dVar 0) dNil))) dNil)))) (sCons (sIf (dAndT (dB (dBin (on2 eqP) (dVar 3) (dFz (dLst dNil)))) (dB (dBin (isN true) (dVar 4) (dC .none)))) (sCons (sRet (dC (.bool false)))
      sNil) sNil)
      (sCons (sIf (dAndT (dB (dBin (on2 neP) (dVar 3) (dFz (dLst dNil)))) (dB (dBin (on2 (inP true)) (dCall (c1 reprP) (dCons (dVar 4) dNil)) (dFz (dLc [5] (dAny (dVar 3)) (.nm 5) dYes (dCall (c1 reprP) (dCons (dVar 5) dNil))))))) (sCons (sRet (dC (.bool false)))
      sNil) sNil)
      sNil)))
      (sCons (sRet (dBin (on2 eqP) (dCall (c1 reprP) (dCons (dTup (dCons (dVar 0) (dCons (dVar 1) dNil))) dNil)) (dVar 2)))
      sNil)))
def f_l_agrees : DF := fnB gc 2 6 b_l_agrees
def b_l_wanted : DS := (sCons (sPar [3, 4] (dCons (dNew (dCallN listG (dCons (dVar 1) dNil))) (dCons (dNew (dLst dNil)) dNil)))
      (sCons (sFor (.nm 5) (dRng1 (dCons (dFn f_l_draw (dCons (dVar 0) (dCons (dBin addW (dCall min2W (dCons (dVar 2) (dCons (dCall (c1 lenP) (dCons (dVar 3) dNil)) dNil))) (dC (.int 1))) dNil))) dNil)) (sCons (sDrop (dMeth "list" gApp (dVar 4) (dCons (dMeth "list" gPop (dVar 3) (dCons (dFn f_l_draw (dCons (dVar 0) (dCons (dCall (c1 lenP) (dCons (dVar 3) dNil)) dNil))) dNil)) dNil)))
      sNil))
      (sCons (sRet (dCall (c1 tupP) (dCons (dVar 4) dNil)))
      sNil)))
def f_l_wanted : DF := fnB gc 3 6 b_l_wanted
def b_l_reachable : DS := (sCons (sRet (dCall (c1 lenP) (dCons (dFz (dLc [2, 3] (dAny (dVar 0)) (.tp [2, 3]) (dB (dBin (on2 neP) (dFz (dLc [4] (dAny (dVar 3)) (.nm 4) (dB (dBin (on2 (inP false)) (dVar 4) (dVar 1))) (dVar 4))) (dFz (dLst dNil)))) (dVar 2))) dNil)))
      sNil)
def f_l_reachable : DF := fnB gc 2 5 b_l_reachable
def b_law : DS := (sCons (sSet 1 (dFn f_l_feed (dCons (dVar 0) dNil)))
      (sCons (sIf (dB (dBin (on2 neP) (dFz (dLc [2] (dAny (dFn f_l_by_hand dNil)) (.nm 2) (dNotT (dB (dFn f_l_agrees (dCons (dIx (dVar 2) (dC (.int 0))) (dCons (dIx (dVar 2) (dC (.int 1))) dNil))))) (dVar 2))) (dFz (dLst dNil)))) (sCons (sRet (dC (.bool false)))
      sNil) sNil)
      (sCons (sFor (.nm 3) (dRng1 (dCons (dC (.int 8)) dNil)) (sCons (sSet 4 (dFn f_l_pairs (dCons (dFn f_l_table (dCons (dVar 1) (dCons (dC (.int 9)) dNil))) dNil)))
      (sCons (sSet 5 (dFn f_l_purse (dCons (dVar 1) (dCons (dVar 4) (dCons (dC (.int 5)) dNil)))))
      (sCons (sFor (.nm 6) (dRng1 (dCons (dC (.int 5)) dNil)) (sCons (sIf (dNotT (dB (dFn f_l_agrees (dCons (dVar 5) (dCons (dFn f_l_wanted (dCons (dVar 1) (dCons (dVar 4) (dCons (dC (.int 5)) dNil)))) dNil))))) (sCons (sRet (dC (.bool false)))
      sNil) sNil)
      sNil))
      (sCons (sSet 7 (dFz (dSortSet (dFz (dLc [8] (dAny (dVar 4)) (.nm 8) (dB (dBin (on2 (i2 gtI)) (dFn f_l_reachable (dCons (dVar 5) (dCons (dTup (dCons (dVar 8) dNil)) dNil))) (dC (.int 0)))) (dVar 8))))))
      (sCons (sIf (dOrT (dNotT (dB (dFn f_l_agrees (dCons (dVar 5) (dCons (dCall (c1 tupP) (dCons (dSlA (dVar 7) dNoP (dPt (dC (.int 4)))) dNil)) dNil))))) (dNotT (dB (dFn f_l_agrees (dCons (dVar 5) (dCons (dCall (c1 tupP) (dCons (dSlA (dUn (on1 revP) (dVar 7)) dNoP (dPt (dC (.int 4)))) dNil)) dNil)))))) (sCons (sRet (dC (.bool false)))
      sNil) sNil)
      sNil))))))
      (sCons (sRet (dC (.bool true)))
      sNil))))
def f_law : DF := fnB gc 1 9 b_law
section
variable {P : Program} {w : World} {K : PySem.W.Frag} {mg : Str → Option Value} {base : Heap}
theorem c_l_feed (M : Mo K mg) : CalG P w K mg base 1 "_law_feed" f_l_feed :=
  calG M.d_l_feed gcNew_ok sc_l_feed (d := b_l_feed) <| fun f cdv A outer s H E hgd hr => by
    have hu := hr.units
    have hu1 := hu_of hr
    have hu5 := hu5_of hr
    exact (ss_cons (s_ret (e_disp (sp_cons (e_fz (n_callTy (hv := bo_list) b_list M.z_list (a_cons (e_slA (e_var 0) p_no (p_e e_int)) a_nil))) (sp_cons e_int (sp_cons e_int (sp_cons e_int sp_nil))))))
      ss_nil)
theorem c_l_pairs (M : Mo K mg) : CalG P w K mg base 1 "_law_pairs" f_l_pairs :=
  calG M.d_l_pairs gc_ok sc_l_pairs (d := b_l_pairs) <| fun f cdv A outer s H E hgd hr => by
    have hu := hr.units
    have hu1 := hu_of hr
    have hu5 := hu5_of hr
    exact (ss_cons (s_set 1 sc_l_pairs.nd e_dt0)
      (ss_cons (s_for (i_any (e_ix (e_var 0) e_int)) (g_nm 2 sc_l_pairs.nd) (ss_cons (s_expr (e_update hu (e_var 1) (a_cons (e_fz (n_lc [("_law_pair", 3)] sc_l_pairs.nd (i_zipN M.z_zip (a_cons (e_ix (e_var 0) e_int) (a_cons (e_var 2) a_nil))) (blkOk_by (by kernel_rfl)) (fun _ _ _ _ _ => (g_nm 3 sc_l_pairs.nd)) (fun _ _ _ _ _ => ts_nil) (fun _ _ _ _ _ => (e_tup (a_cons (e_var 3) (a_cons e_bl a_nil)))))) a_nil)))
      ss_nil))
      (ss_cons (s_ret (e_fz (n_callB (hv := bo_sorted) (b_sortedD hu) M.z_sorted (a_cons (e_var 1) a_nil))))
      ss_nil)))
theorem c_l_draw (M : Mo K mg) : CalG P w K mg base 1 "_law_draw" f_l_draw :=
  calG M.d_l_draw gc_ok sc_l_draw (d := b_l_draw) <| fun f cdv A outer s H E hgd hr => by
    have hu := hr.units
    have hu1 := hu_of hr
    have hu5 := hu5_of hr
    exact (ss_cons (s_put hu1 (e_var 0) e_str (e_bin o_add (e_dget hu1 (e_var 0) e_str) e_int))
      (ss_cons (s_if (t_cmp o_gtI (e_dget hu1 (e_var 0) e_str) e_int) (ss_cons (s_set 2 sc_l_draw.nd (e_bin o_mod (e_dget hu1 (e_var 0) e_str) (e_var 1)))
      (ss_cons (s_put hu1 (e_var 0) e_str (e_bin o_div (e_dget hu1 (e_var 0) e_str) (e_var 1)))
      (ss_cons (s_ret (e_var 2))
      ss_nil))) ss_nil)
      (ss_cons (s_set 3 sc_l_draw.nd (e_dget hu1 (e_var 0) e_str))
      (ss_cons (s_put hu1 (e_var 0) e_str (e_bin o_add (e_var 3) e_int))
      (ss_cons (s_set 4 sc_l_draw.nd (e_if (t_cmp (o_ne hu) (e_dget hu1 (e_var 0) e_str) (e_fz (n_lst a_nil))) (e_ix (e_dget hu1 (e_var 0) e_str) (e_bin o_mod (e_var 3) (e_callB (hv := bo_len) b_len M.z_len (a_cons (e_dget hu1 (e_var 0) e_str) a_nil)))) e_int))
      (ss_cons (s_if (L2.PW.pt (t_and (t_cmp o_geI (e_var 4) (e_bin o_pow e_int e_int)) (t_and1 (t_cmp (o_lt hu) (e_var 3) (e_callB (hv := bo_len) b_len M.z_len (a_cons (e_dget hu1 (e_var 0) e_str) a_nil)))))) (ss_cons (s_put hu1 (e_var 0) e_str (e_bin o_div (e_var 4) (e_var 1)))
      (ss_cons (s_ret (e_bin o_mod (e_var 4) (e_var 1)))
      ss_nil)) ss_nil)
      (ss_cons (s_set 5 sc_l_draw.nd (e_bin o_mod (e_bin o_add (e_bin o_add (e_bin o_mod (e_var 4) e_int) (e_bin o_mul e_int (e_dget hu1 (e_var 0) e_str))) e_int) e_int))
      (ss_cons (s_set 5 sc_l_draw.nd (e_bin o_mod (e_bin o_add (e_bin o_add (e_bin o_mul (e_var 5) (e_var 5)) (e_bin o_mul e_int (e_dget hu1 (e_var 0) e_str))) e_int) e_int))
      (ss_cons (s_ret (e_bin o_mod (e_bin o_div (e_bin o_mod (e_bin o_add (e_bin o_mul (e_var 5) (e_var 5)) (e_bin o_mul e_int (e_var 5))) e_int) e_int) (e_var 1)))
      ss_nil)))))))))
theorem c_l_choice (M : Mo K mg) : CalG P w K mg base 2 "_law_choice" f_l_choice :=
  calG M.d_l_choice gc_ok sc_l_choice (d := b_l_choice) <| fun f cdv A outer s H E hgd hr => by
    have hu := hr.units
    have hu1 := hu_of hr
    have hu5 := hu5_of hr
    exact (ss_cons (s_ret (e_ix (e_var 1) (e_call (c_l_draw M) hgd hr (a_cons (e_var 0) (a_cons (e_callB (hv := bo_len) b_len M.z_len (a_cons (e_var 1) a_nil)) a_nil)))))
      ss_nil)
theorem c_l_scope (M : Mo K mg) : CalG P w K mg base 3 "_law_scope" f_l_scope :=
  calG M.d_l_scope gc_ok sc_l_scope (d := b_l_scope) <| fun f cdv A outer s H E hgd hr => by
    have hu := hr.units
    have hu1 := hu_of hr
    have hu5 := hu5_of hr
    exact (ss_cons (s_set 3 sc_l_scope.nd e_dt0)
      (ss_cons (s_for (i_rng1 M.z_range (a_cons (e_call (c_l_draw M) hgd hr (a_cons (e_var 0) (a_cons (e_bin o_add (e_var 2) e_int) a_nil))) a_nil)) (g_nm 4 sc_l_scope.nd) (ss_cons (s_put hu1 (e_var 3) (e_call (c_l_choice M) hgd hr (a_cons (e_var 0) (a_cons (e_var 1) a_nil))) e_bl)
      ss_nil))
      (ss_cons (s_ret (e_callTy (hv := bo_tuple) b_tuple M.z_tuple (a_cons (e_fz (n_callB (hv := bo_sorted) (b_sortedD hu) M.z_sorted (a_cons (e_var 3) a_nil))) a_nil)))
      ss_nil)))
theorem c_l_purse (M : Mo K mg) : CalG P w K mg base 4 "_law_purse" f_l_purse :=
  calG M.d_l_purse gc_ok sc_l_purse (d := b_l_purse) <| fun f cdv A outer s H E hgd hr => by
    have hu := hr.units
    have hu1 := hu_of hr
    have hu5 := hu5_of hr
    exact (ss_cons (by first | exact s_par2 3 4 sc_l_purse.nd (a_cons (e_new (n_lst a_nil)) (a_cons e_int a_nil)) | exact s_parT (g_cons 3 sc_l_purse.nd (g_cons 4 sc_l_purse.nd g_nil)) (a_cons (e_new (n_lst a_nil)) (a_cons e_int a_nil)))
      (ss_cons (s_for (i_rng1 M.z_range (a_cons (e_call (c_l_draw M) hgd hr (a_cons (e_var 0) (a_cons (e_bin o_add (e_var 2) e_int) a_nil))) a_nil)) (g_nm 5 sc_l_purse.nd) (ss_cons (s_set 4 sc_l_purse.nd (e_bin o_add (e_var 4) (e_call (c_l_choice M) hgd hr (a_cons (e_var 0) (a_cons (e_fz (n_lst (a_cons e_int (a_cons e_int (a_cons e_int (a_cons (e_bin o_pow e_int e_int) a_nil)))))) a_nil)))))
      (ss_cons (s_expr (e_append (e_var 3) (a_cons (e_tup (a_cons (e_var 4) (a_cons (e_call (c_l_scope M) hgd hr (a_cons (e_var 0) (a_cons (e_var 1) (a_cons e_int a_nil)))) a_nil))) a_nil)))
      (ss_cons (s_set 4 sc_l_purse.nd (e_bin o_add (e_var 4) e_int))
      ss_nil))))
      (ss_cons (s_ret (e_callTy (hv := bo_tuple) b_tuple M.z_tuple (a_cons (e_var 3) a_nil)))
      ss_nil)))
theorem c_l_table (M : Mo K mg) : CalG P w K mg base 3 "_law_table" f_l_table :=
  calG M.d_l_table gc_ok sc_l_table (d := b_l_table) <| fun f cdv A outer s H E hgd hr => by
    have hu := hr.units
    have hu1 := hu_of hr
    have hu5 := hu5_of hr
    exact (ss_cons (s_set 2 sc_l_table.nd (e_slA (e_fz (n_lst (a_cons e_str (a_cons e_str (a_cons e_str a_nil))))) p_no (p_e (e_bin o_add e_int (e_call (c_l_draw M) hgd hr (a_cons (e_var 0) (a_cons e_int a_nil)))))))
      (ss_cons (by first | exact s_par2 3 4 sc_l_table.nd (a_cons (e_new (n_lst a_nil)) (a_cons e_dt0 a_nil)) | exact s_parT (g_cons 3 sc_l_table.nd (g_cons 4 sc_l_table.nd g_nil)) (a_cons (e_new (n_lst a_nil)) (a_cons e_dt0 a_nil)))
      (ss_cons (s_for (i_any (e_var 2)) (g_nm 5 sc_l_table.nd) (ss_cons (s_set 6 sc_l_table.nd (e_call (c_l_draw M) hgd hr (a_cons (e_var 0) (a_cons e_int a_nil))))
      (ss_cons (s_expr (e_append (e_var 3) (a_cons (e_slA (e_fz (n_lst (a_cons e_str (a_cons e_str (a_cons e_str (a_cons e_str (a_cons e_str a_nil))))))) (p_e (e_var 6)) (p_e (e_bin o_add e_int (e_call (c_l_draw M) hgd hr (a_cons (e_var 0) (a_cons e_int a_nil)))))) a_nil)))
      ss_nil)))
      (ss_cons (s_for (i_any (e_tup (a_cons e_int (a_cons (e_un o_neg e_int) a_nil)))) (g_nm 7 sc_l_table.nd) (ss_cons (s_put hu1 (e_var 4) (e_callTy (hv := bo_tuple) b_tuple M.z_tuple (a_cons (e_fz (n_lc [("_law_some", 8)] sc_l_table.nd (i_any (e_var 3)) (blkOk_by (by kernel_rfl)) (fun _ _ _ _ _ => (g_nm 8 sc_l_table.nd)) (fun _ _ _ _ _ => ts_nil) (fun _ _ _ _ _ => (e_ix (e_var 8) (e_var 7))))) a_nil)) e_bl)
      ss_nil))
      (ss_cons (s_for (i_rng1 M.z_range (a_cons (e_call (c_l_draw M) hgd hr (a_cons (e_var 0) (a_cons (e_bin o_sub (e_var 1) e_int) a_nil))) a_nil)) (g_nm 7 sc_l_table.nd) (ss_cons (s_put hu1 (e_var 4) (e_callTy (hv := bo_tuple) b_tuple M.z_tuple (a_cons (e_fz (n_lc [("_law_some", 8)] sc_l_table.nd (i_any (e_var 3)) (blkOk_by (by kernel_rfl)) (fun _ _ _ _ _ => (g_nm 8 sc_l_table.nd)) (fun _ _ _ _ _ => ts_nil) (fun _ _ _ _ _ => (e_call (c_l_choice M) hgd hr (a_cons (e_var 0) (a_cons (e_var 8) a_nil)))))) a_nil)) e_bl)
      ss_nil))
      (ss_cons (s_ret (e_tup (a_cons (e_callTy (hv := bo_tuple) b_tuple M.z_tuple (a_cons (e_var 2) a_nil)) (a_cons (e_callTy (hv := bo_tuple) b_tuple M.z_tuple (a_cons (e_fz (n_callB (hv := bo_sorted) (b_sortedD hu) M.z_sorted (a_cons (e_var 4) a_nil))) a_nil)) a_nil))))
      ss_nil))))))
theorem c_l_by_hand (M : Mo K mg) : CalG P w K mg base 1 "_law_by_hand" f_l_by_hand :=
  calG M.d_l_by_hand gc_ok sc_l_by_hand (d := b_l_by_hand) <| fun f cdv A outer s H E hgd hr => by
    have hu := hr.units
    have hu1 := hu_of hr
    have hu5 := hu5_of hr
    exact (ss_cons (s_parT (g_cons 0 sc_l_by_hand.nd (g_cons 1 sc_l_by_hand.nd (g_cons 2 sc_l_by_hand.nd g_nil))) (a_cons (e_tup (a_cons e_str (a_cons e_str a_nil))) (a_cons (e_tup (a_cons e_str (a_cons e_str a_nil))) (a_cons (e_tup (a_cons e_str (a_cons e_str a_nil))) a_nil))))
      (ss_cons (s_set 3 sc_l_by_hand.nd (e_tup (a_cons (e_tup (a_cons e_int (a_cons (e_tup (a_cons (e_var 0) (a_cons (e_var 1) a_nil))) a_nil))) (a_cons (e_tup (a_cons e_int (a_cons (e_tup (a_cons (e_var 1) (a_cons (e_var 2) a_nil))) a_nil))) (a_cons (e_tup (a_cons e_int (a_cons (e_tup (a_cons (e_var 2) a_nil)) a_nil))) (a_cons (e_tup (a_cons e_int (a_cons (e_tup (a_cons (e_var 0) a_nil)) a_nil))) a_nil))))))
      (ss_cons (by first | exact s_setLc 4 [("_law_some", 5)] sc_l_by_hand.nd (i_any (e_tup (a_cons (e_tup (a_cons (e_var 0) (a_cons (e_var 1) (a_cons (e_var 2) a_nil)))) (a_cons (e_tup (a_cons (e_var 2) (a_cons (e_var 1) (a_cons (e_var 0) a_nil)))) (a_cons (e_tup (a_cons (e_var 1) (a_cons (e_var 2) a_nil))) (a_cons (e_tup (a_cons (e_var 2) (a_cons (e_var 0) a_nil))) (a_cons (e_tup a_nil) (a_cons (e_tup (a_cons (e_var 0) a_nil)) a_nil)))))))) (blkOk_by (by kernel_rfl)) (fun _ _ _ _ _ => (g_nm 5 sc_l_by_hand.nd)) (fun _ _ _ _ _ => ts_nil) (fun _ _ _ _ _ => (e_tup (a_cons (e_var 3) (a_cons (e_var 5) a_nil)))) (by rfl) | exact s_set 4 sc_l_by_hand.nd (e_fz (n_lc [("_law_some", 5)] sc_l_by_hand.nd (i_any (e_tup (a_cons (e_tup (a_cons (e_var 0) (a_cons (e_var 1) (a_cons (e_var 2) a_nil)))) (a_cons (e_tup (a_cons (e_var 2) (a_cons (e_var 1) (a_cons (e_var 0) a_nil)))) (a_cons (e_tup (a_cons (e_var 1) (a_cons (e_var 2) a_nil))) (a_cons (e_tup (a_cons (e_var 2) (a_cons (e_var 0) a_nil))) (a_cons (e_tup a_nil) (a_cons (e_tup (a_cons (e_var 0) a_nil)) a_nil)))))))) (blkOk_by (by kernel_rfl)) (fun _ _ _ _ _ => (g_nm 5 sc_l_by_hand.nd)) (fun _ _ _ _ _ => ts_nil) (fun _ _ _ _ _ => (e_tup (a_cons (e_var 3) (a_cons (e_var 5) a_nil)))))))
      (ss_cons (s_set 4 sc_l_by_hand.nd (e_bin o_add (e_var 4) (e_fz (n_lst (a_cons (e_tup (a_cons (e_tup (a_cons (e_tup (a_cons e_int (a_cons (e_tup (a_cons (e_var 0) (a_cons (e_var 1) a_nil))) a_nil))) (a_cons (e_tup (a_cons e_int (a_cons (e_tup (a_cons (e_var 0) a_nil)) a_nil))) a_nil))) (a_cons (e_tup (a_cons (e_var 0) (a_cons (e_var 1) a_nil))) a_nil))) (a_cons (e_tup (a_cons (e_tup (a_cons (e_tup (a_cons e_int (a_cons (e_tup (a_cons (e_var 0) (a_cons (e_var 1) a_nil))) a_nil))) (a_cons (e_tup (a_cons e_int (a_cons (e_tup (a_cons (e_var 1) (a_cons (e_var 2) a_nil))) a_nil))) (a_cons (e_tup (a_cons e_int (a_cons (e_tup (a_cons (e_var 0) a_nil)) a_nil))) a_nil)))) (a_cons (e_tup (a_cons (e_var 0) (a_cons (e_var 1) (a_cons (e_var 2) a_nil)))) a_nil))) a_nil))))))
      (ss_cons (s_set 6 sc_l_by_hand.nd (e_callTy (hv := bo_tuple) b_tuple M.z_tuple (a_cons (e_fz (n_lc [("_law_k", 7)] sc_l_by_hand.nd (i_rng1 M.z_range (a_cons e_int a_nil)) (blkOk_by (by kernel_rfl)) (fun _ _ _ _ _ => (g_nm 7 sc_l_by_hand.nd)) (fun _ _ _ _ _ => ts_nil) (fun _ _ _ _ _ => (e_tup (a_cons (e_var 7) (a_cons (e_tup (a_cons (e_var 0) (a_cons (e_var 1) (a_cons (e_var 2) a_nil)))) a_nil)))))) a_nil)))
      (ss_cons (s_set 4 sc_l_by_hand.nd (e_bin o_add (e_var 4) (e_fz (n_lst (a_cons (e_tup (a_cons (e_var 6) (a_cons (e_tup (a_cons (e_var 2) (a_cons (e_var 0) (a_cons (e_var 1) a_nil)))) a_nil))) (a_cons (e_tup (a_cons (e_slA (e_var 6) p_no (p_e e_int)) (a_cons (e_tup (a_cons (e_var 0) (a_cons (e_var 1) (a_cons (e_var 2) a_nil)))) a_nil))) (a_cons (e_tup (a_cons (e_tup a_nil) (a_cons (e_tup a_nil) a_nil))) (a_cons (e_tup (a_cons (e_tup a_nil) (a_cons (e_tup (a_cons (e_var 0) a_nil)) a_nil))) a_nil))))))))
      (ss_cons (s_ret (e_bin o_add (e_var 4) (e_fz (n_lst (a_cons (e_tup (a_cons (e_tup (a_cons (e_tup (a_cons e_int (a_cons (e_tup a_nil) a_nil))) (a_cons (e_tup (a_cons e_int (a_cons (e_tup (a_cons (e_var 0) a_nil)) a_nil))) a_nil))) (a_cons (e_tup (a_cons (e_var 0) a_nil)) a_nil))) (a_cons (e_tup (a_cons (e_tup (a_cons (e_tup (a_cons e_int (a_cons (e_tup (a_cons (e_var 0) a_nil)) a_nil))) (a_cons (e_tup (a_cons e_int (a_cons (e_tup (a_cons (e_var 0) a_nil)) a_nil))) (a_cons (e_tup (a_cons e_int (a_cons (e_tup (a_cons (e_var 1) a_nil)) a_nil))) a_nil)))) (a_cons (e_tup (a_cons (e_var 0) (a_cons (e_var 1) (a_cons (e_var 2) a_nil)))) a_nil))) a_nil))))))
      ss_nil)))))))
theorem c_l_payments (M : Mo K mg) : CalG P w K mg base 1 "_law_payments" f_l_payments :=
  calG M.d_l_payments gc_ok sc_l_payments (d := b_l_payments) <| fun f cdv A outer s H E hgd hr => by
    have hu := hr.units
    have hu1 := hu_of hr
    have hu5 := hu5_of hr
    exact (ss_cons (s_set 2 sc_l_payments.nd (e_fz (n_lst (a_cons (e_tup a_nil) a_nil))))
      (ss_cons (s_for (i_any (e_var 1)) (g_nm 3 sc_l_payments.nd) (ss_cons (s_set 4 sc_l_payments.nd (e_new (n_lst a_nil)))
      (ss_cons (s_for (i_any (e_var 2)) (g_nm 5 sc_l_payments.nd) (ss_cons (s_expr (e_extend (e_var 4) (a_cons (e_fz (n_lc [("_law_number", 6), ("_law_scope_here", 7)] sc_l_payments.nd (i_any (e_var 0)) (blkOk_by (by kernel_rfl)) (fun _ _ _ _ _ => (g_tp (g_cons 6 sc_l_payments.nd (g_cons 7 sc_l_payments.nd g_nil)))) (fun _ _ _ _ _ => (ts_one (L2.PW.pt (t_and (t_cmp (o_in hu5) (e_var 3) (e_var 7)) (t_and1 (t_cmp (o_notin hu5) (e_var 6) (e_var 5))))))) (fun _ _ _ _ _ => (e_bin o_add (e_var 5) (e_tup (a_cons (e_var 6) a_nil)))))) a_nil)))
      ss_nil))
      (ss_cons (s_set 2 sc_l_payments.nd (e_var 4))
      ss_nil))))
      (ss_cons (s_ret (e_var 2))
      ss_nil)))
theorem c_find_coin (M : Mo K mg) : ∀ n : Nat, CalG P w K mg base (0 + n) "find_coin" (f_find_coin n)
  | 0 => calG_none M.d_find_coin
  | n + 1 => calG (k := 0 + n) M.d_find_coin gc_ok sc_find_coin (d := b_find_coin (f_find_coin n)) <| fun f cdv A outer s H E hgd hr => by
    have hu := hr.units
    have hu1 := hu_of hr
    have hu5 := hu5_of hr
    exact (have cself := c_find_coin M n
    (ss_cons (s_for (i_any (e_var 0)) (g_tp (g_cons 5 sc_find_coin.nd (g_cons 6 sc_find_coin.nd g_nil))) (ss_cons (s_if (L2.PW.pt (t_and (t_cmp (o_in hu5) (e_ix (e_var 1) (e_var 2)) (e_var 6)) (t_and1 (t_dhasnt hu1 (e_var 5) (e_var 4))))) (ss_cons (s_put hu1 (e_var 4) (e_var 5) e_bl)
      (ss_cons (s_if (L2.PW.pt (t_or (t_dhasnt hu1 (e_var 5) (e_var 3)) (t_or1 (t_val (e_call (hk := by omega) cself hgd hr (a_cons (e_var 0) (a_cons (e_var 1) (a_cons (e_dget hu1 (e_var 3) (e_var 5)) (a_cons (e_var 3) (a_cons (e_var 4) a_nil)))))))))) (ss_cons (s_put hu1 (e_var 3) (e_var 5) (e_var 2))
      (ss_cons (s_ret e_bl)
      ss_nil)) ss_nil)
      ss_nil)) ss_nil)
      ss_nil))
      (ss_cons (s_ret e_bl)
      ss_nil)))
theorem c_coins_for (M : Mo K mg) : CalG P w K mg base 8 "coins_for" f_coins_for :=
  calG M.d_coins_for gc_ok sc_coins_for (d := b_coins_for) <| fun f cdv A outer s H E hgd hr => by
    have hu := hr.units
    have hu1 := hu_of hr
    have hu5 := hu5_of hr
    exact (ss_cons (s_set 2 sc_coins_for.nd e_dk0)
      (ss_cons (s_for (i_rng1 M.z_range (a_cons (e_callB (hv := bo_len) b_len M.z_len (a_cons (e_var 1) a_nil)) a_nil)) (g_nm 3 sc_coins_for.nd) (ss_cons (s_if (t_not (t_val (e_call (c_find_coin M 7) hgd hr (a_cons (e_var 0) (a_cons (e_var 1) (a_cons (e_var 3) (a_cons (e_var 2) (a_cons e_dk0 a_nil)))))))) (ss_cons (s_ret e_non)
      ss_nil) ss_nil)
      ss_nil))
      (ss_cons (s_set 4 sc_coins_for.nd (e_lock 2 (e_dc [("number", 5), ("k", 3)] sc_coins_for.nd (i_items (e_var 2)) (blkOk_by (by kernel_rfl)) (fun _ _ _ _ _ => (g_tp (g_cons 5 sc_coins_for.nd (g_cons 3 sc_coins_for.nd g_nil)))) (fun _ _ _ _ _ => ts_nil) (fun _ _ _ _ _ => (e_var 3)) (fun _ _ _ _ _ => (e_var 5)))))
      (ss_cons (s_ret (e_callTy (hv := bo_tuple) b_tuple M.z_tuple (a_cons (e_fz (n_lc [("k", 3)] sc_coins_for.nd (i_rng1 M.z_range (a_cons (e_callB (hv := bo_len) b_len M.z_len (a_cons (e_var 1) a_nil)) a_nil)) (blkOk_by (by kernel_rfl)) (fun _ _ _ _ _ => (g_nm 3 sc_coins_for.nd)) (fun _ _ _ _ _ => ts_nil) (fun _ _ _ _ _ => (e_dget hu1 (e_var 4) (e_var 3))))) a_nil)))
      ss_nil))))
theorem c_l_agrees (M : Mo K mg) : CalG P w K mg base 9 "_law_agrees" f_l_agrees :=
  calG M.d_l_agrees gc_ok sc_l_agrees (d := b_l_agrees) <| fun f cdv A outer s H E hgd hr => by
    have hu := hr.units
    have hu1 := hu_of hr
    have hu5 := hu5_of hr
    exact (ss_cons (by first | exact s_par2 2 3 sc_l_agrees.nd (a_cons (e_callB (hv := bo_repr) (b_repr hgd hu) M.z_repr (a_cons (e_tup (a_cons (e_var 0) (a_cons (e_var 1) a_nil))) a_nil)) (a_cons (e_call (c_l_payments M) hgd hr (a_cons (e_var 0) (a_cons (e_var 1) a_nil))) a_nil)) | exact s_parT (g_cons 2 sc_l_agrees.nd (g_cons 3 sc_l_agrees.nd g_nil)) (a_cons (e_callB (hv := bo_repr) (b_repr hgd hu) M.z_repr (a_cons (e_tup (a_cons (e_var 0) (a_cons (e_var 1) a_nil))) a_nil)) (a_cons (e_call (c_l_payments M) hgd hr (a_cons (e_var 0) (a_cons (e_var 1) a_nil))) a_nil)))
      (ss_cons (s_for (i_any (e_tup (a_cons (e_call (c_coins_for M) hgd hr (a_cons (e_var 0) (a_cons (e_var 1) a_nil))) (a_cons (e_callK (c_coins_for M) M.d_coins_for hgd hr (k_cons (e_var 1) (k_cons (e_var 0) k_nil)) (fun _ _ _ _ _ _ us hl => match us, hl with | [_, _], _ => rfl)) a_nil)))) (g_nm 4 sc_l_agrees.nd) (ss_cons (s_if (L2.PW.pt (t_and (t_cmp (o_eq hu) (e_var 3) (e_fz (n_lst a_nil))) (t_and1 (t_cmp o_isnot (e_var 4) e_non)))) (ss_cons (s_ret e_bl)
      ss_nil) ss_nil)
      (ss_cons (s_if (L2.PW.pt (t_and (t_cmp (o_ne hu) (e_var 3) (e_fz (n_lst a_nil))) (t_and1 (t_cmp (o_notin hu5) (e_callB (hv := bo_repr) (b_repr hgd hu) M.z_repr (a_cons (e_var 4) a_nil)) (e_fz (n_lc [("_law_one", 5)] sc_l_agrees.nd (i_any (e_var 3)) (blkOk_by (by kernel_rfl)) (fun _ _ _ _ _ => (g_nm 5 sc_l_agrees.nd)) (fun _ _ _ _ _ => ts_nil) (fun _ _ _ _ _ => (e_callB (hv := bo_repr) (b_repr hgd hu) M.z_repr (a_cons (e_var 5) a_nil))))))))) (ss_cons (s_ret e_bl)
      ss_nil) ss_nil)
      ss_nil)))
      (ss_cons (s_ret (e_cmp (o_eq hu) (e_callB (hv := bo_repr) (b_repr hgd hu) M.z_repr (a_cons (e_tup (a_cons (e_var 0) (a_cons (e_var 1) a_nil))) a_nil)) (e_var 2)))
      ss_nil)))
theorem c_l_wanted (M : Mo K mg) : CalG P w K mg base 2 "_law_wanted" f_l_wanted :=
  calG M.d_l_wanted gc_ok sc_l_wanted (d := b_l_wanted) <| fun f cdv A outer s H E hgd hr => by
    have hu := hr.units
    have hu1 := hu_of hr
    have hu5 := hu5_of hr
    exact (ss_cons (by first | exact s_par2 3 4 sc_l_wanted.nd (a_cons (e_new (n_callTy (hv := bo_list) b_list M.z_list (a_cons (e_var 1) a_nil))) (a_cons (e_new (n_lst a_nil)) a_nil)) | exact s_parT (g_cons 3 sc_l_wanted.nd (g_cons 4 sc_l_wanted.nd g_nil)) (a_cons (e_new (n_callTy (hv := bo_list) b_list M.z_list (a_cons (e_var 1) a_nil))) (a_cons (e_new (n_lst a_nil)) a_nil)))
      (ss_cons (s_for (i_rng1 M.z_range (a_cons (e_call (c_l_draw M) hgd hr (a_cons (e_var 0) (a_cons (e_bin o_add (e_callB (hv := bo_min) b_min2 M.z_min (a_cons (e_var 2) (a_cons (e_callB (hv := bo_len) b_len M.z_len (a_cons (e_var 3) a_nil)) a_nil))) e_int) a_nil))) a_nil)) (g_nm 5 sc_l_wanted.nd) (ss_cons (s_expr (e_append (e_var 4) (a_cons (e_pop (e_var 3) (a_cons (e_call (c_l_draw M) hgd hr (a_cons (e_var 0) (a_cons (e_callB (hv := bo_len) b_len M.z_len (a_cons (e_var 3) a_nil)) a_nil))) a_nil)) a_nil)))
      ss_nil))
      (ss_cons (s_ret (e_callTy (hv := bo_tuple) b_tuple M.z_tuple (a_cons (e_var 4) a_nil)))
      ss_nil)))
theorem c_l_reachable (M : Mo K mg) : CalG P w K mg base 1 "_law_reachable" f_l_reachable :=
  calG M.d_l_reachable gc_ok sc_l_reachable (d := b_l_reachable) <| fun f cdv A outer s H E hgd hr => by
    have hu := hr.units
    have hu1 := hu_of hr
    have hu5 := hu5_of hr
    exact (ss_cons (s_ret (e_callB (hv := bo_len) b_len M.z_len (a_cons (e_fz (n_lc [("_law_number", 2), ("_law_scope_here", 3)] sc_l_reachable.nd (i_any (e_var 0)) (blkOk_by (by kernel_rfl)) (fun _ _ _ _ _ => (g_tp (g_cons 2 sc_l_reachable.nd (g_cons 3 sc_l_reachable.nd g_nil)))) (fun _ _ _ _ _ => (ts_one (t_cmp (o_ne hu) (e_fz (n_lc [("_law_pair", 4)] sc_l_reachable.nd (i_any (e_var 3)) (blkOk_by (by kernel_rfl)) (fun _ _ _ _ _ => (g_nm 4 sc_l_reachable.nd)) (fun _ _ _ _ _ => (ts_one (t_cmp (o_in hu5) (e_var 4) (e_var 1)))) (fun _ _ _ _ _ => (e_var 4)))) (e_fz (n_lst a_nil))))) (fun _ _ _ _ _ => (e_var 2)))) a_nil)))
      ss_nil)
theorem g_law {f : Addr} {fd : FuncData} (M : Mo K mg) (F : Fun K "law" "law" st_law f fd) : FnG P w K mg base CX0 10 f fd ["_law_script"] (spF K mg f_law) :=
  mk_fn (N := ["_law_script", "_law_feed_here", "_law_case", "_law_attempt", "_law_every", "_law_purse_here", "_law_k", "_law_tried", "_law_pair"]) (ps := ["_law_script"]) (d := b_law) gc_ok F sc_law <| fun cdv A outer s H E hgd hr => by
    have hu := hr.units
    have hu1 := hu_of hr
    have hu5 := hu5_of hr
    exact (ss_cons (s_set 1 sc_law.nd (e_call (c_l_feed M) hgd hr (a_cons (e_var 0) a_nil)))
      (ss_cons (s_if (t_cmp (o_ne hu) (e_fz (n_lc [("_law_case", 2)] sc_law.nd (i_any (e_call0 (c_l_by_hand M) hgd hr)) (blkOk_by (by kernel_rfl)) (fun _ _ _ _ _ => (g_nm 2 sc_law.nd)) (fun _ _ _ _ _ => (ts_one (t_not (t_val (e_call (c_l_agrees M) hgd hr (a_cons (e_ix (e_var 2) e_int) (a_cons (e_ix (e_var 2) e_int) a_nil))))))) (fun _ _ _ _ _ => (e_var 2)))) (e_fz (n_lst a_nil))) (ss_cons (s_ret e_bl)
      ss_nil) ss_nil)
      (ss_cons (s_for (i_rng1 M.z_range (a_cons e_int a_nil)) (g_nm 3 sc_law.nd) (ss_cons (s_set 4 sc_law.nd (e_call (c_l_pairs M) hgd hr (a_cons (e_call (c_l_table M) hgd hr (a_cons (e_var 1) (a_cons e_int a_nil))) a_nil)))
      (ss_cons (s_set 5 sc_law.nd (e_call (c_l_purse M) hgd hr (a_cons (e_var 1) (a_cons (e_var 4) (a_cons e_int a_nil)))))
      (ss_cons (s_for (i_rng1 M.z_range (a_cons e_int a_nil)) (g_nm 6 sc_law.nd) (ss_cons (s_if (t_not (t_val (e_call (c_l_agrees M) hgd hr (a_cons (e_var 5) (a_cons (e_call (c_l_wanted M) hgd hr (a_cons (e_var 1) (a_cons (e_var 4) (a_cons e_int a_nil)))) a_nil))))) (ss_cons (s_ret e_bl)
      ss_nil) ss_nil)
      ss_nil))
      (ss_cons (s_set 7 sc_law.nd (e_fz (n_sortedSet hu5 M.z_sorted M.z_set (e_fz (n_lc [("_law_pair", 8)] sc_law.nd (i_any (e_var 4)) (blkOk_by (by kernel_rfl)) (fun _ _ _ _ _ => (g_nm 8 sc_law.nd)) (fun _ _ _ _ _ => (ts_one (t_cmp o_gtI (e_call (c_l_reachable M) hgd hr (a_cons (e_var 5) (a_cons (e_tup (a_cons (e_var 8) a_nil)) a_nil))) e_int))) (fun _ _ _ _ _ => (e_var 8)))))))
      (ss_cons (s_if (L2.PW.pt (t_or (t_not (t_val (e_call (c_l_agrees M) hgd hr (a_cons (e_var 5) (a_cons (e_callTy (hv := bo_tuple) b_tuple M.z_tuple (a_cons (e_slA (e_var 7) p_no (p_e e_int)) a_nil)) a_nil))))) (t_or1 (t_not (t_val (e_call (c_l_agrees M) hgd hr (a_cons (e_var 5) (a_cons (e_callTy (hv := bo_tuple) b_tuple M.z_tuple (a_cons (e_slA (e_revT (e_var 7)) p_no (p_e e_int)) a_nil)) a_nil)))))))) (ss_cons (s_ret e_bl)
      ss_nil) ss_nil)
      ss_nil))))))
      (ss_cons (s_ret e_bl)
      ss_nil))))
end
end LK16
end

section
/-! part CLMath -/
set_option Elab.async false
set_option linter.all false
set_option maxRecDepth 100000
/-! CLMath: what the denotations give, by wishes. -/
namespace CL
open PySem PySem.Spec PyProof.Rows L2

/-- it ends, and P holds of its end -/
def Ret {α : Type} (m : M α) (P : α → So → Prop) : Prop := match m with
  | some (.ok a S) => P a S
  | _ => False
@[simp] theorem Ret_ok {α : Type} (a : α) (S : So) (P : α → So → Prop) : Ret (some (.ok a S)) P ↔ P a S := Iff.rfl
@[simp] theorem Ret_none {α : Type} (P : α → So → Prop) : Ret (none : M α) P ↔ False := Iff.rfl
@[simp] theorem Ret_xc {α : Type} (x : XV) (S : So) (P : α → So → Prop) : Ret (some (.xc x S) : M α) P ↔ False := Iff.rfl
@[simp] theorem Ret_bnd {α β : Type} (m : M α) (f : α → So → M β) (P : β → So → Prop) : Ret (bnd m f) P ↔ Ret m fun a S => Ret (f a S) P := by
  unfold bnd Ret
  cases m with
  | none => rfl
  | some r => cases r <;> rfl
@[simp] theorem Ret_giv {α : Type} (o : Option α) (S : So) (P : α → So → Prop) : Ret (giv o S) P ↔ ∃ a, o = some a ∧ P a S := by
  cases o <;> simp [giv]
theorem Ret_gmap {α β : Type} (o : Option β) (f : β → α) (S : So) (P : α → So → Prop) : Ret (giv (o.map f) S) P ↔ ∃ b, o = some b ∧ P (f b) S := by
  cases o <;> simp [giv]
theorem Ret_gbind {α β : Type} (o : Option β) (f : β → Option α) (S : So) (P : α → So → Prop) : Ret (giv (o.bind f) S) P ↔ ∃ b, o = some b ∧ Ret (giv (f b) S) P := by
  cases o <;> simp [giv]
theorem Ret.mono {α : Type} {m : M α} {P Q : α → So → Prop} (h : Ret m P) (k : ∀ a S, P a S → Q a S) : Ret m Q := by
  unfold Ret at *
  split at h
  · exact k _ _ h
  · exact h.elim
theorem Ret.eq {α : Type} {m : M α} {a : α} {S : So} (h : Ret m fun b T => b = a ∧ T = S) : m = some (.ok a S) := by
  unfold Ret at h
  split at h
  · rw [h.1, h.2]
  · exact h.elim
theorem Ret.of {α : Type} {m : M α} {a : α} {S : So} {P : α → So → Prop} (e : m = some (.ok a S)) (h : P a S) : Ret m P := by rw [e]; exact h
def RetS (o : Option Out) (N : En → So → Prop) (R : W → So → Prop) : Prop := match o with
  | some (.nx σ S) => N σ S
  | some (.rt w S) => R w S
  | _ => False
section
variable {N : En → So → Prop} {R : W → So → Prop} {σ : En} {S : So}
@[simp] theorem RetS_nx : RetS (some (.nx σ S)) N R ↔ N σ S := Iff.rfl
@[simp] theorem RetS_rt (w : W) : RetS (some (.rt w S)) N R ↔ R w S := Iff.rfl
@[simp] theorem RetS_none : RetS none N R ↔ False := Iff.rfl
@[simp] theorem RetS_cons (a b : DS) : RetS (sCons a b σ S) N R ↔ RetS (a σ S) (fun σ1 S1 => RetS (b σ1 S1) N R) R := by
  unfold sCons RetS
  cases a σ S with
  | none => rfl
  | some o => cases o <;> rfl
@[simp] theorem RetS_nil : RetS (sNil σ S) N R ↔ N σ S := Iff.rfl
theorem RetS_bnd {α : Type} (m : M α) (f : α → So → Option Out) : RetS (bndS σ m f) N R ↔ Ret m fun a S => RetS (f a S) N R := by
  unfold bndS RetS Ret
  cases m with
  | none => rfl
  | some r => cases r <;> rfl
@[simp] theorem RetS_set (i : Nat) (d : DE) : RetS (sSet i d σ S) N R ↔ Ret (d σ S) fun w S1 => N (σ.set i (some w)) S1 := RetS_bnd _ _
@[simp] theorem RetS_drop (d : DE) : RetS (sDrop d σ S) N R ↔ Ret (d σ S) fun _ S1 => N σ S1 := RetS_bnd _ _
@[simp] theorem RetS_ret (d : DE) : RetS (sRet d σ S) N R ↔ Ret (d σ S) R := RetS_bnd _ _
theorem RetS_ite {b : Bool} (o o' : Option Out) : RetS (if b = true then o else o') N R ↔ if b = true then RetS o N R else RetS o' N R := by cases b <;> rfl
@[simp] theorem RetS_if (t : DT) (a b : DS) : RetS (sIf t a b σ S) N R ↔ Ret (t σ S) fun k S1 => if k = true then RetS (a σ S1) N R else RetS (b σ S1) N R := by
  unfold sIf
  rw [RetS_bnd]
  simp only [RetS_ite]
theorem Ret_ite {α : Type} {b : Bool} (o o' : M α) (P : α → So → Prop) : Ret (if b = true then o else o') P ↔ if b = true then Ret o P else Ret o' P := by cases b <;> rfl
@[simp] theorem RetS_asg (tg : Tg) (d : DE) : RetS (sAsg tg d σ S) N R ↔ Ret (d σ S) fun w S1 => ∃ σ1, bindT tg w σ = some σ1 ∧ N σ1 S1 := by
  unfold sAsg
  rw [RetS_bnd]
  apply Iff.of_eq
  congr
  funext w S1
  cases h : bindT tg w σ <;> simp [RetS]
@[simp] theorem RetS_par (is : List Nat) (as : DA) : RetS (sPar is as σ S) N R ↔ Ret (as σ S) fun ws S1 => ∃ σ1, setW σ is ws = some σ1 ∧ N σ1 S1 := by
  unfold sPar
  rw [RetS_bnd]
  apply Iff.of_eq
  congr
  funext w S1
  cases h : setW σ is w <;> simp [RetS]
@[simp] theorem RetS_put (d i v : DE) : RetS (sPut d i v σ S) N R ↔ Ret (v σ S) fun x S1 => Ret (d σ S1) fun z S2 => Ret (i σ S2) fun y S3 => ∃ S4, dputW S3 z y x = some S4 ∧ N σ S4 := by
  unfold sPut
  rw [RetS_bnd]
  apply Iff.of_eq
  congr
  funext x S1
  rw [eq_iff_iff, RetS_bnd]
  apply Iff.of_eq
  congr
  funext z S2
  rw [eq_iff_iff, RetS_bnd]
  apply Iff.of_eq
  congr
  funext y S3
  cases h : dputW S3 z y x <;> simp [RetS]
theorem RetS.mono {o : Option Out} {N' : En → So → Prop} {R' : W → So → Prop} (h : RetS o N R) (k1 : ∀ σ S, N σ S → N' σ S) (k2 : ∀ w S, R w S → R' w S) : RetS o N' R' := by
  unfold RetS at *
  split at h
  · exact k1 _ _ h
  · exact k2 _ _ h
  · exact h.elim
end
/-- a def -/
theorem Ret_fnB {G : Nat → W → So → M W} {np nN : Nat} {body : DS} {ws : List W} {S : So} {P : W → So → Prop} (hl : ws.length = np) (h : RetS (body (startW nN ws) S) (fun _ S' => P (.d .none) (S'.take S.length)) fun w S' => Ret (G S.length w S') P) : Ret (fnB G np nN body ws S) P := by
  unfold fnB
  rw [if_pos hl]
  unfold RetS at h
  split at h
  · rename_i e; rw [e]; exact h
  · rename_i e; rw [e]; exact h
  · exact h.elim
section
variable {σ : En} {S : So}
theorem Ret_dFn (F : DF) (as : DA) (P : W → So → Prop) : Ret (dFn F as σ S) P ↔ Ret (as σ S) fun ws S1 => Ret (F ws S1) P := by unfold dFn; simp
theorem Ret_dCons (a : DE) (r : DA) (P : List W → So → Prop) : Ret (dCons a r σ S) P ↔ Ret (a σ S) fun x S1 => Ret (r σ S1) fun xs S2 => P (x :: xs) S2 := by unfold dCons; simp
theorem Ret_dNil (P : List W → So → Prop) : Ret (dNil σ S) P ↔ P [] S := Iff.rfl
theorem Ret_dBin (g : So → W → W → Option W) (a b : DE) (P : W → So → Prop) : Ret (dBin g a b σ S) P ↔ Ret (a σ S) fun x S1 => Ret (b σ S1) fun y S2 => ∃ w, g S2 x y = some w ∧ P w S2 := by unfold dBin; simp
theorem Ret_dUn (g : So → W → Option W) (a : DE) (P : W → So → Prop) : Ret (dUn g a σ S) P ↔ Ret (a σ S) fun x S1 => ∃ w, g S1 x = some w ∧ P w S1 := by unfold dUn; simp
theorem Ret_dCall (g : So → List W → Option W) (as : DA) (P : W → So → Prop) : Ret (dCall g as σ S) P ↔ Ret (as σ S) fun ws S1 => ∃ w, g S1 ws = some w ∧ P w S1 := by unfold dCall; simp
theorem Ret_dCallN (g : So → List W → Option (List PyData)) (as : DA) (P : List PyData → So → Prop) : Ret (dCallN g as σ S) P ↔ Ret (as σ S) fun ws S1 => ∃ w, g S1 ws = some w ∧ P w S1 := by unfold dCallN; simp
theorem Ret_dC (x : PyData) (P : W → So → Prop) : Ret (dC x σ S) P ↔ P (.d x) S := Iff.rfl
theorem Ret_dG (x : Str) (P : W → So → Prop) : Ret (dG x σ S) P ↔ P (.g x) S := Iff.rfl
theorem Ret_dVar (i : Nat) (P : W → So → Prop) : Ret (dVar i σ S) P ↔ ∃ w, σ[i]? = some (some w) ∧ P w S := by
  unfold dVar
  cases h : σ[i]? with
  | none => simp
  | some o => cases o <;> simp
theorem Ret_dIf (t : DT) (a b : DE) (P : W → So → Prop) : Ret (dIf t a b σ S) P ↔ Ret (t σ S) fun k S1 => if k = true then Ret (a σ S1) P else Ret (b σ S1) P := by
  unfold dIf; simp only [Ret_bnd, Ret_ite]
theorem Ret_dFz (d : DN) (P : W → So → Prop) : Ret (dFz d σ S) P ↔ Ret (d σ S) fun xs S1 => P (.d (.list xs)) S1 := by unfold dFz; simp
theorem Ret_dNew (d : DN) (P : W → So → Prop) : Ret (dNew d σ S) P ↔ Ret (d σ S) fun xs S1 => P (.r S1.length) (S1 ++ [.lst xs]) := by unfold dNew; simp
theorem Ret_dLst (as : DA) (P : List PyData → So → Prop) : Ret (dLst as σ S) P ↔ Ret (as σ S) fun ws S1 => ∃ xs, datz ws = some xs ∧ P xs S1 := by unfold dLst; simp
theorem Ret_dTup (as : DA) (P : W → So → Prop) : Ret (dTup as σ S) P ↔ Ret (as σ S) fun ws S1 => ∃ xs, datz ws = some xs ∧ P (.d (.tuple xs)) S1 := by unfold dTup; simp only [Ret_bnd, Ret_gmap]
theorem Ret_dB (d : DE) (P : Bool → So → Prop) : Ret (dB d σ S) P ↔ Ret (d σ S) fun w S1 => ∃ b, bOf w = some b ∧ P b S1 := by unfold dB; simp
theorem Ret_dAndT (a b : DT) (P : Bool → So → Prop) : Ret (dAndT a b σ S) P ↔ Ret (a σ S) fun k S1 => if k = true then Ret (b σ S1) P else P false S1 := by
  unfold dAndT; simp only [Ret_bnd, Ret_ite, Ret_ok]
theorem Ret_dOrT (a b : DT) (P : Bool → So → Prop) : Ret (dOrT a b σ S) P ↔ Ret (a σ S) fun k S1 => if k = true then P true S1 else Ret (b σ S1) P := by
  unfold dOrT; simp only [Ret_bnd, Ret_ite, Ret_ok]
theorem Ret_dNotT (a : DT) (P : Bool → So → Prop) : Ret (dNotT a σ S) P ↔ Ret (a σ S) fun k S1 => P (!k) S1 := by unfold dNotT; simp
theorem Ret_dAnd (a b : DE) (P : W → So → Prop) : Ret (dAnd a b σ S) P ↔ Ret (a σ S) fun x S1 => ∃ k, bOf x = some k ∧ if k = true then Ret (b σ S1) P else P (.d (.bool false)) S1 := by
  unfold dAnd
  simp only [Ret_bnd]
  apply Iff.of_eq; congr; funext x S1
  match h : bOf x with
  | none => simp
  | some true => simp
  | some false => simp
theorem Ret_dOr (a b : DE) (P : W → So → Prop) : Ret (dOr a b σ S) P ↔ Ret (a σ S) fun x S1 => ∃ k, bOf x = some k ∧ if k = true then P (.d (.bool true)) S1 else Ret (b σ S1) P := by
  unfold dOr
  simp only [Ret_bnd]
  apply Iff.of_eq; congr; funext x S1
  match h : bOf x with
  | none => simp
  | some true => simp
  | some false => simp
theorem Ret_dNot (a : DE) (P : W → So → Prop) : Ret (dNot a σ S) P ↔ Ret (a σ S) fun x S1 => ∃ k, bOf x = some k ∧ P (.d (.bool (!k))) S1 := by
  unfold dNot; simp only [Ret_bnd, Ret_gmap]
theorem Ret_dIsi (T : String) (a : DE) (P : W → So → Prop) : Ret (dIsi T a σ S) P ↔ Ret (a σ S) fun w S1 => ∃ x, rd S1 w = some x ∧ ∃ c, isiP T x = some c ∧ P (.d c) S1 := by
  unfold dIsi; simp only [Ret_bnd, Ret_gbind, Ret_gmap]
theorem Ret_dChain (g g' : So → W → W → Option W) (a b c : DE) (P : W → So → Prop) : Ret (dChain g g' a b c σ S) P ↔ Ret (a σ S) fun x S1 => Ret (b σ S1) fun y S2 => ∃ w, g S2 x y = some w ∧ ∃ k, bOf w = some k ∧
    if k = true then Ret (c σ S2) fun z S3 => ∃ u, g' S3 y z = some u ∧ P u S3 else P (.d (.bool false)) S2 := by
  unfold dChain
  simp only [Ret_bnd]
  apply Iff.of_eq; congr; funext x S1; congr; funext y S2
  cases h : g S2 x y with
  | none => simp
  | some w =>
    match h2 : bOf w with
    | none => simp [h2]
    | some true => simp [h2]
    | some false => simp [h2]
theorem Ret_dGet (d i : DE) (P : W → So → Prop) : Ret (dGet d i σ S) P ↔ Ret (d σ S) fun x S1 => Ret (i σ S1) fun y S2 => ∃ w, dgetW S2 x y = some w ∧ P w S2 := by unfold dGet; simp
theorem Ret_dD0 (o : O) (P : W → So → Prop) : Ret (dD0 o σ S) P ↔ P (.r S.length) (S ++ [o]) := Iff.rfl
theorem Ret_dNoP (P : Option Int → So → Prop) : Ret (dNoP σ S) P ↔ P none S := Iff.rfl
theorem Ret_dPt (d : DE) (P : Option Int → So → Prop) : Ret (dPt d σ S) P ↔ Ret (d σ S) fun w S1 => ∃ i, intW w = some i ∧ P (some i) S1 := by unfold dPt; simp only [Ret_bnd, Ret_gmap]
theorem Ret_dSlA (a : DE) (l h : DO) (P : W → So → Prop) : Ret (dSlA a l h σ S) P ↔ Ret (a σ S) fun w S1 => Ret (l σ S1) fun lo S2 => Ret (h σ S2) fun hi S3 => ∃ x, rd S3 w = some x ∧ ∃ y, cutA lo hi x = some y ∧ P (.d y) S3 := by
  unfold dSlA; simp only [Ret_bnd, Ret_gbind, Ret_gmap]
theorem Ret_dMeth (T : String) (g : GM) (o : DE) (as : DA) (P : W → So → Prop) : Ret (dMeth T g o as σ S) P ↔ Ret (o σ S) fun x S1 => tyM T S1 x = true ∧ Ret (as σ S1) fun ws S2 => ∃ w S3, g S2 x ws = some (w, S3) ∧ P w S3 := by
  unfold dMeth
  simp only [Ret_bnd]
  apply Iff.of_eq; congr; funext x S1
  by_cases h : tyM T S1 x = true
  · simp only [h, if_true, Ret_bnd, true_and]
    congr; funext ws S2
    cases h2 : g S2 x ws with
    | none => simp
    | some q =>
      obtain ⟨w, S3⟩ := q
      exact propext ⟨fun h => ⟨w, S3, rfl, h⟩, fun ⟨w2, S4, e, h⟩ => by cases e; exact h⟩
  · simp [h]
theorem Ret_dAny (d : DE) (P : List PyData × Option Nat → So → Prop) : Ret (dAny d σ S) P ↔ Ret (d σ S) fun w S1 => ∃ q, anyW S1 w = some q ∧ P q S1 := by unfold dAny; simp
theorem Ret_dLenSet (d : DE) (P : W → So → Prop) : Ret (dLenSet d σ S) P ↔ Ret (d σ S) fun w S1 => ∃ u, setLen S1 w = some u ∧ P u S1 := by unfold dLenSet; simp
theorem Ret_dZip (as : DA) (P : List PyData × Option Nat → So → Prop) : Ret (dZip as σ S) P ↔ Ret (as σ S) fun ws S1 => ∃ xs, zipW ws = some xs ∧ P (xs, none) S1 := by
  unfold dZip; simp only [Ret_bnd, Ret_gmap]
theorem Ret_dZipL (as : DA) (P : List PyData × Option Nat → So → Prop) : Ret (dZipL as σ S) P ↔ Ret (as σ S) fun ws S1 => ∃ xs, zipWL ws = some xs ∧ P (xs, none) S1 := by
  unfold dZipL; simp only [Ret_bnd, Ret_gmap]
theorem Ret_dKeys (d : DE) (P : List PyData × Option Nat → So → Prop) : Ret (dKeys d σ S) P ↔ Ret (d σ S) fun w S1 => ∃ xs, lkKeys S1 w = some xs ∧ small xs.length = true ∧ P (xs, none) S1 := by
  unfold dKeys
  simp only [Ret_bnd, Ret_giv, Option.bind_eq_some_iff]
  apply Iff.of_eq; congr; funext w S1
  apply propext
  constructor
  · rintro ⟨q, ⟨xs, h1, h2⟩, h3⟩
    split at h2
    · rename_i hz; cases h2; exact ⟨xs, h1, hz, h3⟩
    · cases h2
  · rintro ⟨xs, h1, hz, h3⟩
    exact ⟨(xs, none), ⟨xs, h1, by rw [if_pos hz]⟩, h3⟩
theorem Ret_dRng1 (as : DA) (P : List PyData × Option Nat → So → Prop) : Ret (dRng1 as σ S) P ↔ Ret (as σ S) fun ws S1 => ∃ n : Int, ws = [.d (.int n)] ∧ (n < 16777216 ∧ -16777216 < n) ∧ P (rng 0 n, none) S1 := by
  unfold dRng1
  simp only [Ret_bnd]
  apply Iff.of_eq; congr; funext ws S1
  apply propext
  split
  · rename_i n
    split
    · rename_i h; simp [h]
    · rename_i h
      simp only [Ret_none, false_iff]
      rintro ⟨m, e, h2, _⟩
      cases e; exact h h2
  · rename_i h
    simp only [Ret_none, false_iff]
    rintro ⟨m, e, _⟩
    exact h m e
theorem Ret_dRng2 (as : DA) (P : List PyData × Option Nat → So → Prop) : Ret (dRng2 as σ S) P ↔ Ret (as σ S) fun ws S1 => ∃ m n : Int, ws = [.d (.int m), .d (.int n)] ∧ (n < 8000000 ∧ -8000000 < n ∧ m < 8000000 ∧ -8000000 < m) ∧ P (rng m n, none) S1 := by
  unfold dRng2
  simp only [Ret_bnd]
  apply Iff.of_eq; congr; funext ws S1
  apply propext
  split
  · rename_i m n
    split
    · rename_i h
      exact ⟨fun q => ⟨m, n, rfl, h, q⟩, fun ⟨a, b, e, _, q⟩ => by cases e; exact q⟩
    · rename_i h
      simp only [Ret_none, false_iff]
      rintro ⟨a, b, e, h2, _⟩
      cases e; exact h h2
  · rename_i h
    simp only [Ret_none, false_iff]
    rintro ⟨a, b, e, _⟩
    exact h a b e
theorem Ret_dLc (vs : List Nat) (it : DI) (tg : Tg) (c : DT) (e : DE) (P : List PyData → So → Prop) : Ret (dLc vs it tg c e σ S) P ↔ Ret (it σ S) fun p S1 => Ret (lcGo p.2 p.1 vs σ tg c e p.1 [] S1) P := by unfold dLc; simp
theorem RetS_for (tg : Tg) (it : DI) (b : DS) (N : En → So → Prop) (R : W → So → Prop) : RetS (sFor tg it b σ S) N R ↔ Ret (it σ S) fun p S1 => RetS (forGo p.2 p.1 tg b p.1 σ S1) N R := by unfold sFor; exact RetS_bnd _ _
theorem Ret_dHeld (i : Nat) (T : Str → Option DF) (as : DA) (P : W → So → Prop) {x : Str} {F : DF} (h1 : σ[i]? = some (some (.g x))) (h2 : T x = some F) : Ret (dHeld i T as σ S) P ↔ Ret (as σ S) fun ws S1 => Ret (F ws S1) P := by
  unfold dHeld; simp [h1, h2]
end
/-! ### loops with a wish that counts -/
theorem lc_inv {vs : List Nat} {σ : En} {tg : Tg} {c : DT} {e : DE} {all : List PyData} (I : Nat → List PyData → So → Prop) : ∀ (xs : List PyData) (k : Nat) (acc : List PyData) (S : So), I k acc S →
    (∀ (j : Nat) (x : PyData) (acc : List PyData) (S : So), xs[j]? = some x → I (k + j) acc S → ∃ σ1, bindT tg (.d x) (wipeW σ vs) = some σ1 ∧ Ret (c σ1 S) fun b S1 => if b = true then Ret (e σ1 S1) fun w S2 => ∃ y, w = .d y ∧ I (k + j + 1) (acc ++ [y]) S2 else I (k + j + 1) acc S1) →
    Ret (lcGo none all vs σ tg c e xs acc S) (I (k + xs.length))
  | [], k, acc, S, h, _ => by unfold lcGo; exact h
  | x :: xs, k, acc, S, h, st => by
    obtain ⟨σ1, h1, h2⟩ := st 0 x acc S rfl h
    unfold lcGo
    rw [if_pos (show keepB none all S = true from rfl), h1]
    dsimp only
    have rest : ∀ acc' S', I (k + 0 + 1) acc' S' → Ret (lcGo none all vs σ tg c e xs acc' S') (I (k + (x :: xs).length)) := fun acc' S' hI => by
      have := lc_inv (all := all) I xs (k + 1) acc' S' hI fun j y acc S hy hI2 => by
        have := st (j + 1) y acc S (by simpa using hy) (by rw [show k + (j + 1) = k + 1 + j by omega]; exact hI2)
        rw [show k + (j + 1) + 1 = k + 1 + j + 1 by omega] at this
        exact this
      rw [List.length_cons, show k + (xs.length + 1) = k + 1 + xs.length by omega]
      exact this
    unfold Ret at h2
    split at h2
    · rename_i b S1 hc
      rw [hc]
      cases b with
      | true =>
        simp only [if_true] at h2
        dsimp only
        split at h2
        · rename_i w S2 he
          obtain ⟨y, rfl, hI⟩ := h2
          rw [he]
          exact rest _ _ hI
        · exact h2.elim
      | false => exact rest _ _ (by simpa using h2)
    · exact h2.elim
/-- .. of a pure condition and element -/
theorem lc_pure {vs : List Nat} {σ : En} {tg : Tg} {c : DT} {e : DE} {all : List PyData} {S : So} (p : PyData → Bool) (f : PyData → PyData) : ∀ (xs acc : List PyData), (∀ x ∈ xs, ∃ σ1, bindT tg (.d x) (wipeW σ vs) = some σ1 ∧ Ret (c σ1 S) (fun b S1 => b = p x ∧ S1 = S) ∧ (p x = true → Ret (e σ1 S) fun w S2 => w = .d (f x) ∧ S2 = S)) →
    lcGo none all vs σ tg c e xs acc S = some (.ok (acc ++ (xs.filter p).map f) S)
  | [], acc, _ => by unfold lcGo; simp [keepB]
  | x :: xs, acc, h => by
    obtain ⟨σ1, h1, h2, h3⟩ := h x List.mem_cons_self
    have ih := fun acc' => lc_pure (σ := σ) (vs := vs) (tg := tg) (c := c) (e := e) (all := all) (S := S) p f xs acc' fun y hy => h y (List.mem_cons_of_mem _ hy)
    unfold lcGo
    rw [if_pos (show keepB none all S = true from rfl), h1]
    dsimp only
    rw [h2.eq]
    cases hp : p x with
    | true =>
      dsimp only
      rw [(h3 hp).eq]
      dsimp only
      rw [ih]
      simp [hp]
    | false =>
      dsimp only
      rw [ih]
      simp [hp]
theorem for_inv {tg : Tg} {b : DS} {all : List PyData} {N : En → So → Prop} {R : W → So → Prop} (I : Nat → En → So → Prop) : ∀ (xs : List PyData) (k : Nat) (σ : En) (S : So), I k σ S → (∀ σ S, I (k + xs.length) σ S → N σ S) →
    (∀ (j : Nat) (x : PyData) (σ : En) (S : So), xs[j]? = some x → I (k + j) σ S → ∃ σ1, bindT tg (.d x) σ = some σ1 ∧ RetS (b σ1 S) (I (k + j + 1)) R) → RetS (forGo none all tg b xs σ S) N R
  | [], k, σ, S, h, hN, _ => by unfold forGo; exact hN σ S h
  | x :: xs, k, σ, S, h, hN, st => by
    obtain ⟨σ1, h1, h2⟩ := st 0 x σ S rfl h
    unfold forGo
    rw [if_pos (show keepB none all S = true from rfl), h1]
    dsimp only
    unfold RetS at h2
    split at h2
    · rename_i σ2 S2 he
      rw [he]
      exact for_inv I xs (k + 1) σ2 S2 h2 (fun σ S q => hN σ S (by rw [List.length_cons, show k + (xs.length + 1) = k + 1 + xs.length by omega]; exact q)) fun j y σ S hy hI2 => by
        have := st (j + 1) y σ S (by simpa using hy) (by rw [show k + (j + 1) = k + 1 + j by omega]; exact hI2)
        rw [show k + (j + 1) + 1 = k + 1 + j + 1 by omega] at this
        exact this
    · rename_i w S2 he
      rw [he]
      exact h2
    · exact h2.elim
end CL
end

section
/-! part CLEnd -/
set_option Elab.async false
set_option linter.all false
set_option maxRecDepth 100000
/-! CLEnd: the law's own call. -/
namespace CL
open PySem PySem.Spec PyProof.Rows L2
theorem ints_rd {K : PySem.W.Frag} {H : Hp} {φ : Fi} : ∀ ns : List Int, RDs K H φ (ns.map PyData.int) (ns.map V.int)
  | [] => rfl
  | n :: ns => ⟨.int n, _, rfl, rfl, ints_rd ns⟩
theorem law_sp {F : DF} {n : Nat} (LT : ∀ ns : List Int, ns.length ≤ n → Ret (F [.s (ns.map PyData.int)] []) fun w _ => w = .d (.bool true)) (K : PySem.W.Frag) (mg : Str → Option Value) (H : Hp) (a : Addr) (ns : List Int) (hl : ns.length ≤ n)
    (h : (∃ o, H = scriptH a o (ns.map V.int)) ∨ (H = (fun _ => none) ∧ KL K a (ns.map V.int))) : spF K mg F [.ref a] H (fun v _ => v = .bl true) fun _ _ _ => False := by
  have := LT ns hl
  unfold Ret at this
  split at this
  · rename_i w S he
    subst this
    refine ⟨⟨[], []⟩, [], [.s (ns.map PyData.int)], .ok (.d (.bool true)) S, ⟨rfl, List.nodup_nil, fun i b o h _ => by simp at h, fun b hb => by cases hb⟩, ⟨.ref a, [], rfl, ⟨a, ns.map V.int, rfl, ?_, ints_rd ns⟩, rfl⟩, he, fun φ' H' v _ _ x => x⟩
    rcases h with ⟨o, h⟩ | ⟨_, h⟩
    · subst h
      exact .inl ⟨.inr ⟨o, if_pos rfl⟩, by simp, by simp⟩
    · exact .inr h
  · exact this.elim
theorem defG_mk {K : PySem.W.Frag} {h : Heap} {mg : Str → Option Value} {x : Str} {st : Stmt} {ps : List Str} {f : Addr} {oc : Value} {od an : Option Addr} {osl : Array (Option Value)} {kV doc pm cdv ct : Value} (X : K.In h) (G : h.Ns mainGlobals mg) (a : PySem.W.nsIn K mainGlobals x = some (some (.ref f)))
    (l : K.lookup f = some ⟨oc, od, .func (PySem.W.fnOf x x (defArgs st) (defBody st) (defScope st) .none kV doc pm an cdv ct), osl⟩) (c : PySem.W.codeIn K cdv x = true) (k : PySem.W.keepIn K (.ref f) = true)
    (hb : ∀ (kV doc pm : Value) (an : Option Addr) (cdv ct : Value) (us : List Value), us.length = ps.length → bindArgs (PySem.W.fnOf x x (defArgs st) (defBody st) (defScope st) .none kV doc pm an cdv ct) ⟨us, []⟩ = pure (ps.zip us)) (hps : (defArgs st).args.map (·.arg) = ps := by rfl) : DefG K mg x st ps := by
  have F := fun_mk (st := st) l c k
  exact ⟨f, _, F, PySem.W.mg_of X G a, F.binds hb, hps⟩
end CL
end

section
/-! part CLGood -/
set_option Elab.async false
set_option linter.all false
set_option maxRecDepth 100000
/-! CLGood: data that is small: no dict, short ints, plain signs, bounded bulk and depth. -/
namespace CL
open PySem PySem.Spec PyProof.Rows L2

def signOk (z : Str) : Bool := z.cps.toList.all fun c => decide (c < 128)
mutual
def okd : PyData → Bool
  | .none => true
  | .bool _ => true
  | .int i => decide (i.natAbs < 10 ^ 70)
  | .str z => signOk z
  | .list xs => okds xs
  | .tuple xs => okds xs
  | .dict _ => false
def okds : List PyData → Bool
  | [] => true
  | x :: xs => okd x && okds xs
end
/-- bulk at most b, depth at most d -/
structure Gd (b d : Nat) (x : PyData) : Prop where
  ok : okd x = true
  bulk : x.bulk ≤ b
  depth : x.depth ≤ d
structure Gds (b d : Nat) (xs : List PyData) : Prop where
  ok : okds xs = true
  bulk : PyData.bulkAll xs ≤ b
  depth : PyData.depthAll xs ≤ d
theorem Gd.mono {b b' d d' : Nat} {x : PyData} (h : Gd b d x) (hb : b ≤ b') (hd : d ≤ d') : Gd b' d' x := ⟨h.ok, Nat.le_trans h.bulk hb, Nat.le_trans h.depth hd⟩
theorem Gds.mono {b b' d d' : Nat} {x : List PyData} (h : Gds b d x) (hb : b ≤ b') (hd : d ≤ d') : Gds b' d' x := ⟨h.ok, Nat.le_trans h.bulk hb, Nat.le_trans h.depth hd⟩
theorem Gd.list {b d : Nat} {xs : List PyData} (h : Gds b d xs) : Gd b (d + 1) (.list xs) := ⟨by simpa [okd] using h.ok, by simpa [PyData.bulk] using h.bulk, by simpa [PyData.depth] using h.depth⟩
theorem Gd.tuple {b d : Nat} {xs : List PyData} (h : Gds b d xs) : Gd b (d + 1) (.tuple xs) := ⟨by simpa [okd] using h.ok, by simpa [PyData.bulk] using h.bulk, by simpa [PyData.depth] using h.depth⟩
theorem Gd.ofTuple {b d : Nat} {xs : List PyData} (h : Gd b d (.tuple xs)) : Gds b (d - 1) xs := ⟨by simpa [okd] using h.ok, by simpa [PyData.bulk] using h.bulk, by have := h.depth; simp only [PyData.depth] at this; omega⟩
theorem Gd.ofList {b d : Nat} {xs : List PyData} (h : Gd b d (.list xs)) : Gds b (d - 1) xs := ⟨by simpa [okd] using h.ok, by simpa [PyData.bulk] using h.bulk, by have := h.depth; simp only [PyData.depth] at this; omega⟩
theorem Gds.nil {b d : Nat} : Gds b d [] := ⟨rfl, Nat.zero_le _, Nat.zero_le _⟩
theorem Gds.cons {b b' d : Nat} {x : PyData} {xs : List PyData} (h : Gd b d x) (t : Gds b' d xs) : Gds (b + 1 + b') d (x :: xs) :=
  ⟨by simp [okds, h.ok, t.ok], by have := h.bulk; have := t.bulk; simp only [PyData.bulkAll]; omega, by simp only [PyData.depthAll]; exact Nat.max_le.mpr ⟨h.depth, t.depth⟩⟩
theorem Gds.head {b d : Nat} {x : PyData} {xs : List PyData} (h : Gds b d (x :: xs)) : Gd b d x := by
  obtain ⟨h1, h2, h3⟩ := h
  simp only [okds, Bool.and_eq_true] at h1
  simp only [PyData.bulkAll] at h2
  simp only [PyData.depthAll] at h3
  exact ⟨h1.1, by omega, Nat.le_trans (Nat.le_max_left _ _) h3⟩
theorem Gds.tail {b d : Nat} {x : PyData} {xs : List PyData} (h : Gds b d (x :: xs)) : Gds b d xs := by
  obtain ⟨h1, h2, h3⟩ := h
  simp only [okds, Bool.and_eq_true] at h1
  simp only [PyData.bulkAll] at h2
  simp only [PyData.depthAll] at h3
  exact ⟨h1.2, by omega, Nat.le_trans (Nat.le_max_right _ _) h3⟩
theorem Gds.mem {b d : Nat} {x : PyData} : ∀ {xs : List PyData}, Gds b d xs → x ∈ xs → Gd b d x
  | _ :: _, h, hm => by
    rcases List.mem_cons.mp hm with e | hm
    · subst e; exact h.head
    · exact h.tail.mem hm
theorem okds_append : ∀ xs ys : List PyData, okds (xs ++ ys) = (okds xs && okds ys)
  | [], ys => by simp [okds]
  | x :: xs, ys => by simp [okds, okds_append xs ys, Bool.and_assoc]
theorem bulk_append : ∀ xs ys : List PyData, PyData.bulkAll (xs ++ ys) = PyData.bulkAll xs + PyData.bulkAll ys
  | [], ys => by simp [PyData.bulkAll]
  | x :: xs, ys => by simp only [List.cons_append, PyData.bulkAll, bulk_append xs ys]; omega
theorem depth_append : ∀ xs ys : List PyData, PyData.depthAll (xs ++ ys) = max (PyData.depthAll xs) (PyData.depthAll ys)
  | [], ys => by simp [PyData.depthAll]
  | x :: xs, ys => by simp only [List.cons_append, PyData.depthAll, depth_append xs ys]; omega
theorem Gds.append {b b' d : Nat} {xs ys : List PyData} (h : Gds b d xs) (t : Gds b' d ys) : Gds (b + b') d (xs ++ ys) :=
  ⟨by rw [okds_append, h.ok, t.ok]; rfl, by have := h.bulk; have := t.bulk; rw [bulk_append]; omega, by rw [depth_append]; exact Nat.max_le.mpr ⟨h.depth, t.depth⟩⟩
theorem Gds.left {b d : Nat} {xs ys : List PyData} (h : Gds b d (xs ++ ys)) : Gds b d xs := by
  obtain ⟨h1, h2, h3⟩ := h
  rw [okds_append, Bool.and_eq_true] at h1
  rw [bulk_append] at h2
  rw [depth_append] at h3
  exact ⟨h1.1, by omega, Nat.le_trans (Nat.le_max_left _ _) h3⟩
theorem Gds.right {b d : Nat} {xs ys : List PyData} (h : Gds b d (xs ++ ys)) : Gds b d ys := by
  obtain ⟨h1, h2, h3⟩ := h
  rw [okds_append, Bool.and_eq_true] at h1
  rw [bulk_append] at h2
  rw [depth_append] at h3
  exact ⟨h1.2, by omega, Nat.le_trans (Nat.le_max_right _ _) h3⟩
theorem Gds.take {b d : Nat} {xs : List PyData} (h : Gds b d xs) (n : Nat) : Gds b d (xs.take n) := by
  rw [← List.take_append_drop n xs] at h; exact h.left
theorem Gds.drop {b d : Nat} {xs : List PyData} (h : Gds b d xs) (n : Nat) : Gds b d (xs.drop n) := by
  rw [← List.take_append_drop n xs] at h; exact h.right
theorem Gds.cut {b d : Nat} {xs : List PyData} (h : Gds b d xs) (lo hi : Option Int) : Gds b d (cutG xs lo hi) := (h.drop _).take _
theorem Gds.reverse {b d : Nat} : ∀ {xs : List PyData}, Gds b d xs → Gds b d xs.reverse := by
  intro xs h
  have key : ∀ xs : List PyData, okds xs.reverse = okds xs ∧ PyData.bulkAll xs.reverse = PyData.bulkAll xs ∧ PyData.depthAll xs.reverse = PyData.depthAll xs := by
    intro xs
    induction xs with
    | nil => exact ⟨rfl, rfl, rfl⟩
    | cons x xs ih =>
      obtain ⟨i1, i2, i3⟩ := ih
      rw [List.reverse_cons]
      refine ⟨?_, ?_, ?_⟩
      · rw [okds_append, i1]; simp [okds, Bool.and_comm]
      · rw [bulk_append, i2]; simp only [PyData.bulkAll]; omega
      · rw [depth_append, i3]; simp only [PyData.depthAll]; omega
  obtain ⟨k1, k2, k3⟩ := key xs
  exact ⟨k1.trans h.ok, by rw [k2]; exact h.bulk, by rw [k3]; exact h.depth⟩
theorem Gds.of_mem {b d : Nat} : ∀ {xs : List PyData}, (∀ x ∈ xs, Gd b d x) → Gds (xs.length * (b + 1)) d xs
  | [], _ => Gds.nil
  | x :: xs, h => by
    have := Gds.cons (h x List.mem_cons_self) (Gds.of_mem fun y hy => h y (List.mem_cons_of_mem _ hy))
    refine this.mono ?_ (Nat.le_refl _)
    rw [List.length_cons, Nat.succ_mul]; omega
theorem Gds.len {b d : Nat} : ∀ {xs : List PyData}, Gds b d xs → xs.length ≤ b
  | [], _ => Nat.zero_le _
  | x :: xs, h => by
    have h2 := h.bulk
    simp only [PyData.bulkAll] at h2
    have : Gds (b - 1) d xs := ⟨h.tail.ok, by omega, h.tail.depth⟩
    have := this.len
    rw [List.length_cons]; omega
/-! ### what follows -/
mutual
theorem pl_of : ∀ x : PyData, okd x = true → plD x = true
  | .none, _ | .bool _, _ | .int _, _ | .str _, _ => rfl
  | .list xs, h => pls_of xs (by simpa [okd] using h)
  | .tuple xs, h => pls_of xs (by simpa [okd] using h)
  | .dict _, h => by simp [okd] at h
theorem pls_of : ∀ xs : List PyData, okds xs = true → plDs xs = true
  | [], _ => rfl
  | x :: xs, h => by
    simp only [okds, Bool.and_eq_true] at h
    simp [plDs, pl_of x h.1, pls_of xs h.2]
end
theorem signs_lt {z : Str} (h : signOk z = true) : ∀ c ∈ z.cps.toList, c < 128 := fun c hc => of_decide_eq_true (List.all_eq_true.mp h c hc)
mutual
theorem lay_of : ∀ x : PyData, okd x = true → x.canLay0 = true
  | .none, _ | .bool _, _ | .int _, _ => by simp [PyData.canLay0]
  | .str z, h => by
    simp only [PyData.canLay0, PyData.strOk]
    rw [← Array.all_toList, List.all_eq_true]
    intro c hc
    have := signs_lt (by simpa [okd] using h) c hc
    exact decide_eq_true (by omega)
  | .list xs, h => by simpa [PyData.canLay0] using lays_of xs (by simpa [okd] using h)
  | .tuple xs, h => by simpa [PyData.canLay0] using lays_of xs (by simpa [okd] using h)
  | .dict _, h => by simp [okd] at h
theorem lays_of : ∀ xs : List PyData, okds xs = true → PyData.canLayAll0 xs = true
  | [], _ => by simp [PyData.canLayAll0]
  | x :: xs, h => by
    simp only [okds, Bool.and_eq_true] at h
    simp [PyData.canLayAll0, lay_of x h.1, lays_of xs h.2]
end
theorem Gd.okD {b d : Nat} {x : PyData} (h : Gd b d x) (hd : d ≤ 64) : okD x = true := by
  unfold CL.okD SeqAt.shaped
  rw [lay_of x h.ok, Bool.true_and]
  exact decide_eq_true (Nat.le_trans h.depth hd)
theorem int_short {i : Int} (h : i.natAbs < 10 ^ 70) : (PyData.shown (.int i)).length ≤ 80 ∧ i.natAbs.log2 < 1920 := by
  constructor
  · simp only [PyData.shown]
    rw [TL.len_tl]
    cases i with
    | ofNat n =>
      show (TL.tl (Str.ofString (toString ((n : Nat) : Int)))).length ≤ 80
      rw [TL.tl_num]
      exact Nat.le_trans (TL.numL_len (k := 70) (by decide) (by simpa using h)) (by decide)
    | negSucc n =>
      have e : toString (Int.negSucc n) = "-" ++ toString ((n + 1 : Nat) : Int) := rfl
      rw [e, TL.tl_ofString, String.toList_append, List.map_append, List.length_append]
      have h2 := TL.numL_len (n := n + 1) (k := 70) (by decide) (by simpa using h)
      rw [← TL.tl_num, TL.tl_ofString] at h2
      have h3 : (List.map Char.toNat "-".toList).length = 1 := rfl
      omega
  · by_cases h0 : i.natAbs = 0
    · rw [h0]; decide
    · exact Nat.lt_of_lt_of_le ((Nat.log2_lt h0).mpr (Nat.lt_of_lt_of_le h (show 10 ^ 70 ≤ 2 ^ 250 by decide))) (by decide)
mutual
theorem leaves_of : ∀ x : PyData, okd x = true → x.leavesShort 80 = true ∧ x.showable = true ∧ x.hasDict = false
  | .none, _ | .bool _, _ => by simp [PyData.leavesShort, PyData.showable, PyData.hasDict]
  | .int i, h => by
    obtain ⟨h1, h2⟩ := int_short (by simpa [okd] using h)
    exact ⟨by simpa only [PyData.leavesShort, decide_eq_true_eq] using h1, by simpa [PyData.showable] using h2, by simp [PyData.hasDict]⟩
  | .str z, h => by
    refine ⟨?_, by simp [PyData.showable], by simp [PyData.hasDict]⟩
    simp only [PyData.leavesShort, List.all_eq_true, decide_eq_true_eq]
    intro c hc
    have := signs_lt (by simpa [okd] using h) c hc
    omega
  | .list xs, h => by
    obtain ⟨h1, h2, h3⟩ := leavesAll_of xs (by simpa [okd] using h)
    exact ⟨by simpa [PyData.leavesShort] using h1, by simpa [PyData.showable] using h2, by simpa [PyData.hasDict] using h3⟩
  | .tuple xs, h => by
    obtain ⟨h1, h2, h3⟩ := leavesAll_of xs (by simpa [okd] using h)
    exact ⟨by simpa [PyData.leavesShort] using h1, by simpa [PyData.showable] using h2, by simpa [PyData.hasDict] using h3⟩
  | .dict _, h => by simp [okd] at h
theorem leavesAll_of : ∀ xs : List PyData, okds xs = true → PyData.leavesShortAll 80 xs = true ∧ PyData.showableAll xs = true ∧ PyData.hasDictAll xs = false
  | [], _ => by simp [PyData.leavesShortAll, PyData.showableAll, PyData.hasDictAll]
  | x :: xs, h => by
    simp only [okds, Bool.and_eq_true] at h
    obtain ⟨a1, a2, a3⟩ := leaves_of x h.1
    obtain ⟨b1, b2, b3⟩ := leavesAll_of xs h.2
    simp [PyData.leavesShortAll, PyData.showableAll, PyData.hasDictAll, a1, a2, a3, b1, b2, b3]
end
theorem Gd.repr {b d : Nat} {x : PyData} (h : Gd b d x) (hb : b ≤ 200000) (hd : d ≤ 60) : reprP x = some (.str x.shown) := by
  obtain ⟨h1, h2, h3⟩ := leaves_of x h.ok
  have h4 := PyData.shown_le_bulk 80 (by decide) x h1
  have h5 := h.bulk
  unfold reprP reprOk
  rw [h2, h3, decide_eq_true (show x.shown.length ≤ 16777216 by omega), decide_eq_true (Nat.le_trans h.depth hd)]
  rfl
end CL
end

section
/-! part CLShown -/
set_option Elab.async false
set_option linter.all false
set_option maxRecDepth 100000
/-! CLShown: what is shown of small data is plain signs. -/
namespace CL
open PySem PySem.Spec PyProof.Rows L2

theorem sign_app {a b : Str} (ha : signOk a = true) (hb : signOk b = true) : signOk (a ++ b) = true := by
  unfold signOk at *
  rw [show (a ++ b).cps.toList = a.cps.toList ++ b.cps.toList from TL.tl_append a b, List.all_append, ha, hb]; rfl
theorem sign_join {s : Str} (hs : signOk s = true) : ∀ {ts : List Str}, (∀ t ∈ ts, signOk t = true) → signOk (Str.join s ts) = true
  | [], _ => rfl
  | [x], h => h x List.mem_cons_self
  | x :: y :: r, h => sign_app (sign_app (h x List.mem_cons_self) hs) (sign_join hs fun t ht => h t (List.mem_cons_of_mem _ ht))
theorem sign_from : ∀ {ts : List Str} {k : Nat} {acc : Str}, signOk acc = true → (∀ t ∈ ts, signOk t = true) → signOk (textFrom k acc ts) = true
  | [], _, _, h, _ => h
  | t :: ts, k, acc, h, ht => by
    unfold textFrom
    refine sign_from (sign_app (sign_app h ?_) (ht t List.mem_cons_self)) fun u hu => ht u (List.mem_cons_of_mem _ hu)
    split <;> decide +kernel
theorem fold_flat (f : Nat → List Nat) : ∀ (l : List Nat) (acc : Array Nat), (l.foldl (fun out c => out ++ (f c).toArray) acc).toList = acc.toList ++ l.flatMap f
  | [], acc => by simp
  | c :: l, acc => by rw [List.foldl_cons, fold_flat f l]; simp
theorem char_low (q : Nat) (hq : q = 34 ∨ q = 39) : ∀ c, c < 128 → ∀ y ∈ Builtin.Str.reprChar q c, y < 128 := by
  have h : [34, 39].all (fun q => (List.range 128).all fun c => (Builtin.Str.reprChar q c).all fun y => decide (y < 128)) = true := by decide +kernel
  intro c hc y hy
  have h1 := List.all_eq_true.mp h q (by rcases hq with rfl | rfl <;> simp)
  have h2 := List.all_eq_true.mp h1 c (List.mem_range.mpr hc)
  exact of_decide_eq_true (List.all_eq_true.mp h2 y hy)
theorem sign_repr {z : Str} (h : signOk z = true) : signOk (reprText z) = true := by
  have hq : reprQuote z = 34 ∨ reprQuote z = 39 := by unfold reprQuote; split <;> simp
  have hl : reprQuote z < 128 := by omega
  refine List.all_eq_true.mpr fun c hc => decide_eq_true ?_
  unfold reprText at hc
  simp only [Array.toList_push, ← Array.foldl_toList] at hc
  rw [fold_flat] at hc
  simp only [List.mem_append, List.mem_singleton, List.mem_flatMap] at hc
  rcases hc with (hc | ⟨u, hu, hc⟩) | hc
  · have : c = reprQuote z := by simpa using hc
    omega
  · exact char_low _ hq u (signs_lt h u hu) c hc
  · omega
theorem dig_low (n : Nat) : ∀ c ∈ TL.numL n, c < 128 := fun c hc => by
  have := TL.numL_digits n c hc
  omega
theorem sign_num (i : Int) : signOk (Str.ofString (toString i)) = true := by
  unfold signOk
  rw [List.all_eq_true]
  intro c hc
  refine decide_eq_true ?_
  cases i with
  | ofNat n => exact dig_low n c (by rw [← TL.tl_num]; exact hc)
  | negSucc n =>
    have e : toString (Int.negSucc n) = "-" ++ toString ((n + 1 : Nat) : Int) := rfl
    have hc : c ∈ TL.tl (Str.ofString (toString (Int.negSucc n))) := hc
    rw [e, TL.tl_ofString, String.toList_append, List.map_append, ← TL.tl_ofString, ← TL.tl_ofString, TL.tl_num] at hc
    rcases List.mem_append.mp hc with hc | hc
    · have : ∀ c ∈ TL.tl (Str.ofString "-"), c < 128 := by decide +kernel
      exact this c hc
    · exact dig_low _ c hc
mutual
theorem sign_shown : ∀ x : PyData, okd x = true → signOk x.shown = true
  | .none, _ => by simp only [PyData.shown]; decide +kernel
  | .bool b, _ => by cases b <;> (simp only [PyData.shown]; decide +kernel)
  | .int i, _ => by simp only [PyData.shown]; exact sign_num i
  | .str z, h => by simp only [PyData.shown]; exact sign_repr (by simpa [okd] using h)
  | .list xs, h => by
    simp only [PyData.shown]
    unfold listText
    exact sign_app (sign_from (by decide +kernel) (signs_shown xs (by simpa [okd] using h))) (by decide +kernel)
  | .tuple xs, h => by
    simp only [PyData.shown]
    unfold tupleText
    refine sign_app (sign_app (by decide +kernel) (sign_join (by decide +kernel) (signs_shown xs (by simpa [okd] using h)))) ?_
    split <;> decide +kernel
  | .dict _, h => by simp [okd] at h
theorem signs_shown : ∀ xs : List PyData, okds xs = true → ∀ t ∈ PyData.shownAll xs, signOk t = true
  | [], _, t, ht => by simp [PyData.shownAll] at ht
  | x :: xs, h, t, ht => by
    simp only [okds, Bool.and_eq_true] at h
    simp only [PyData.shownAll] at ht
    rcases List.mem_cons.mp ht with e | ht
    · subst e; exact sign_shown x h.1
    · exact signs_shown xs h.2 t ht
end
/-- a text differs not from itself -/
theorem ne_self {z : Str} (h : signOk z = true) : neP (.str z) (.str z) = some (.bool false) := by
  have ok : okD (.str z) = true := by
    have : okd (.str z) = true := by simpa [okd] using h
    have g : Gd z.length 0 (.str z) := ⟨this, by simp [PyData.bulk, Str.length], by simp [PyData.depth]⟩
    exact g.okD (by decide)
  unfold neP
  rw [ok]
  simp [PyData.eqv]
end CL
end

section
/-! part CLHelp -/
set_option Elab.async false
set_option linter.all false
set_option maxRecDepth 100000
set_option maxHeartbeats 1000000
/-! CLHelp: helpers that the laws share. -/
namespace CL
open PySem PySem.Spec PyProof.Rows L2
section
variable {σ : En} {S : So}
theorem Ret_dDc (vs : List Nat) (it : DI) (tg : Tg) (c : DT) (key val : DE) (P : W → So → Prop) : Ret (dDc vs it tg c key val σ S) P ↔ Ret (it σ S) fun p S1 => Ret (dcGo p.2 p.1 S1.length vs σ tg c key val p.1 (S1 ++ [.dk []])) P := by unfold dDc; simp
theorem Ret_dItems (d : DE) (P : List PyData × Option Nat → So → Prop) : Ret (dItems d σ S) P ↔ Ret (d σ S) fun w S1 => ∃ xs, lkItems S1 w = some xs ∧ small xs.length = true ∧ P (xs, none) S1 := by
  unfold dItems
  simp only [Ret_bnd, Ret_giv, Option.bind_eq_some_iff]
  apply Iff.of_eq; congr; funext w S1
  apply propext
  constructor
  · rintro ⟨q, ⟨xs, h1, h2⟩, h3⟩
    split at h2
    · rename_i hz; cases h2; exact ⟨xs, h1, hz, h3⟩
    · cases h2
  · rintro ⟨xs, h1, hz, h3⟩
    exact ⟨(xs, none), ⟨xs, h1, by rw [if_pos hz]⟩, h3⟩
theorem Ret_dSortSet (d : DE) (P : List PyData → So → Prop) : Ret (dSortSet d σ S) P ↔ Ret (d σ S) fun w S1 => ∃ xs, lstW S1 w = some xs ∧ ∃ ys, sortSet xs = some ys ∧ P ys S1 := by
  unfold dSortSet
  simp only [Ret_bnd, Ret_giv, Option.bind_eq_some_iff]
  apply Iff.of_eq; congr; funext w S1
  apply propext
  exact ⟨fun ⟨y, ⟨x, a, b⟩, c⟩ => ⟨x, a, y, b, c⟩, fun ⟨x, a, y, b, c⟩ => ⟨y, ⟨x, a, b⟩, c⟩⟩
theorem Ret_dFnK (F : DF) (π : List Nat) (as : DA) (P : W → So → Prop) : Ret (dFnK F π as σ S) P ↔ Ret (as σ S) fun ws S1 => ws.length = π.length ∧ Ret (F (pick π ws) S1) P := by
  unfold dFnK
  simp only [Ret_bnd]
  apply Iff.of_eq; congr; funext ws S1
  by_cases h : ws.length = π.length <;> simp [h]
theorem Ret_dLockE (i : Nat) (d : DE) (P : W → So → Prop) : Ret (dLockE i d σ S) P ↔ ∃ n ob S1, lockS σ i S = some (n, ob, S1) ∧ Ret (d σ S1) fun w S2 => P w (S2.set n ob) := by
  unfold dLockE
  constructor
  · intro h
    split at h
    · rename_i n ob S1 e
      refine ⟨n, ob, S1, e, ?_⟩
      split at h
      · rename_i e2; rw [e2]; exact h
      · exact h.elim
    · exact h.elim
  · rintro ⟨n, ob, S1, e, h⟩
    rw [e]
    unfold Ret at h
    split at h
    · rename_i e2; simp only [e2]; exact h
    · exact h.elim
end
theorem dc_inv {vs : List Nat} {σ : En} {tg : Tg} {key val : DE} {all : List PyData} {c : DT} {m : Nat} (I : Nat → List (Key × PyData) → So → Prop) (hat : ∀ j kvs S, I j kvs S → S[m]? = some (.dk kvs)) : ∀ (xs : List PyData) (k : Nat) (kvs : List (Key × PyData)) (S : So), I k kvs S →
    (∀ (j : Nat) (x : PyData) (kvs : List (Key × PyData)) (S : So), xs[j]? = some x → I (k + j) kvs S → ∃ σ1, bindT tg (.d x) (wipeW σ vs) = some σ1 ∧ Ret (c σ1 S) fun b S1 => if b = true then Ret (key σ1 S1) fun w S2 => ∃ y, w = .d y ∧ Ret (val σ1 S2) fun u S3 => ∃ z ky, u = .d z ∧ keyP y = some ky ∧ S3[m]? = some (.dk kvs) ∧ small (kvs.length + 1) = true ∧ I (k + j + 1) (putD kvs ky z) (S3.set m (.dk (putD kvs ky z))) else I (k + j + 1) kvs S1) →
    Ret (dcGo none all m vs σ tg c key val xs S) fun w T => w = .r m ∧ ∃ kvs, I (k + xs.length) kvs T
  | [], k, kvs, S, h, _ => by unfold dcGo; exact ⟨rfl, kvs, h⟩
  | x :: xs, k, kvs, S, h, st => by
    obtain ⟨σ1, h1, h2⟩ := st 0 x kvs S rfl h
    unfold dcGo
    rw [if_pos (show keepB none all S = true from rfl), h1]
    dsimp only
    have rest : ∀ kvs' S', I (k + 0 + 1) kvs' S' → Ret (dcGo none all m vs σ tg c key val xs S') fun w T => w = .r m ∧ ∃ kvs, I (k + (x :: xs).length) kvs T := fun acc' S' hI => by
      have := dc_inv (all := all) I hat xs (k + 1) acc' S' hI fun j y acc S hy hI2 => by
        have := st (j + 1) y acc S (by simpa using hy) (by rw [show k + (j + 1) = k + 1 + j by omega]; exact hI2)
        rw [show k + (j + 1) + 1 = k + 1 + j + 1 by omega] at this
        exact this
      rw [List.length_cons, show k + (xs.length + 1) = k + 1 + xs.length by omega]
      exact this
    unfold Ret at h2
    split at h2
    · rename_i b S1 hc
      rw [hc]
      cases b with
      | true =>
        simp only [if_true] at h2
        dsimp only
        split at h2
        · rename_i w S2 he
          obtain ⟨y, rfl, hI⟩ := h2
          rw [he]
          dsimp only
          split at hI
          · rename_i u S3 hv
            obtain ⟨z, ky, rfl, g1, g2, g3, g4⟩ := hI
            rw [hv]
            dsimp only
            rw [g2, g1]
            dsimp only
            rw [if_pos g3]
            exact rest _ _ g4
          · exact hI.elim
        · exact h2.elim
      | false => exact rest _ _ (by simpa using h2)
    · exact h2.elim
theorem Ret_gcd (k : Nat) (x : PyData) (S : So) (P : W → So → Prop) : Ret (gc k (.d x) S) P ↔ P (.d x) (S.take k) := Iff.rfl
theorem small_str {z : Str} {b d : Nat} (h : Gd b d (.str z)) (hb : b ≤ 16777216) : small z.length = true := by
  have h1 := h.bulk
  simp only [PyData.bulk] at h1
  exact decide_eq_true (by show z.cps.size ≤ _; omega)
theorem small_of {n m : Nat} (h : n ≤ m) (hm : m ≤ 16777216 := by decide) : small n = true := decide_eq_true (Nat.le_trans h hm)
theorem bools_map (f : PyData → Bool) : ∀ xs : List PyData, bools (xs.map fun x => .bool (f x)) = some (xs.map f)
  | [] => rfl
  | x :: xs => by simp [bools, bools_map f xs]
theorem sign_of {z : Str} (h : signOk z = true) : ∀ x ∈ CL.signs z, ∃ c, c < 128 ∧ x = .str ⟨#[c]⟩ := fun x hx => by
  unfold CL.signs at hx
  obtain ⟨c, hc, rfl⟩ := List.mem_map.mp hx
  exact ⟨c, signs_lt h c hc, rfl⟩
theorem allB_map (f : PyData → Bool) (xs : List PyData) : (xs.map f).all id = xs.all f := by rw [List.all_map]; rfl
theorem lc_all {vs : List Nat} {σ : En} {i : Nat} {e : DE} {all xs : List PyData} {S : So} (f : PyData → Bool) (h : ∀ x ∈ xs, Ret (e ((wipeW σ vs).set i (some (.d x))) S) fun w T => w = .d (.bool (f x)) ∧ T = S) {P : List PyData → So → Prop} (q : P (xs.map fun x => .bool (f x)) S) :
    Ret (lcGo none all vs σ (.nm i) dYes e xs [] S) P := by
  refine Ret.of (lc_pure (fun _ => true) (fun x => .bool (f x)) _ _ fun x hx => ⟨_, rfl, ⟨rfl, rfl⟩, fun _ => h x hx⟩) ?_
  rw [List.filter_eq_self.mpr fun _ _ => rfl]
  simpa using q
def Cmp (x y : PyData) : Prop := PySem.W.alike x y = true ∧ x ≠ .none ∧ x.depth ≤ 60
theorem ltP_of {x y : PyData} (h : Cmp x y) : ltP x y = some (.bool (ltD x y)) := by
  obtain ⟨h1, h2, h3⟩ := h
  unfold ltP
  rw [if_pos ⟨h1, by cases x <;> simp [eqD] at *, decide_eq_true h3⟩]
theorem cut_one (xs : List PyData) : cutG xs (some 1) none = xs.drop 1 := by
  unfold cutG
  have e : HT.sIx xs.length 0 (some 1) = min 1 xs.length := HT.sIx_nat xs.length 0 1
  rw [e, HT.sIx_none]
  cases xs with
  | nil => rfl
  | cons x r =>
    have e2 : min 1 (x :: r).length = 1 := by simp
    rw [e2]
    simp
theorem cmp_int (a b : Int) : Cmp (.int a) (.int b) := ⟨by simp [PySem.W.alike], by simp, by simp [PyData.depth]⟩
theorem okD_list {xs : List PyData} {b d : Nat} (h : ∀ x ∈ xs, Gd b d x) (hd : d ≤ 60) : okD (.list xs) = true := (Gd.list (Gds.of_mem h)).okD (by omega)
theorem okD_nil : okD (.list []) = true := by decide +kernel
theorem eqv_nil (xs : List PyData) : PyData.eqv (.list xs) (.list []) = xs.isEmpty := by cases xs <;> simp [PyData.eqv, PyData.eqvAll]
theorem eq_nil {xs : List PyData} {b d : Nat} (h : ∀ x ∈ xs, Gd b d x) (hd : d ≤ 60) : eqP (.list xs) (.list []) = some (.bool xs.isEmpty) := by
  unfold eqP
  rw [okD_list h hd, okD_nil, eqv_nil]
  rfl
theorem empty_filter (p : PyData → Bool) (xs : List PyData) : (xs.filter fun x => !p x).isEmpty = xs.all p := by
  induction xs with
  | nil => rfl
  | cons x xs ih => cases h : p x <;> simp [h, ih]
theorem sign_gd {c : Nat} (h : c < 128) : Gd 1 0 (.str ⟨#[c]⟩) := ⟨by simp [okd, signOk, h], by simp [PyData.bulk], by simp [PyData.depth]⟩
theorem at_nat {xs : List PyData} {k : Int} (h0 : 0 ≤ k) (h1 : k < xs.length) : L2.atI xs k = some (xs.getD k.toNat .none) := by
  obtain ⟨j, rfl⟩ : ∃ j : Nat, k = (j : Int) := ⟨k.toNat, by omega⟩
  have hlt : j < xs.length := by omega
  refine (L2.atI_nat (v := xs[j]) (List.getElem?_eq_getElem hlt)).trans ?_
  simp [hlt]
theorem rng_mem {a b : Int} {x : PyData} (h : x ∈ rng a b) : ∃ k, x = .int k ∧ a ≤ k ∧ k < b := by
  unfold rng at h
  obtain ⟨i, hi, rfl⟩ := List.mem_map.mp h
  have := List.mem_range.mp hi
  exact ⟨_, rfl, by omega, by omega⟩
theorem okD_ints (ns : List Int) : okD (.list (ns.map PyData.int)) = true := by
  unfold CL.okD SeqAt.shaped
  have h1 : PyData.canLayAll0 (ns.map PyData.int) = true := by
    induction ns with
    | nil => rfl
    | cons n ns ih => simp [PyData.canLayAll0, PyData.canLay0, ih]
  have h2 : PyData.depthAll (ns.map PyData.int) = 0 := by
    induction ns with
    | nil => rfl
    | cons n ns ih => 
      have : PyData.canLayAll0 (ns.map PyData.int) = true := by simpa [PyData.canLayAll0, PyData.canLay0] using h1
      simp [PyData.depthAll, PyData.depth, ih this]
  simp [PyData.canLay0, PyData.depth, h1, h2]
theorem ne_nil_ints (ns : List Int) : neP (.list (ns.map PyData.int)) (.list []) = some (.bool (!ns.isEmpty)) := by
  unfold neP
  rw [okD_ints, okD_nil, eqv_nil]
  simp
theorem o2i {S : So} {f : Int → Int → Option PyData} {a b : Int} {c : PyData} (h : f a b = some c) : on2 (i2 f) S (.d (.int a)) (.d (.int b)) = some (.d c) := by simp [h]
theorem o2 {S : So} {f : PyData → PyData → Option PyData} {a b c : PyData} (h : f a b = some c) : on2 f S (.d a) (.d b) = some (.d c) := by simp [h]
theorem c1o {S : So} {f : PyData → Option PyData} {a c : PyData} (h : f a = some c) : c1 f S [.d a] = some (.d c) := by simp [h]
theorem take_set {S : So} {k : Nat} (o o' : O) : (S.set k o).take (S.set k o').length = S.set k o := by
  rw [List.length_set]
  exact List.take_of_length_le (by simp)
theorem mod_of {a b : Int} (h : 0 < b) : modI a b = some (.int (a % b)) := by unfold modI; rw [if_pos h]
theorem div_of {a b : Int} (h : 0 < b) (h1 : b < 1073741824) : divI a b = some (.int (a / b)) := by unfold divI; rw [if_pos ⟨h, h1⟩]
theorem mul_of {a b : Int} (h : (-18446744073709551616 < a ∧ a < 18446744073709551616) ∨ (-18446744073709551616 < b ∧ b < 18446744073709551616)) : mulI a b = some (.int (a * b)) := by unfold mulI; rw [if_pos h]
theorem om {o : Option PyData} {c : PyData} (h : o = some c) : o.map W.d = some (.d c) := by rw [h]; rfl
theorem eq_int (a b : Int) : eqP (.int a) (.int b) = some (.bool (decide (a = b))) := by
  simp [eqP, okD, SeqAt.shaped, PyData.canLay0, PyData.depth, PyData.eqv]
  by_cases h : a = b <;> simp [h]
theorem lenT (xs : List PyData) : lenP (.tuple xs) = some (.int xs.length) := rfl
theorem lenL (xs : List PyData) : lenP (.list xs) = some (.int xs.length) := rfl
def Sh (y : PyData) : Prop := ∃ z, y = .str z ∧ z.length ≤ 8 ∧ signOk z = true
def Row (n : Nat) (r : PyData) : Prop := ∃ ws, r = .tuple ws ∧ ws.length = n ∧ ∀ y ∈ ws, Sh y
def KSh (q : Key) : Prop := ∃ z, q = .inr z ∧ z.length ≤ 8 ∧ signOk z = true
def KRow (n : Nat) (q : List Key) : Prop := q.length = n ∧ ∀ x ∈ q, KSh x
theorem ksh_d {q : Key} (h : KSh q) : Sh (keyD q) := by obtain ⟨z, rfl, h1, h2⟩ := h; exact ⟨z, rfl, h1, h2⟩
theorem krow_d {n : Nat} {q : List Key} (h : KRow n q) : Row n (tupOf q) := ⟨q.map keyD, rfl, by simp [h.1], fun y hy => by
  obtain ⟨x, hx, rfl⟩ := List.mem_map.mp hy
  exact ksh_d (h.2 x hx)⟩
theorem sh_keys : ∀ {ws : List PyData}, (∀ y ∈ ws, Sh y) → ∃ q, keysP ws = some q ∧ KRow ws.length q
  | [], _ => ⟨[], rfl, rfl, by simp⟩
  | y :: ws, h => by
    obtain ⟨z, rfl, h1, h2⟩ := h y List.mem_cons_self
    obtain ⟨q, g1, g2, g3⟩ := sh_keys fun x hx => h x (List.mem_cons_of_mem _ hx)
    refine ⟨.inr z :: q, by simp [keysP, keyP, g1], by simp [g2], fun x hx => ?_⟩
    rcases List.mem_cons.mp hx with e | hx
    · subst e; exact ⟨z, rfl, h1, h2⟩
    · exact g3 x hx
theorem row_like {n m : Nat} {x y : PyData} (hx : Row n x) (hy : Row m y) : PySem.W.alike x y = true := by
  obtain ⟨xs, rfl, _, h1⟩ := hx
  obtain ⟨ys, rfl, _, h2⟩ := hy
  have : ∀ (xs ys : List PyData), (∀ y ∈ xs, Sh y) → (∀ y ∈ ys, Sh y) → PySem.W.alikeAll xs ys = true := by
    intro xs
    induction xs with
    | nil => intro ys _ _; cases ys <;> simp [PySem.W.alikeAll]
    | cons x xs ih =>
      intro ys h1 h2
      cases ys with
      | nil => simp [PySem.W.alikeAll]
      | cons y ys =>
        obtain ⟨z, rfl, _⟩ := h1 x List.mem_cons_self
        obtain ⟨z', rfl, _⟩ := h2 y List.mem_cons_self
        simp [PySem.W.alikeAll, PySem.W.alike, ih ys (fun q hq => h1 q (List.mem_cons_of_mem _ hq)) fun q hq => h2 q (List.mem_cons_of_mem _ hq)]
  simpa [PySem.W.alike] using this xs ys h1 h2
theorem sh_gd {y : PyData} (h : Sh y) : Gd 8 0 y := by
  obtain ⟨z, rfl, h1, h2⟩ := h
  exact ⟨by simpa [okd] using h2, by simpa [PyData.bulk, Str.length] using h1, by simp [PyData.depth]⟩
theorem row_gd {n : Nat} {y : PyData} (h : Row n y) : Gd (n * 9) 1 y := by
  obtain ⟨ws, rfl, h1, h2⟩ := h
  have := Gds.of_mem fun x hx => sh_gd (h2 x hx)
  rw [h1] at this
  exact Gd.tuple this
theorem depthAll_le {d : Nat} : ∀ {xs : List PyData}, (∀ x ∈ xs, x.depth ≤ d) → PyData.depthAll xs ≤ d
  | [], _ => Nat.zero_le _
  | x :: xs, h => by simp only [PyData.depthAll]; exact Nat.max_le.mpr ⟨h x List.mem_cons_self, depthAll_le fun y hy => h y (List.mem_cons_of_mem _ hy)⟩
def KOk (n : Nat) (kvs : List (List Key × PyData)) : Prop := ∀ q ∈ kvs, KRow n q.1
theorem keysOf_row {n : Nat} {kvs : List (List Key × PyData)} (h : KOk n kvs) : ∀ x ∈ keysOf kvs, Row n x := fun x hx => by
  obtain ⟨q, hq, rfl⟩ := List.mem_map.mp hx
  exact krow_d (h q hq)
theorem rows_sort {n : Nat} (hn : 0 < n) {xs : List PyData} (h : ∀ x ∈ xs, Row n x) (hl : xs.length ≤ 1000) : sortOk xs = true := by
  have h1 : likeAll xs = true := List.all_eq_true.mpr fun x hx => List.all_eq_true.mpr fun y hy => row_like (h x hx) (h y hy)
  have h2 : xs.all fullTup = true := List.all_eq_true.mpr fun x hx => by
    obtain ⟨ws, rfl, e, _⟩ := h x hx
    cases ws with
    | nil => simp at e; omega
    | cons _ _ => rfl
  have h3 : (xs.all fun x => decide (x.depth ≤ 60)) = true := List.all_eq_true.mpr fun x hx => decide_eq_true (Nat.le_trans (row_gd (h x hx)).depth (by decide))
  unfold sortOk
  rw [h1, h2, h3, small_of hl]
  rfl
theorem srt_mem {xs : List PyData} {x : PyData} (h : x ∈ srtD xs) : x ∈ xs := List.mem_mergeSort.mp h
theorem srt_len (xs : List PyData) : (srtD xs).length = xs.length := by unfold srtD; exact List.length_mergeSort _
theorem putD_ok {n : Nat} {kvs : List (List Key × PyData)} {q : List Key} {v : PyData} (h : KOk n kvs) (hq : KRow n q) : KOk n (putD kvs q v) := by
  unfold putD
  split
  · intro p hp
    obtain ⟨r, hr, rfl⟩ := List.mem_map.mp hp
    split
    · exact h r hr
    · exact h r hr
  · intro p hp
    rcases List.mem_append.mp hp with hp | hp
    · exact h p hp
    · rw [List.mem_singleton] at hp; subst hp; exact hq
theorem putD_len {κ : Type} [DecidableEq κ] (kvs : List (κ × PyData)) (q : κ) (v : PyData) : (putD kvs q v).length ≤ kvs.length + 1 ∧ 0 < (putD kvs q v).length := by
  unfold putD
  split
  · rename_i h
    rw [List.length_map]
    refine ⟨by omega, ?_⟩
    cases kvs with
    | nil => simp at h
    | cons _ _ => simp
  · simp
theorem mergeTD_ok {n : Nat} : ∀ {ps : List (List Key × PyData)} {kvs : List (List Key × PyData)}, KOk n kvs → KOk n ps → KOk n (mergeTD kvs ps) ∧ (mergeTD kvs ps).length ≤ kvs.length + ps.length
  | [], kvs, h, _ => ⟨h, Nat.le_refl _⟩
  | q :: ps, kvs, h, hp => by
    obtain ⟨h1, h2⟩ := mergeTD_ok (ps := ps) (kvs := putD kvs q.1 q.2) (putD_ok h (hp q List.mem_cons_self)) fun x hx => hp x (List.mem_cons_of_mem _ hx)
    have := (putD_len kvs q.1 q.2).1
    exact ⟨h1, by show (mergeTD (putD kvs q.1 q.2) ps).length ≤ _; rw [List.length_cons]; omega⟩
theorem prs_pairs : ∀ {zs : List PyData}, (∀ z ∈ zs, Row 2 z) → ∃ ps, prsP (zs.map fun z => .tuple [z, .bool true]) = some ps ∧ KOk 2 ps ∧ ps.length = zs.length
  | [], _ => ⟨[], rfl, (fun q hq => nomatch hq), rfl⟩
  | z :: zs, h => by
    obtain ⟨ws, rfl, e, hw⟩ := h z List.mem_cons_self
    obtain ⟨q, g1, g2⟩ := sh_keys hw
    obtain ⟨ps, g3, g4, g5⟩ := prs_pairs fun x hx => h x (List.mem_cons_of_mem _ hx)
    refine ⟨(q, .bool true) :: ps, by simp [prsP, prP, g1, g3], fun x hx => ?_, by simp [g5]⟩
    rcases List.mem_cons.mp hx with e2 | hx
    · subst e2; rw [e] at g2; exact g2
    · exact g4 x hx
theorem last_at {T0 : So} {o : O} : (T0 ++ [o])[T0.length]? = some o := by simp
theorem last_set {T0 : So} {o o' : O} : (T0 ++ [o]).set T0.length o' = T0 ++ [o'] := by simp
theorem at0 {a b : PyData} : atP (.tuple [a, b]) (.int 0) = some a := by simp [atP, L2.atI, L2.ixN]
theorem at1 {a b : PyData} : atP (.tuple [a, b]) (.int 1) = some b := by simp [atP, L2.atI, L2.ixN]
def Tab (n : Nat) (g : PyData) : Prop := ∃ hs rs, g = .tuple [.tuple hs, .tuple rs] ∧ hs.length = n ∧ (∀ x ∈ hs, Sh x) ∧ rs ≠ [] ∧ rs.length ≤ 20 ∧ ∀ r ∈ rs, Row n r
theorem zip_rows {hs ws : List PyData} (h : ∀ x ∈ hs, Sh x) (hw : ∀ x ∈ ws, Sh x) : ∀ z ∈ zipD hs ws, Row 2 z := fun z hz => by
  unfold zipD at hz
  obtain ⟨⟨a, b⟩, hp, rfl⟩ := List.mem_map.mp hz
  obtain ⟨h1, h2⟩ := List.of_mem_zip hp
  refine ⟨[a, b], rfl, rfl, fun y hy => ?_⟩
  rcases List.mem_cons.mp hy with e | hy
  · subst e; exact h _ h1
  · rw [List.mem_singleton] at hy; subst hy; exact hw _ h2
def gdB (b d : Nat) (x : PyData) : Bool := okd x && decide (x.bulk ≤ b) && decide (x.depth ≤ d)
theorem gdB_of {b d : Nat} {x : PyData} (h : gdB b d x = true) : Gd b d x := by
  unfold gdB at h
  simp only [Bool.and_eq_true, decide_eq_true_eq] at h
  exact ⟨h.1.1, h.1.2, h.2⟩

def shB : PyData → Bool
  | .str z => decide (z.length ≤ 8) && signOk z
  | _ => false
theorem sh_of {y : PyData} (h : shB y = true) : Sh y := by
  unfold shB at h
  split at h
  · simp only [Bool.and_eq_true, decide_eq_true_eq] at h
    exact ⟨_, rfl, h.1, h.2⟩
  · cases h
theorem sh_like {x y : PyData} (hx : Sh x) (hy : Sh y) : PySem.W.alike x y = true := by
  obtain ⟨z, rfl, _⟩ := hx
  obtain ⟨z', rfl, _⟩ := hy
  simp [PySem.W.alike]
theorem shs_sort {xs : List PyData} (h : ∀ x ∈ xs, Sh x) (hl : xs.length ≤ 1000) : sortOk xs = true := by
  have h1 : likeAll xs = true := List.all_eq_true.mpr fun x hx => List.all_eq_true.mpr fun y hy => sh_like (h x hx) (h y hy)
  have h2 : xs.all flatD = true := List.all_eq_true.mpr fun x hx => by
    obtain ⟨ws, rfl, e, _⟩ := h x hx
    rfl
  have h3 : (xs.all fun x => decide (x.depth ≤ 60)) = true := List.all_eq_true.mpr fun x hx => decide_eq_true (Nat.le_trans (sh_gd (h x hx)).depth (by decide))
  unfold sortOk
  rw [h1, h2, h3, small_of hl]
  simp
theorem rng0_len (n : Int) : (rng 0 n).length = n.toNat := by simp [rng]
theorem rng_at {n : Int} {j : Nat} {x : PyData} (h : (rng 0 n)[j]? = some x) : x = .int j ∧ (j : Int) < n := by
  have h1 := (List.getElem?_eq_some_iff.mp h)
  obtain ⟨h2, h3⟩ := h1
  rw [rng_len] at h2
  refine ⟨?_, by omega⟩
  subst h3
  simp [rng]
theorem minD_mem (x : PyData) (xs : List PyData) : PySem.W.minD x xs ∈ x :: xs := by
  unfold PySem.W.minD
  induction xs generalizing x with
  | nil => simp
  | cons y ys ih =>
    rw [List.foldl_cons]
    have := ih (if PySem.W.dataLt y x then y else x)
    rcases List.mem_cons.mp this with e | h
    · rw [e]
      split
      · exact List.mem_cons_of_mem _ List.mem_cons_self
      · exact List.mem_cons_self
    · exact List.mem_cons_of_mem _ (List.mem_cons_of_mem _ h)
theorem Ret_dLockN (i : Nat) (d : DN) {σ : En} {S : So} (P : List PyData → So → Prop) : Ret (dLockN i d σ S) P ↔ ∃ n ob S1, lockS σ i S = some (n, ob, S1) ∧ Ret (d σ S1) fun xs S2 => P xs (S2.set n ob) := by
  unfold dLockN
  constructor
  · intro h
    split at h
    · rename_i n ob S1 e
      refine ⟨n, ob, S1, e, ?_⟩
      split at h
      · rename_i e2; rw [e2]; exact h
      · exact h.elim
    · exact h.elim
  · rintro ⟨n, ob, S1, e, h⟩
    rw [e]
    unfold Ret at h
    split at h
    · rename_i e2; simp only [e2]; exact h
    · exact h.elim
def tupL : PyData → List PyData
  | .tuple xs => xs
  | _ => []
theorem set_same {α : Type} {l : List α} {n : Nat} {a : α} (h : l[n]? = some a) : l.set n a = l := by
  obtain ⟨h1, rfl⟩ := List.getElem?_eq_some_iff.mp h
  exact List.set_getElem_self h1
theorem txts_sh : ∀ {ds : List PyData}, (∀ y ∈ ds, Sh y) → ∃ xs, txts ds = some xs ∧ xs.length = ds.length
  | [], _ => ⟨[], rfl, rfl⟩
  | y :: ds, h => by
    obtain ⟨z, rfl, _⟩ := h y List.mem_cons_self
    obtain ⟨xs, h1, h2⟩ := txts_sh fun x hx => h x (List.mem_cons_of_mem _ hx)
    exact ⟨z :: xs, by simp [txts, h1], by simp [h2]⟩
theorem addT {S : So} {a b : List PyData} (h : a.length + b.length ≤ 1000) : addW S (.d (.tuple a)) (.d (.tuple b)) = some (.d (.tuple (a ++ b))) := by
  show (if small (a.length + b.length) = true then some (PyData.tuple (a ++ b)) else none).map W.d = _
  rw [if_pos (small_of h)]; rfl
theorem addT' {S : So} {a b : List PyData} (h : a.length + b.length ≤ 1000000) : addW S (.d (.tuple a)) (.d (.tuple b)) = some (.d (.tuple (a ++ b))) := by
  show (if small (a.length + b.length) = true then some (PyData.tuple (a ++ b)) else none).map W.d = _
  rw [if_pos (small_of h)]; rfl
theorem ltD_int (a b : Int) : ltD (.int a) (.int b) = decide (a < b) := by
  simp [ltD]
theorem addS {S : So} {a b : Str} (h : a.length + b.length ≤ 1000000) : addW S (.d (.str a)) (.d (.str b)) = some (.d (.str (a ++ b))) := by
  show (if small (a.length + b.length) = true then some (PyData.str (a ++ b)) else none).map W.d = _
  rw [if_pos (small_of h)]; rfl
theorem cut63 {xs : List PyData} (h : xs.length ≤ 63) : cutG xs none (some 63) = xs := by
  unfold cutG
  rw [HT.sIx_none, show (63 : Int) = ((63 : Nat) : Int) from rfl, HT.sIx_nat, show min 63 xs.length = xs.length by omega]
  simp
/-- the reader at k, whatever it has read -/
def Rdr (P : O → Prop) (k : Nat) (S T : So) : Prop := ∃ o, P o ∧ T = S.set k o
section
variable {P : O → Prop} {S T : So} {k : Nat} {l : List O} (hk : k < S.length)
include hk
theorem rdr_form (h : Rdr P k (S ++ l) T) : ∃ o, P o ∧ T = S.set k o ++ l := by
  obtain ⟨o, h, rfl⟩ := h
  exact ⟨o, h, by rw [List.set_append_left _ _ hk]⟩
theorem rdr_at (h : Rdr P k (S ++ l) T) (i : Nat) : T[S.length + i]? = l[i]? := by
  obtain ⟨o, h, rfl⟩ := rdr_form hk h
  rw [List.getElem?_append_right (by rw [List.length_set]; omega), List.length_set, Nat.add_sub_cancel_left]
theorem rdr_set (h : Rdr P k (S ++ l) T) (i : Nat) (o : O) : Rdr P k (S ++ l.set i o) (T.set (S.length + i) o) := by
  obtain ⟨u, hu, rfl⟩ := rdr_form hk h
  refine ⟨u, hu, ?_⟩
  rw [List.set_append_right _ _ (by rw [List.length_set]; omega), List.length_set, Nat.add_sub_cancel_left, List.set_append_left _ _ hk]
theorem rdr_push (h : Rdr P k (S ++ l) T) (o : O) : Rdr P k (S ++ (l ++ [o])) (T ++ [o]) := by
  obtain ⟨u, hu, rfl⟩ := rdr_form hk h
  refine ⟨u, hu, ?_⟩
  rw [List.set_append_left _ _ hk, List.append_assoc]
theorem rdr_take (h : Rdr P k (S ++ l) T) : Rdr P k S (T.take S.length) := by
  obtain ⟨u, hu, rfl⟩ := rdr_form hk h
  exact ⟨u, hu, by rw [List.take_append_of_le_length (by simp)]; exact List.take_of_length_le (by simp)⟩
theorem rdr_len (h : Rdr P k (S ++ l) T) : T.length = S.length + l.length := by
  obtain ⟨o, _, rfl⟩ := h
  simp
end
section
variable {P : O → Prop} {S T T0 : So} {k : Nat}
theorem rdr0 (h : Rdr P k S T) : Rdr P k (S ++ []) T := by rwa [List.append_nil]
theorem rdr1 (h : Rdr P k (S ++ []) T) : Rdr P k S T := by rwa [List.append_nil] at h
theorem rdr_lenS (h : Rdr P k S T) : T.length = S.length := by obtain ⟨o, _, rfl⟩ := h; simp
theorem rdr_takeS (h : Rdr P k S T) (h0 : Rdr P k S T0) : T.take T0.length = T := List.take_of_length_le (by rw [rdr_lenS h, rdr_lenS h0]; exact Nat.le_refl _)
end
theorem at_set {S : So} {k : Nat} (hk : k < S.length) (o : O) : (S.set k o)[k]? = some o := List.getElem?_set_self hk
theorem lc_invK {vs : List Nat} {σ : En} {tg : Tg} {c : DT} {e : DE} {all : List PyData} {o : Option Nat} (I : Nat → List PyData → So → Prop) (hK : ∀ j acc S, I j acc S → keepB o all S = true) : ∀ (xs : List PyData) (k : Nat) (acc : List PyData) (S : So), I k acc S →
    (∀ (j : Nat) (x : PyData) (acc : List PyData) (S : So), xs[j]? = some x → I (k + j) acc S → ∃ σ1, bindT tg (.d x) (wipeW σ vs) = some σ1 ∧ Ret (c σ1 S) fun b S1 => if b = true then Ret (e σ1 S1) fun w S2 => ∃ y, w = .d y ∧ I (k + j + 1) (acc ++ [y]) S2 else I (k + j + 1) acc S1) →
    Ret (lcGo o all vs σ tg c e xs acc S) (I (k + xs.length))
  | [], k, acc, S, h, _ => by unfold lcGo; rw [if_pos (hK _ _ _ h)]; exact h
  | x :: xs, k, acc, S, h, st => by
    obtain ⟨σ1, h1, h2⟩ := st 0 x acc S rfl h
    unfold lcGo
    rw [if_pos (hK _ _ _ h), h1]
    dsimp only
    have rest : ∀ acc' S', I (k + 0 + 1) acc' S' → Ret (lcGo o all vs σ tg c e xs acc' S') (I (k + (x :: xs).length)) := fun acc' S' hI => by
      have := lc_invK (all := all) I hK xs (k + 1) acc' S' hI fun j y acc S hy hI2 => by
        have := st (j + 1) y acc S (by simpa using hy) (by rw [show k + (j + 1) = k + 1 + j by omega]; exact hI2)
        rw [show k + (j + 1) + 1 = k + 1 + j + 1 by omega] at this
        exact this
      rw [List.length_cons, show k + (xs.length + 1) = k + 1 + xs.length by omega]
      exact this
    unfold Ret at h2
    split at h2
    · rename_i b S1 hc
      rw [hc]
      cases b with
      | true =>
        simp only [if_true] at h2
        dsimp only
        split at h2
        · rename_i w S2 he
          obtain ⟨y, rfl, hI⟩ := h2
          rw [he]
          exact rest _ _ hI
        · exact h2.elim
      | false => exact rest _ _ (by simpa using h2)
    · exact h2.elim
theorem lc_pureK {vs : List Nat} {σ : En} {tg : Tg} {c : DT} {e : DE} {all : List PyData} {S : So} {o : Option Nat} (hK : keepB o all S = true) (p : PyData → Bool) (f : PyData → PyData) : ∀ (xs acc : List PyData), (∀ x ∈ xs, ∃ σ1, bindT tg (.d x) (wipeW σ vs) = some σ1 ∧ Ret (c σ1 S) (fun b S1 => b = p x ∧ S1 = S) ∧ (p x = true → Ret (e σ1 S) fun w S2 => w = .d (f x) ∧ S2 = S)) →
    lcGo o all vs σ tg c e xs acc S = some (.ok (acc ++ (xs.filter p).map f) S)
  | [], acc, _ => by unfold lcGo; rw [if_pos hK]; simp
  | x :: xs, acc, h => by
    obtain ⟨σ1, h1, h2, h3⟩ := h x List.mem_cons_self
    have ih := fun acc' => lc_pureK (σ := σ) (vs := vs) (tg := tg) (c := c) (e := e) (all := all) (S := S) hK p f xs acc' fun y hy => h y (List.mem_cons_of_mem _ hy)
    unfold lcGo
    rw [if_pos hK, h1]
    dsimp only
    rw [h2.eq]
    cases hp : p x with
    | true =>
      dsimp only
      rw [(h3 hp).eq]
      dsimp only
      rw [ih]
      simp [hp]
    | false =>
      dsimp only
      rw [ih]
      simp [hp]
theorem for_invK {tg : Tg} {b : DS} {all : List PyData} {N : En → So → Prop} {R : W → So → Prop} {o : Option Nat} (I : Nat → En → So → Prop) (hK : ∀ j σ S, I j σ S → keepB o all S = true) : ∀ (xs : List PyData) (k : Nat) (σ : En) (S : So), I k σ S → (∀ σ S, I (k + xs.length) σ S → N σ S) →
    (∀ (j : Nat) (x : PyData) (σ : En) (S : So), xs[j]? = some x → I (k + j) σ S → ∃ σ1, bindT tg (.d x) σ = some σ1 ∧ RetS (b σ1 S) (I (k + j + 1)) R) → RetS (forGo o all tg b xs σ S) N R
  | [], k, σ, S, h, hN, _ => by unfold forGo; rw [if_pos (hK _ _ _ h)]; exact hN σ S h
  | x :: xs, k, σ, S, h, hN, st => by
    obtain ⟨σ1, h1, h2⟩ := st 0 x σ S rfl h
    unfold forGo
    rw [if_pos (hK _ _ _ h), h1]
    dsimp only
    unfold RetS at h2
    split at h2
    · rename_i σ2 S2 he
      rw [he]
      exact for_invK I hK xs (k + 1) σ2 S2 h2 (fun σ S q => hN σ S (by rw [List.length_cons, show k + (xs.length + 1) = k + 1 + xs.length by omega]; exact q)) fun j y σ S hy hI2 => by
        have := st (j + 1) y σ S (by simpa using hy) (by rw [show k + (j + 1) = k + 1 + j by omega]; exact hI2)
        rw [show k + (j + 1) + 1 = k + 1 + j + 1 by omega] at this
        exact this
    · rename_i w S2 he
      rw [he]
      exact h2
    · exact h2.elim
theorem keep_at {S : So} {n : Nat} {xs : List PyData} (h : S[n]? = some (.lst xs)) (hp : plDs xs = true) : keepB (some n) xs S = true := by
  unfold keepB
  simp only [h]
  exact eqDs_refl xs hp
theorem cut_mem {α : Type} {xs : List α} {lo hi : Option Int} {y : α} (h : y ∈ cutG xs lo hi) : y ∈ xs := List.mem_of_mem_drop (List.mem_of_mem_take h)
theorem cut_hi {α : Type} (xs : List α) (b : Nat) : cutG xs none (some (b : Int)) = xs.take b := by
  unfold cutG
  rw [HT.sIx_none, HT.sIx_nat]
  simp
theorem cut_len {α : Type} (xs : List α) (a b : Nat) (h : a ≤ b) (h2 : b ≤ xs.length) : (cutG xs (some (a : Int)) (some (b : Int))).length = b - a := by
  unfold cutG
  rw [HT.sIx_nat, HT.sIx_nat]
  simp
  omega
/-- a def, as one says it -/
theorem fnB_iff {G : Nat → W → So → M W} {np nN : Nat} {body : DS} {ws : List W} {S : So} {P : W → So → Prop} (hl : ws.length = np) : Ret (fnB G np nN body ws S) P ↔ RetS (body (startW nN ws) S) (fun _ S' => P (.d .none) (S'.take S.length)) fun w S' => Ret (G S.length w S') P := by
  unfold fnB
  rw [if_pos hl]
  unfold RetS
  generalize body (startW nN ws) S = o
  cases o with
  | none => exact Iff.rfl
  | some o => cases o <;> exact Iff.rfl
end CL
end

section
/-! part LM16a -/
set_option Elab.async false
set_option linter.all false
set_option maxRecDepth 100000
set_option maxHeartbeats 1000000
/-! LM16a: the reader and what is drawn. -/
open CL
open PySem PySem.Spec PyProof.Rows L2
namespace LK16
def rdK (c : List PyData) (n r d : Int) : List (Key × PyData) := [(.inr "cells", .list c), (.inr "at", .int n), (.inr "rest", .int r), (.inr "draws", .int d)]
section
variable (c : List PyData) (n r d : Int)
theorem val_c : valD (rdK c n r d) (.inr "cells") = some (.list c) := rfl
theorem val_n : valD (rdK c n r d) (.inr "at") = some (.int n) := rfl
theorem val_r : valD (rdK c n r d) (.inr "rest") = some (.int r) := rfl
theorem val_d : valD (rdK c n r d) (.inr "draws") = some (.int d) := rfl
theorem put_n (x : Int) : putD (rdK c n r d) (.inr "at") (.int x) = rdK c x r d := rfl
theorem put_r (x : Int) : putD (rdK c n r d) (.inr "rest") (.int x) = rdK c n x d := rfl
theorem put_d (x : Int) : putD (rdK c n r d) (.inr "draws") (.int x) = rdK c n r x := rfl
theorem len_k : (rdK c n r d).length = 4 := rfl
end
abbrev rdO (ns : List Int) (n r d : Int) : O := .dk (rdK (ns.map PyData.int) n r d)
section
variable {S : So} {k : Nat} {ns : List Int} {n r d : Int} (hk : k < S.length)
include hk
theorem get_c : dgetW (S.set k (rdO ns n r d)) (.r k) (.d (.str "cells")) = some (.d (.list (ns.map PyData.int))) := by
  simp only [dgetW, at_set hk, keyP, Option.bind_some, val_c, Option.map_some]
theorem get_n : dgetW (S.set k (rdO ns n r d)) (.r k) (.d (.str "at")) = some (.d (.int n)) := by
  simp only [dgetW, at_set hk, keyP, Option.bind_some, val_n, Option.map_some]
theorem get_r : dgetW (S.set k (rdO ns n r d)) (.r k) (.d (.str "rest")) = some (.d (.int r)) := by
  simp only [dgetW, at_set hk, keyP, Option.bind_some, val_r, Option.map_some]
theorem get_d : dgetW (S.set k (rdO ns n r d)) (.r k) (.d (.str "draws")) = some (.d (.int d)) := by
  simp only [dgetW, at_set hk, keyP, Option.bind_some, val_d, Option.map_some]
theorem set_n (x : Int) : dputW (S.set k (rdO ns n r d)) (.r k) (.d (.str "at")) (.d (.int x)) = some (S.set k (rdO ns x r d)) := by
  simp only [dputW, at_set hk, keyP, Option.map_some, put_n, List.set_set, len_k]; rfl
theorem set_r (x : Int) : dputW (S.set k (rdO ns n r d)) (.r k) (.d (.str "rest")) (.d (.int x)) = some (S.set k (rdO ns n x d)) := by
  simp only [dputW, at_set hk, keyP, Option.map_some, put_r, List.set_set, len_k]; rfl
theorem set_d (x : Int) : dputW (S.set k (rdO ns n r d)) (.r k) (.d (.str "draws")) (.d (.int x)) = some (S.set k (rdO ns n r x)) := by
  simp only [dputW, at_set hk, keyP, Option.map_some, put_d, List.set_set, len_k]; rfl
end
def RdO (ns : List Int) (o : O) : Prop := ∃ n r d, o = rdO ns n r d
theorem draw_ok {S : So} {k : Nat} {ns : List Int} {n r d : Int} (hk : k < S.length) {m : Int} (h0 : 0 < m) (h1 : m < 1073741824) :
    Ret (f_l_draw [.r k, .d (.int m)] (S.set k (rdO ns n r d))) fun w T => (∃ x, w = .d (.int x) ∧ 0 ≤ x ∧ x < m) ∧ Rdr (RdO ns) k S T := by
  have fin : ∀ (x n' r' d' : Int), 0 ≤ x → x < m → Ret (gc (S.set k (rdO ns n r d)).length (.d (.int x)) (S.set k (rdO ns n' r' d'))) fun w T => (∃ x, w = .d (.int x) ∧ 0 ≤ x ∧ x < m) ∧ Rdr (RdO ns) k S T := fun x n' r' d' a b => by
    rw [Ret_gcd]
    exact ⟨⟨x, rfl, a, b⟩, _, ⟨n', r', d', rfl⟩, take_set _ _⟩
  have b0 : ∀ y : Int, 0 ≤ y % m := fun y => Int.emod_nonneg _ (by omega)
  have b1 : ∀ y : Int, y % m < m := fun y => Int.emod_lt_of_pos _ h0
  refine Ret_fnB rfl ?_
  unfold b_l_draw
  simp only [RetS_cons, RetS_nil, RetS_set, RetS_drop, RetS_ret, RetS_if, RetS_asg, RetS_par, RetS_put, RetS_nx, RetS_rt, Ret_dFn, Ret_dCons, Ret_dNil, Ret_dBin, Ret_dUn, Ret_dCall, Ret_dCallN, Ret_dC, Ret_dG, Ret_dVar, Ret_dFz, Ret_dNew, Ret_dLst, Ret_dTup, Ret_dB, Ret_dAndT, Ret_dOrT, Ret_dNotT, Ret_dAnd, Ret_dOr, Ret_dNot, Ret_dIsi, Ret_dChain, Ret_dGet, Ret_dD0, Ret_dNoP, Ret_dPt, Ret_dSlA, Ret_dMeth, Ret_dAny, Ret_dLenSet, Ret_dZip, Ret_dZipL, Ret_dKeys, Ret_dRng1, Ret_dRng2, Ret_dLc, wipeW, Ret_dDc, Ret_dItems, Ret_dSortSet, Ret_dFnK, RetS_for, Ret_ok, startW, List.map_cons, List.map_nil, List.length_cons, List.length_nil, List.cons_append, List.nil_append, List.replicate, Nat.sub_self, Nat.reduceSub, Nat.reduceAdd, List.getElem?_cons_zero, List.getElem?_cons_succ, List.set_cons_zero, List.set_cons_succ, Option.some.injEq, exists_eq_left', rd_d, on2_d, on1_d, c1_d, bOf_b, exists_eq_left, Option.map_some, Option.bind_some, W.d.injEq, Ret_gcd, List.take_length, dIx]
  refine ⟨_, get_d hk, _, rfl, _, set_d hk _, _, get_r hk, _, rfl, _, rfl, ?_⟩
  split
  · exact ⟨_, get_r hk, _, o2i (mod_of h0), _, get_r hk, _, o2i (div_of h0 h1), _, set_r hk _, fin _ _ _ _ (b0 _) (b1 _)⟩
  · refine ⟨_, get_n hk, _, rfl, _, set_n hk _, ?_⟩
    refine Ret.mono (P := fun w T => (∃ c : Int, w = .d (.int c)) ∧ T = S.set k (rdO ns (n + 1) r (d + 1))) ?_ ?_
    · simp only [RetS_cons, RetS_nil, RetS_set, RetS_drop, RetS_ret, RetS_if, RetS_asg, RetS_par, RetS_put, RetS_nx, RetS_rt, Ret_dFn, Ret_dCons, Ret_dNil, Ret_dBin, Ret_dUn, Ret_dCall, Ret_dCallN, Ret_dC, Ret_dG, Ret_dVar, Ret_dIf, Ret_dFz, Ret_dNew, Ret_dLst, Ret_dTup, Ret_dB, Ret_dAndT, Ret_dOrT, Ret_dNotT, Ret_dAnd, Ret_dOr, Ret_dNot, Ret_dIsi, Ret_dChain, Ret_dGet, Ret_dD0, Ret_dNoP, Ret_dPt, Ret_dSlA, Ret_dMeth, Ret_dAny, Ret_dLenSet, Ret_dZip, Ret_dZipL, Ret_dKeys, Ret_dRng1, Ret_dRng2, Ret_dLc, wipeW, Ret_dDc, Ret_dItems, Ret_dSortSet, Ret_dFnK, RetS_for, Ret_ok, startW, List.map_cons, List.map_nil, List.length_cons, List.length_nil, List.cons_append, List.nil_append, List.replicate, Nat.sub_self, Nat.reduceSub, Nat.reduceAdd, List.getElem?_cons_zero, List.getElem?_cons_succ, List.set_cons_zero, List.set_cons_succ, Option.some.injEq, exists_eq_left', rd_d, on2_d, on1_d, c1_d, bOf_b, exists_eq_left, Option.map_some, Option.bind_some, W.d.injEq, Ret_gcd, List.take_length, dIx]
      refine ⟨_, get_c hk, _, rfl, _, o2 (ne_nil_ints ns), _, rfl, ?_⟩
      split
      · rename_i hne
        have hl : 0 < ns.length := by
          cases ns with
          | nil => simp at hne
          | cons _ _ => simp
        have hb := Int.emod_nonneg n (b := (ns.length : Int)) (by omega)
        have hc := Int.emod_lt_of_pos n (b := (ns.length : Int)) (by omega)
        refine ⟨_, get_c hk, _, get_c hk, _, c1o (show lenP (.list (ns.map PyData.int)) = some (.int ns.length) by simp [lenP]), _, o2i (mod_of (by omega)), _, o2 (show atP (.list (ns.map PyData.int)) (.int (n % (ns.length : Int))) = some (.int (ns.getD (n % (ns.length : Int)).toNat 0)) from ?_), ⟨_, rfl⟩, trivial⟩
        refine (at_nat (xs := ns.map PyData.int) hb (by simpa using hc)).trans ?_
        have hlt : (n % (ns.length : Int)).toNat < ns.length := by omega
        simp [hlt]
      · exact ⟨⟨_, rfl⟩, trivial⟩
    · rintro w T ⟨⟨c, rfl⟩, rfl⟩
      have e18 : powI 10 18 = some (.int 1000000000000000000) := by unfold powI; rw [if_pos (by decide)]; rfl
      have m1 : ∀ x : Int, 0 ≤ x % 2147483647 ∧ x % 2147483647 < 2147483647 := fun x => ⟨Int.emod_nonneg _ (by decide), Int.emod_lt_of_pos _ (by decide)⟩
      have m2 : ∀ x : Int, 0 ≤ x % 2147483489 ∧ x % 2147483489 < 2147483489 := fun x => ⟨Int.emod_nonneg _ (by decide), Int.emod_lt_of_pos _ (by decide)⟩
      refine ⟨_, show (i2 powI (.int 10) (.int 18)).map W.d = some (.d (.int 1000000000000000000)) by rw [i2_ii, e18]; rfl, _, rfl, _, rfl, ?_⟩
      split
      · refine ⟨_, get_c hk, _, c1o (show lenP (.list (ns.map PyData.int)) = some (.int ns.length) by simp [lenP]), _, o2 (ltP_of (cmp_int _ _)), _, rfl, ?_⟩
        split
        · exact ⟨_, o2i (div_of h0 h1), _, set_r hk _, _, o2i (mod_of h0), fin _ _ _ _ (b0 _) (b1 _)⟩
        · refine ⟨_, o2i (mod_of (by decide)), _, get_d hk, _, o2i (mul_of (.inl (by decide))), _, rfl, _, rfl, _, o2i (mod_of (by decide)), ?_⟩
          generalize hx : (c % 2147483587 + 60621 * (d + 1) +19) % 2147483647 = x
          have hx1 := m1 (c % 2147483587 + 60621 * (d + 1) +19)
          rw [hx] at hx1
          refine ⟨_, o2i (mul_of (by omega)), _, get_d hk, _, o2i (mul_of (.inl (by decide))), _, rfl, _, rfl, _, o2i (mod_of (by decide)), ?_⟩
          generalize hy : (x * x + 8233 * (d + 1) +41) % 2147483489 = y
          have hy1 := m2 (x * x + 8233 * (d + 1) +41)
          rw [hy] at hy1
          exact ⟨_, o2i (mul_of (by omega)), _, o2i (mul_of (by omega)), _, rfl, _, o2i (mod_of (by decide)), _, o2i (div_of (by decide) (by decide)), _, o2i (mod_of h0), fin _ _ _ _ (b0 _) (b1 _)⟩
      · refine ⟨_, o2i (mod_of (by decide)), _, get_d hk, _, o2i (mul_of (.inl (by decide))), _, rfl, _, rfl, _, o2i (mod_of (by decide)), ?_⟩
        generalize hx : (c % 2147483587 + 60621 * (d + 1) +19) % 2147483647 = x
        have hx1 := m1 (c % 2147483587 + 60621 * (d + 1) +19)
        rw [hx] at hx1
        refine ⟨_, o2i (mul_of (by omega)), _, get_d hk, _, o2i (mul_of (.inl (by decide))), _, rfl, _, rfl, _, o2i (mod_of (by decide)), ?_⟩
        generalize hy : (x * x + 8233 * (d + 1) +41) % 2147483489 = y
        have hy1 := m2 (x * x + 8233 * (d + 1) +41)
        rw [hy] at hy1
        exact ⟨_, o2i (mul_of (by omega)), _, o2i (mul_of (by omega)), _, rfl, _, o2i (mod_of (by decide)), _, o2i (div_of (by decide) (by decide)), _, o2i (mod_of h0), fin _ _ _ _ (b0 _) (b1 _)⟩


section
variable {S T : So} {k : Nat} {ns : List Int} {l : List O} (hk : k < S.length)
include hk
theorem rdr_draw (h : Rdr (RdO ns) k (S ++ l) T) {m : Int} (h0 : 0 < m) (h1 : m < 1073741824) : Ret (f_l_draw [.r k, .d (.int m)] T) fun w T' => (∃ x, w = .d (.int x) ∧ 0 ≤ x ∧ x < m) ∧ Rdr (RdO ns) k (S ++ l) T' := by
  obtain ⟨_, ⟨n, r, d, rfl⟩, rfl⟩ := h
  exact draw_ok (by simp; omega) h0 h1
end
theorem draw' {S T : So} {k : Nat} {ns : List Int} (hk : k < S.length) (h : Rdr (RdO ns) k S T) {m : Int} (h0 : 0 < m) (h1 : m < 1073741824) : Ret (f_l_draw [.r k, .d (.int m)] T) fun w T' => (∃ x, w = .d (.int x) ∧ 0 ≤ x ∧ x < m) ∧ Rdr (RdO ns) k S T' :=
  (rdr_draw hk (rdr0 h) h0 h1).mono fun w T' ⟨a, b⟩ => ⟨a, rdr1 b⟩
theorem reader_ok {ns : List Int} (h : ns.length ≤ 63) : f_l_feed [.s (ns.map PyData.int)] [] = some (.ok (.r 0) [rdO ns 0 0 0]) := by
  have h2 := cut63 (xs := ns.map PyData.int) (by simpa using h)
  refine Ret.eq (Ret_fnB rfl ?_)
  unfold b_l_feed
  have e : (dFz (dCallN listG (dCons (dSlA (dVar 0) dNoP (dPt (dC (.int 63)))) dNil)) : DE) (startW 1 [.s (ns.map PyData.int)]) (withDk []) = some (.ok (.d (.list (cutG (ns.map PyData.int) none (some 63)))) (withDk [])) := rfl
  rw [h2] at e
  have e2 : (dDisp [("cells", (dFz (dCallN listG (dCons (dSlA (dVar 0) dNoP (dPt (dC (.int 63)))) dNil)))), ("at", (dC (.int 0))), ("rest", (dC (.int 0))), ("draws", (dC (.int 0)))]) (startW 1 [.s (ns.map PyData.int)]) [] = some (.ok (.r 0) [rdO ns 0 0 0]) := by
    unfold dDisp dPs
    simp only [List.length_nil] at *
    rw [show (dFz (dCallN listG (dCons (dSlA (dVar 0) dNoP (dPt (dC (.int 63)))) dNil)) : DE) (startW 1 [.s (ns.map PyData.int)]) (withDk []) = _ from e]
    rfl
  rw [RetS_cons, RetS_ret, e2]
  exact ⟨rfl, rfl⟩


end LK16
end

section
/-! part LM16b -/
set_option Elab.async false
set_option linter.all false
set_option maxRecDepth 100000
set_option maxHeartbeats 1000000
/-! LM16b: tables, pairs, scopes, purses, wanted pairs that are drawn. -/
open CL
open PySem PySem.Spec PyProof.Rows L2
namespace LK16
def nameL : List PyData := [.str "a", .str "bb", .str "zzzzzzzz"]
def wordL : List PyData := [.str "p", .str "q", .str "r", .str "s", .str "tttttttt"]
theorem name_sh : ∀ y ∈ nameL, Sh y := fun y hy => sh_of (List.all_eq_true.mp (show nameL.all shB = true by decide +kernel) y hy)
theorem word_sh : ∀ y ∈ wordL, Sh y := fun y hy => sh_of (List.all_eq_true.mp (show wordL.all shB = true by decide +kernel) y hy)
section
variable {S T0 : So} {k : Nat} {ns : List Int} (hk : k < S.length) (h : Rdr (RdO ns) k S T0)
include hk h
theorem choice_ok {xs : List PyData} {c : List PyData → PyData} (hc : c = .list ∨ c = .tuple) (h0 : 0 < xs.length) (h1 : xs.length < 1000) : Ret (f_l_choice [.r k, .d (c xs)] T0) fun w T => (∃ y, w = .d y ∧ y ∈ xs) ∧ Rdr (RdO ns) k S T := by
  refine Ret_fnB rfl ?_
  unfold b_l_choice
  simp only [RetS_cons, RetS_nil, RetS_set, RetS_drop, RetS_ret, RetS_if, RetS_asg, RetS_par, RetS_put, RetS_nx, RetS_rt, Ret_dFn, Ret_dCons, Ret_dNil, Ret_dBin, Ret_dUn, Ret_dCall, Ret_dCallN, Ret_dC, Ret_dG, Ret_dVar, Ret_dIf, Ret_dFz, Ret_dNew, Ret_dLst, Ret_dTup, Ret_dB, Ret_dAndT, Ret_dOrT, Ret_dNotT, Ret_dAnd, Ret_dOr, Ret_dNot, Ret_dIsi, Ret_dChain, Ret_dGet, Ret_dD0, Ret_dNoP, Ret_dPt, Ret_dSlA, Ret_dMeth, Ret_dAny, Ret_dLenSet, Ret_dZip, Ret_dZipL, Ret_dKeys, Ret_dRng1, Ret_dRng2, Ret_dLc, wipeW, Ret_dDc, Ret_dItems, Ret_dSortSet, Ret_dFnK, RetS_for, Ret_ok, startW, List.map_cons, List.map_nil, List.length_cons, List.length_nil, List.cons_append, List.nil_append, List.replicate, Nat.sub_self, Nat.reduceSub, Nat.reduceAdd, List.getElem?_cons_zero, List.getElem?_cons_succ, List.set_cons_zero, List.set_cons_succ, Option.some.injEq, exists_eq_left', rd_d, on2_d, on1_d, c1_d, bOf_b, exists_eq_left, Option.map_some, Option.bind_some, W.d.injEq, Ret_gcd, List.take_length, dIx]
  have hl : lenP (c xs) = some (.int xs.length) := by rcases hc with rfl | rfl <;> rfl
  have ha : ∀ i, atP (c xs) (.int i) = L2.atI xs i := by rcases hc with rfl | rfl <;> (intro i; rfl)
  refine ⟨_, om hl, ?_⟩
  refine (draw' hk h (by omega) (by omega)).mono ?_
  rintro _ T1 ⟨⟨x, rfl, x0, x1⟩, h1⟩
  refine ⟨_, om ((ha x).trans (at_nat x0 x1)), ?_⟩
  rw [Ret_gcd, rdr_takeS h1 h]
  have hx : x.toNat < xs.length := by omega
  exact ⟨⟨_, rfl, by rw [show xs.getD x.toNat .none = xs[x.toNat] by simp [hx]]; exact List.getElem_mem hx⟩, h1⟩
omit h in
theorem putS {ls : List PyData} {n : Nat} {kvs : List (List Key × PyData)} {T : So} {ws : List PyData} {Q : So → Prop} (q1 : Rdr (RdO ns) k (S ++ [.lst ls, .dt kvs]) T) (f2 : KOk n kvs) (hm : kvs.length ≤ 1000) (q3 : ∀ y ∈ ws, Sh y) (hw : ws.length = n)
    (K : ∀ kvs' T', Rdr (RdO ns) k (S ++ [.lst ls, .dt kvs']) T' → KOk n kvs' → kvs'.length ≤ kvs.length + 1 → 0 < kvs'.length → Q T') : ∃ S4, dputW T (.r (S.length + 1)) (.d (.tuple ws)) (.d (.bool true)) = some S4 ∧ Q S4 := by
  obtain ⟨q, g1, g2⟩ := sh_keys q3
  rw [hw] at g2
  have ea : T[S.length + 1]? = some (.dt kvs) := rdr_at hk q1 1
  refine ⟨T.set (S.length + 1) (.dt (putD kvs q (.bool true))), ?_, K (putD kvs q (.bool true)) _ (rdr_set hk q1 1 _) (putD_ok f2 g2) (putD_len kvs q (.bool true)).1 (putD_len kvs q (.bool true)).2⟩
  simp only [dputW, ea]
  rw [if_pos (small_of (m := 10000) (by omega)), g1]; rfl
omit hk h in
theorem at_last {ws : List PyData} (h : 0 < ws.length) : atP (.list ws) (.int (-1)) = some (ws.getD (ws.length - 1) .none) := by
  show L2.atI ws (-1) = _
  unfold L2.atI L2.ixN
  rw [if_neg (by decide), if_pos (by omega), Option.bind_some, show (-1 + (ws.length : Int)).toNat = ws.length - 1 by omega]
  simp [show ws.length - 1 < ws.length by omega]
theorem table_ok : Ret (f_l_table [.r k, .d (.int 9)] T0) fun w T => (∃ n g, w = .d g ∧ 1 ≤ n ∧ n ≤ 3 ∧ Tab n g) ∧ Rdr (RdO ns) k S T := by
  have eL := rdr_lenS h
  refine Ret_fnB rfl ?_
  unfold b_l_table
  simp only [RetS_cons, RetS_nil, RetS_set, RetS_drop, RetS_ret, RetS_if, RetS_asg, RetS_par, RetS_put, RetS_nx, RetS_rt, Ret_dFn, Ret_dCons, Ret_dNil, Ret_dBin, Ret_dUn, Ret_dCall, Ret_dCallN, Ret_dC, Ret_dG, Ret_dVar, Ret_dIf, Ret_dFz, Ret_dNew, Ret_dLst, Ret_dTup, Ret_dB, Ret_dAndT, Ret_dOrT, Ret_dNotT, Ret_dAnd, Ret_dOr, Ret_dNot, Ret_dIsi, Ret_dChain, Ret_dGet, Ret_dD0, Ret_dNoP, Ret_dPt, Ret_dSlA, Ret_dMeth, Ret_dAny, Ret_dLenSet, Ret_dZip, Ret_dZipL, Ret_dKeys, Ret_dRng1, Ret_dRng2, Ret_dLc, wipeW, Ret_dDc, Ret_dItems, Ret_dSortSet, Ret_dFnK, RetS_for, Ret_ok, startW, List.map_cons, List.map_nil, List.length_cons, List.length_nil, List.cons_append, List.nil_append, List.replicate, Nat.sub_self, Nat.reduceSub, Nat.reduceAdd, List.getElem?_cons_zero, List.getElem?_cons_succ, List.set_cons_zero, List.set_cons_succ, Option.some.injEq, exists_eq_left', rd_d, on2_d, on1_d, c1_d, bOf_b, exists_eq_left, Option.map_some, Option.bind_some, W.d.injEq, Ret_gcd, List.take_length, dIx]
  refine ⟨nameL, rfl, ?_⟩
  refine (draw' hk h (by decide) (by decide)).mono ?_
  rintro _ T1 ⟨⟨x, rfl, x0, x1⟩, h1⟩
  refine ⟨_, rfl, _, rfl, .list (nameL.take (1 + x).toNat), ?_, ?_⟩
  · have := cut_hi nameL (1 + x).toNat
    rw [show (((1 + x).toNat : Nat) : Int) = 1 + x by omega] at this
    exact congrArg (fun z => some (PyData.list z)) this
  have hn1 : ∀ y ∈ nameL.take (1 + x).toNat, Sh y := fun y hy => name_sh y (List.mem_of_mem_take hy)
  have hn2 : (nameL.take (1 + x).toNat).length = (1 + x).toNat := by
    rw [List.length_take]; show min _ 3 = _; omega
  have hn3 : 1 ≤ (1 + x).toNat ∧ (1 + x).toNat ≤ 3 := by omega
  generalize (1 + x).toNat = n at *
  generalize hnl : nameL.take n = names at *
  have eL1 := rdr_lenS h1
  refine ⟨[], rfl, _, rfl, _, rfl, _, rfl, ?_⟩
  rw [List.length_append, eL1]
  have h2 := rdr_push hk (rdr_push hk (rdr0 h1) (.lst [])) (.dt [])
  rw [List.nil_append] at h2
  refine for_inv (fun j σ T => (∃ o5 o6 o7 o8, σ = [some (.r k), some (.d (.int 9)), some (.d (.list names)), some (.r S.length), some (.r (S.length + 1)), o5, o6, o7, o8]) ∧ ∃ ls, Rdr (RdO ns) k (S ++ [.lst ls, .dt []]) T ∧ ls.length = j ∧ ∀ l ∈ ls, ∃ ws, l = .list ws ∧ 2 ≤ ws.length ∧ ws.length ≤ 5 ∧ ∀ y ∈ ws, Sh y) names 0 _ _ ⟨⟨_, _, _, _, rfl⟩, [], h2, rfl, fun l hl => nomatch hl⟩ ?_ ?_
  · rintro σ T ⟨⟨o5, o6, o7, o8, rfl⟩, ls, e1, e2, e3⟩
    rw [Nat.zero_add] at e2
    have nn : 0 < n := by omega
    have lsp : plDs ls = true := by
      refine pls_of ls ?_
      have g : Gds (ls.length * (45 + 1)) 1 ls := Gds.of_mem fun l hl => by
        obtain ⟨ws, rfl, w1, w2, w3⟩ := e3 l hl
        have := Gd.list (Gds.of_mem fun y hy => sh_gd (w3 y hy))
        exact this.mono (by omega) (by omega)
      exact g.ok
    refine ⟨.d (.int (-1)), rfl, [.int 0, .int (-1)], rfl, ([.int 0, .int (-1)], none), rfl, ?_⟩
    refine for_inv (fun j σ T => (∃ o5 o6 o7 o8, σ = [some (.r k), some (.d (.int 9)), some (.d (.list names)), some (.r S.length), some (.r (S.length + 1)), o5, o6, o7, o8]) ∧ ∃ kvs, Rdr (RdO ns) k (S ++ [.lst ls, .dt kvs]) T ∧ KOk n kvs ∧ kvs.length ≤ j ∧ (0 < j → 0 < kvs.length)) [.int 0, .int (-1)] 0 _ _ ⟨⟨_, _, _, _, rfl⟩, [], e1, (fun q hq => nomatch hq), Nat.le_refl _, fun h => absurd h (by decide)⟩ ?_ ?_
    · rintro σ T ⟨⟨o5, o6, o7, o8, rfl⟩, kvs, f1, f2, f3, f4⟩
      simp only [RetS_cons, RetS_nil, RetS_set, RetS_drop, RetS_ret, RetS_if, RetS_asg, RetS_par, RetS_put, RetS_nx, RetS_rt, Ret_dFn, Ret_dCons, Ret_dNil, Ret_dBin, Ret_dUn, Ret_dCall, Ret_dCallN, Ret_dC, Ret_dG, Ret_dVar, Ret_dIf, Ret_dFz, Ret_dNew, Ret_dLst, Ret_dTup, Ret_dB, Ret_dAndT, Ret_dOrT, Ret_dNotT, Ret_dAnd, Ret_dOr, Ret_dNot, Ret_dIsi, Ret_dChain, Ret_dGet, Ret_dD0, Ret_dNoP, Ret_dPt, Ret_dSlA, Ret_dMeth, Ret_dAny, Ret_dLenSet, Ret_dZip, Ret_dZipL, Ret_dKeys, Ret_dRng1, Ret_dRng2, Ret_dLc, wipeW, Ret_dDc, Ret_dItems, Ret_dSortSet, Ret_dFnK, RetS_for, Ret_ok, startW, List.map_cons, List.map_nil, List.length_cons, List.length_nil, List.cons_append, List.nil_append, List.replicate, Nat.sub_self, Nat.reduceSub, Nat.reduceAdd, List.getElem?_cons_zero, List.getElem?_cons_succ, List.set_cons_zero, List.set_cons_succ, Option.some.injEq, exists_eq_left', rd_d, on2_d, on1_d, c1_d, bOf_b, exists_eq_left, Option.map_some, Option.bind_some, W.d.injEq, Ret_gcd, List.take_length, dIx]
      refine ⟨_, rfl, ?_⟩
      refine (rdr_draw hk f1 (by decide) (by decide)).mono ?_
      rintro _ T2 ⟨⟨y, rfl, y0, y1⟩, g1⟩
      refine ⟨y, rfl, by omega, ?_⟩
      refine for_inv (fun j σ T => (∃ o5 o6 o7 o8, σ = [some (.r k), some (.d (.int 9)), some (.d (.list names)), some (.r S.length), some (.r (S.length + 1)), o5, o6, o7, o8]) ∧ ∃ kvs, Rdr (RdO ns) k (S ++ [.lst ls, .dt kvs]) T ∧ KOk n kvs ∧ kvs.length ≤ 2 + j ∧ 0 < kvs.length) (rng 0 y) 0 _ _ ⟨⟨_, _, _, _, rfl⟩, kvs, g1, f2, f3, f4 (by decide)⟩ ?_ ?_
      · rintro σ T ⟨⟨o5, o6, o7, o8, rfl⟩, kvs, f1, f2, f3, f4⟩
        rw [rng0_len] at f3
        simp only [RetS_cons, RetS_nil, RetS_set, RetS_drop, RetS_ret, RetS_if, RetS_asg, RetS_par, RetS_put, RetS_nx, RetS_rt, Ret_dFn, Ret_dCons, Ret_dNil, Ret_dBin, Ret_dUn, Ret_dCall, Ret_dCallN, Ret_dC, Ret_dG, Ret_dVar, Ret_dIf, Ret_dFz, Ret_dNew, Ret_dLst, Ret_dTup, Ret_dB, Ret_dAndT, Ret_dOrT, Ret_dNotT, Ret_dAnd, Ret_dOr, Ret_dNot, Ret_dIsi, Ret_dChain, Ret_dGet, Ret_dD0, Ret_dNoP, Ret_dPt, Ret_dSlA, Ret_dMeth, Ret_dAny, Ret_dLenSet, Ret_dZip, Ret_dZipL, Ret_dKeys, Ret_dRng1, Ret_dRng2, Ret_dLc, wipeW, Ret_dDc, Ret_dItems, Ret_dSortSet, Ret_dFnK, RetS_for, Ret_ok, startW, List.map_cons, List.map_nil, List.length_cons, List.length_nil, List.cons_append, List.nil_append, List.replicate, Nat.sub_self, Nat.reduceSub, Nat.reduceAdd, List.getElem?_cons_zero, List.getElem?_cons_succ, List.set_cons_zero, List.set_cons_succ, Option.some.injEq, exists_eq_left', rd_d, on2_d, on1_d, c1_d, bOf_b, exists_eq_left, Option.map_some, Option.bind_some, W.d.injEq, Ret_gcd, List.take_length, dIx]
        have ea : T[S.length + 1]? = some (.dt kvs) := rdr_at hk f1 1
        have kr := keysOf_row f2
        have hl : (keysOf kvs).length = kvs.length := by unfold keysOf; rw [List.length_map]
        refine ⟨_, rfl, srtD (keysOf kvs), ?_, _, rfl, _, rfl, ?_⟩
        · simp only [sortDG, dtW, ea, Option.bind_some]
          rw [if_pos (rows_sort nn kr (by omega))]
        · refine ⟨⟨n, by omega, by omega, names, srtD (keysOf kvs), rfl, hn2, hn1, ?_, by rw [srt_len]; omega, fun r hr => kr r (srt_mem hr)⟩, by rw [eL]; exact rdr_take hk f1⟩
          intro e0
          have := congrArg List.length e0
          rw [srt_len, List.length_nil] at this
          omega
      · rintro j q σ T hq ⟨⟨o5, o6, o7, o8, rfl⟩, kvs, f1, f2, f3, f4⟩
        obtain ⟨rfl, hj⟩ := rng_at hq
        have ea : T[S.length + 0]? = some (.lst ls) := rdr_at hk f1 0
        refine ⟨_, rfl, ?_⟩
        simp only [RetS_cons, RetS_nil, RetS_set, RetS_drop, RetS_ret, RetS_if, RetS_asg, RetS_par, RetS_put, RetS_nx, RetS_rt, Ret_dFn, Ret_dCons, Ret_dNil, Ret_dBin, Ret_dUn, Ret_dCall, Ret_dCallN, Ret_dC, Ret_dG, Ret_dVar, Ret_dIf, Ret_dFz, Ret_dNew, Ret_dLst, Ret_dTup, Ret_dB, Ret_dAndT, Ret_dOrT, Ret_dNotT, Ret_dAnd, Ret_dOr, Ret_dNot, Ret_dIsi, Ret_dChain, Ret_dGet, Ret_dD0, Ret_dNoP, Ret_dPt, Ret_dSlA, Ret_dMeth, Ret_dAny, Ret_dLenSet, Ret_dZip, Ret_dZipL, Ret_dKeys, Ret_dRng1, Ret_dRng2, Ret_dLc, wipeW, Ret_dDc, Ret_dItems, Ret_dSortSet, Ret_dFnK, RetS_for, Ret_ok, startW, List.map_cons, List.map_nil, List.length_cons, List.length_nil, List.cons_append, List.nil_append, List.replicate, Nat.sub_self, Nat.reduceSub, Nat.reduceAdd, List.getElem?_cons_zero, List.getElem?_cons_succ, List.set_cons_zero, List.set_cons_succ, Option.some.injEq, exists_eq_left', rd_d, on2_d, on1_d, c1_d, bOf_b, exists_eq_left, Option.map_some, Option.bind_some, W.d.injEq, Ret_gcd, List.take_length, dIx]
        refine ⟨(ls, some S.length), by simp only [anyW]; rw [Nat.add_zero] at ea; rw [ea], ?_⟩
        refine (lc_invK (fun j acc T => Rdr (RdO ns) k (S ++ [.lst ls, .dt kvs]) T ∧ acc.length = j ∧ ∀ y ∈ acc, Sh y) (fun j acc T h => keep_at (rdr_at hk h.1 0) lsp) ls 0 [] T ⟨f1, rfl, by simp⟩ ?_).mono ?_
        · rintro j l acc T hl ⟨q1, q2, q3⟩
          obtain ⟨ws, rfl, w1, w2, w3⟩ := e3 l (List.mem_of_getElem? hl)
          refine ⟨_, rfl, ?_⟩
          simp only [RetS_cons, RetS_nil, RetS_set, RetS_drop, RetS_ret, RetS_if, RetS_asg, RetS_par, RetS_put, RetS_nx, RetS_rt, Ret_dFn, Ret_dCons, Ret_dNil, Ret_dBin, Ret_dUn, Ret_dCall, Ret_dCallN, Ret_dC, Ret_dG, Ret_dVar, Ret_dIf, Ret_dFz, Ret_dNew, Ret_dLst, Ret_dTup, Ret_dB, Ret_dAndT, Ret_dOrT, Ret_dNotT, Ret_dAnd, Ret_dOr, Ret_dNot, Ret_dIsi, Ret_dChain, Ret_dGet, Ret_dD0, Ret_dNoP, Ret_dPt, Ret_dSlA, Ret_dMeth, Ret_dAny, Ret_dLenSet, Ret_dZip, Ret_dZipL, Ret_dKeys, Ret_dRng1, Ret_dRng2, Ret_dLc, wipeW, Ret_dDc, Ret_dItems, Ret_dSortSet, Ret_dFnK, RetS_for, Ret_ok, startW, List.map_cons, List.map_nil, List.length_cons, List.length_nil, List.cons_append, List.nil_append, List.replicate, Nat.sub_self, Nat.reduceSub, Nat.reduceAdd, List.getElem?_cons_zero, List.getElem?_cons_succ, List.set_cons_zero, List.set_cons_succ, Option.some.injEq, exists_eq_left', rd_d, on2_d, on1_d, c1_d, bOf_b, exists_eq_left, Option.map_some, Option.bind_some, W.d.injEq, Ret_gcd, List.take_length, dIx]
          show Ret (some (.ok true T)) _
          rw [Ret_ok, if_pos rfl]
          refine (choice_ok (by rw [List.length_append]; omega) q1 (.inl rfl) (by omega) (by omega)).mono ?_
          rintro _ T3 ⟨⟨y, rfl, hy⟩, r1⟩
          refine ⟨y, rfl, r1, by simp [q2], fun z hz => ?_⟩
          rcases List.mem_append.mp hz with hz | hz
          · exact q3 z hz
          · rw [List.mem_singleton] at hz; subst hz; exact w3 _ hy
        · rintro ws T3 ⟨q1, q2, q3⟩
          refine ⟨_, rfl, ?_⟩
          exact putS hk q1 f2 (by omega) q3 (by omega) fun kvs' T' r1 r2 r3 r4 => ⟨⟨_, _, _, _, rfl⟩, kvs', r1, r2, by omega, r4⟩
    · rintro j q σ T hq ⟨⟨o5, o6, o7, o8, rfl⟩, kvs, f1, f2, f3, f4⟩
      have ea : T[S.length + 0]? = some (.lst ls) := rdr_at hk f1 0
      have hq2 : q = .int 0 ∨ q = .int (-1) := by simpa using List.mem_of_getElem? hq
      have hj : j < 2 := by have := (List.getElem?_eq_some_iff.mp hq).1; simpa using this
      refine ⟨_, rfl, ?_⟩
      simp only [RetS_cons, RetS_nil, RetS_set, RetS_drop, RetS_ret, RetS_if, RetS_asg, RetS_par, RetS_put, RetS_nx, RetS_rt, Ret_dFn, Ret_dCons, Ret_dNil, Ret_dBin, Ret_dUn, Ret_dCall, Ret_dCallN, Ret_dC, Ret_dG, Ret_dVar, Ret_dIf, Ret_dFz, Ret_dNew, Ret_dLst, Ret_dTup, Ret_dB, Ret_dAndT, Ret_dOrT, Ret_dNotT, Ret_dAnd, Ret_dOr, Ret_dNot, Ret_dIsi, Ret_dChain, Ret_dGet, Ret_dD0, Ret_dNoP, Ret_dPt, Ret_dSlA, Ret_dMeth, Ret_dAny, Ret_dLenSet, Ret_dZip, Ret_dZipL, Ret_dKeys, Ret_dRng1, Ret_dRng2, Ret_dLc, wipeW, Ret_dDc, Ret_dItems, Ret_dSortSet, Ret_dFnK, RetS_for, Ret_ok, startW, List.map_cons, List.map_nil, List.length_cons, List.length_nil, List.cons_append, List.nil_append, List.replicate, Nat.sub_self, Nat.reduceSub, Nat.reduceAdd, List.getElem?_cons_zero, List.getElem?_cons_succ, List.set_cons_zero, List.set_cons_succ, Option.some.injEq, exists_eq_left', rd_d, on2_d, on1_d, c1_d, bOf_b, exists_eq_left, Option.map_some, Option.bind_some, W.d.injEq, Ret_gcd, List.take_length, dIx]
      refine ⟨(ls, some S.length), by simp only [anyW]; rw [Nat.add_zero] at ea; rw [ea], ?_⟩
      refine (lc_invK (fun j acc T' => T' = T ∧ acc.length = j ∧ ∀ y ∈ acc, Sh y) (fun j acc T' h => by obtain ⟨rfl, _⟩ := h; exact keep_at ea lsp) ls 0 [] T ⟨rfl, rfl, by simp⟩ ?_).mono ?_
      · rintro j l acc T' hl ⟨rfl, q2, q3⟩
        obtain ⟨ws, rfl, w1, w2, w3⟩ := e3 l (List.mem_of_getElem? hl)
        refine ⟨_, rfl, ?_⟩
        simp only [RetS_cons, RetS_nil, RetS_set, RetS_drop, RetS_ret, RetS_if, RetS_asg, RetS_par, RetS_put, RetS_nx, RetS_rt, Ret_dFn, Ret_dCons, Ret_dNil, Ret_dBin, Ret_dUn, Ret_dCall, Ret_dCallN, Ret_dC, Ret_dG, Ret_dVar, Ret_dIf, Ret_dFz, Ret_dNew, Ret_dLst, Ret_dTup, Ret_dB, Ret_dAndT, Ret_dOrT, Ret_dNotT, Ret_dAnd, Ret_dOr, Ret_dNot, Ret_dIsi, Ret_dChain, Ret_dGet, Ret_dD0, Ret_dNoP, Ret_dPt, Ret_dSlA, Ret_dMeth, Ret_dAny, Ret_dLenSet, Ret_dZip, Ret_dZipL, Ret_dKeys, Ret_dRng1, Ret_dRng2, Ret_dLc, wipeW, Ret_dDc, Ret_dItems, Ret_dSortSet, Ret_dFnK, RetS_for, Ret_ok, startW, List.map_cons, List.map_nil, List.length_cons, List.length_nil, List.cons_append, List.nil_append, List.replicate, Nat.sub_self, Nat.reduceSub, Nat.reduceAdd, List.getElem?_cons_zero, List.getElem?_cons_succ, List.set_cons_zero, List.set_cons_succ, Option.some.injEq, exists_eq_left', rd_d, on2_d, on1_d, c1_d, bOf_b, exists_eq_left, Option.map_some, Option.bind_some, W.d.injEq, Ret_gcd, List.take_length, dIx]
        show Ret (some (.ok true _)) _
        rw [Ret_ok, if_pos rfl]
        obtain ⟨y, hy1, hy2⟩ : ∃ y, atP (.list ws) q = some y ∧ y ∈ ws := by
          rcases hq2 with rfl | rfl
          · exact ⟨_, (at_nat (xs := ws) (k := 0) (by decide) (by omega)), by rw [show ws.getD (0 : Int).toNat .none = ws[0] by simp [show 0 < ws.length by omega]]; exact List.getElem_mem _⟩
          · exact ⟨_, at_last (by omega), by rw [show ws.getD (ws.length - 1) .none = ws[ws.length - 1] by simp [show ws.length - 1 < ws.length by omega]]; exact List.getElem_mem _⟩
        refine ⟨_, om hy1, y, rfl, rfl, by simp [q2], fun z hz => ?_⟩
        rcases List.mem_append.mp hz with hz | hz
        · exact q3 z hz
        · rw [List.mem_singleton] at hz; subst hz; exact w3 _ hy2
      · rintro ws T3 ⟨rfl, q2, q3⟩
        refine ⟨_, rfl, ?_⟩
        exact putS hk f1 f2 (by omega) q3 (by omega) fun kvs' T' r1 r2 r3 r4 => ⟨⟨_, _, _, _, rfl⟩, kvs', r1, r2, by omega, fun _ => r4⟩
  · rintro j y σ T hy ⟨⟨o5, o6, o7, o8, rfl⟩, ls, e1, e2, e3⟩
    refine ⟨_, rfl, ?_⟩
    simp only [RetS_cons, RetS_nil, RetS_set, RetS_drop, RetS_ret, RetS_if, RetS_asg, RetS_par, RetS_put, RetS_nx, RetS_rt, Ret_dFn, Ret_dCons, Ret_dNil, Ret_dBin, Ret_dUn, Ret_dCall, Ret_dCallN, Ret_dC, Ret_dG, Ret_dVar, Ret_dIf, Ret_dFz, Ret_dNew, Ret_dLst, Ret_dTup, Ret_dB, Ret_dAndT, Ret_dOrT, Ret_dNotT, Ret_dAnd, Ret_dOr, Ret_dNot, Ret_dIsi, Ret_dChain, Ret_dGet, Ret_dD0, Ret_dNoP, Ret_dPt, Ret_dSlA, Ret_dMeth, Ret_dAny, Ret_dLenSet, Ret_dZip, Ret_dZipL, Ret_dKeys, Ret_dRng1, Ret_dRng2, Ret_dLc, wipeW, Ret_dDc, Ret_dItems, Ret_dSortSet, Ret_dFnK, RetS_for, Ret_ok, startW, List.map_cons, List.map_nil, List.length_cons, List.length_nil, List.cons_append, List.nil_append, List.replicate, Nat.sub_self, Nat.reduceSub, Nat.reduceAdd, List.getElem?_cons_zero, List.getElem?_cons_succ, List.set_cons_zero, List.set_cons_succ, Option.some.injEq, exists_eq_left', rd_d, on2_d, on1_d, c1_d, bOf_b, exists_eq_left, Option.map_some, Option.bind_some, W.d.injEq, Ret_gcd, List.take_length, dIx]
    refine (rdr_draw hk e1 (by decide) (by decide)).mono ?_
    rintro _ T2 ⟨⟨z, rfl, z0, z1⟩, g1⟩
    have ea : T2[S.length + 0]? = some (.lst ls) := rdr_at hk g1 0
    rw [Nat.add_zero] at ea
    refine ⟨by simp only [tyM, ea]; rfl, wordL, rfl, _, rfl, ?_⟩
    refine (rdr_draw hk g1 (by decide) (by decide)).mono ?_
    rintro _ T3 ⟨⟨u, rfl, u0, u1⟩, g2⟩
    have eb : T3[S.length + 0]? = some (.lst ls) := rdr_at hk g2 0
    rw [Nat.add_zero] at eb
    have rs : Rdr (RdO ns) k (S ++ [O.lst (ls ++ [PyData.list (cutG wordL (some z) (some (3 + u)))]), .dt []]) (T3.set (S.length + 0) (.lst (ls ++ [PyData.list (cutG wordL (some z) (some (3 + u)))]))) := rdr_set hk g2 0 (O.lst (ls ++ [PyData.list (cutG wordL (some z) (some (3 + u)))]))
    refine ⟨_, rfl, _, rfl, .list (cutG wordL (some z) (some (3 + u))), rfl, .d .none, T3.set (S.length + 0) (.lst (ls ++ [PyData.list (cutG wordL (some z) (some (3 + u)))])), ?_, ⟨_, _, _, _, rfl⟩, ls ++ [.list (cutG wordL (some z) (some (3 + u)))], rs, by simp; omega, fun l hl => ?_⟩
    · simp only [gApp, eb]
      rw [if_pos (small_of (m := 1000) (by have := (List.getElem?_eq_some_iff.mp hy).1; omega))]; rfl
    · rcases List.mem_append.mp hl with hl | hl
      · exact e3 l hl
      · rw [List.mem_singleton] at hl
        have hw := cut_len wordL z.toNat (3 + u).toNat (by omega) (by show _ ≤ 5; omega)
        rw [show ((z.toNat : Nat) : Int) = z by omega, show (((3 + u).toNat : Nat) : Int) = 3 + u by omega] at hw
        exact ⟨_, hl, by omega, by omega, fun y hy => word_sh y (cut_mem hy)⟩
end
end LK16
end

section
/-! part LM16c -/
set_option Elab.async false
set_option linter.all false
set_option maxRecDepth 100000
set_option maxHeartbeats 1000000
/-! LM16c: pairs, scopes, purses, wanted pairs. -/
open CL
open PySem PySem.Spec PyProof.Rows L2
namespace LK16
theorem mergeTD_pos : ∀ {ps : List (List Key × PyData)} {kvs : List (List Key × PyData)}, 0 < kvs.length + ps.length → 0 < (mergeTD kvs ps).length
  | [], kvs, h => h
  | q :: ps, kvs, _ => mergeTD_pos (ps := ps) (kvs := putD kvs q.1 q.2) (by have := (putD_len kvs q.1 q.2).2; omega)
/-- pairs that are drawn -/
def Prs (m : Nat) (ps : List PyData) : Prop := (∀ p ∈ ps, Row 2 p) ∧ ps.length ≤ m
theorem pairs_ok {n : Nat} {g : PyData} (hg : Tab n g) (hn : n ≤ 3) (hn1 : 1 ≤ n) (T0 : So) : Ret (f_l_pairs [.d g] T0) fun w T => (∃ ps, w = .d (.list ps) ∧ Prs 60 ps ∧ 0 < ps.length) ∧ T = T0 := by
  obtain ⟨hs, rs, rfl, l1, h1, rne, l2, h2⟩ := hg
  have rpos : 0 < rs.length := List.length_pos_iff.mpr rne
  refine Ret_fnB rfl ?_
  unfold b_l_pairs
  simp only [RetS_cons, RetS_nil, RetS_set, RetS_drop, RetS_ret, RetS_if, RetS_asg, RetS_par, RetS_put, RetS_nx, RetS_rt, Ret_dFn, Ret_dCons, Ret_dNil, Ret_dBin, Ret_dUn, Ret_dCall, Ret_dCallN, Ret_dC, Ret_dG, Ret_dVar, Ret_dIf, Ret_dFz, Ret_dNew, Ret_dLst, Ret_dTup, Ret_dB, Ret_dAndT, Ret_dOrT, Ret_dNotT, Ret_dAnd, Ret_dOr, Ret_dNot, Ret_dIsi, Ret_dChain, Ret_dGet, Ret_dD0, Ret_dNoP, Ret_dPt, Ret_dSlA, Ret_dMeth, Ret_dAny, Ret_dLenSet, Ret_dZip, Ret_dZipL, Ret_dKeys, Ret_dRng1, Ret_dRng2, Ret_dLc, wipeW, Ret_dDc, Ret_dItems, Ret_dSortSet, Ret_dFnK, RetS_for, Ret_ok, startW, List.map_cons, List.map_nil, List.length_cons, List.length_nil, List.cons_append, List.nil_append, List.replicate, Nat.sub_self, Nat.reduceSub, Nat.reduceAdd, List.getElem?_cons_zero, List.getElem?_cons_succ, List.set_cons_zero, List.set_cons_succ, Option.some.injEq, exists_eq_left', rd_d, on2_d, on1_d, c1_d, bOf_b, exists_eq_left, Option.map_some, Option.bind_some, W.d.injEq, Ret_gcd, List.take_length, dIx]
  refine ⟨_, om at1, _, rfl, ?_⟩
  refine for_inv (fun j σ T => (∃ o, σ = [some (.d (.tuple [.tuple hs, .tuple rs])), some (.r T0.length), o, none]) ∧ ∃ kvs, T = T0 ++ [.dt kvs] ∧ KOk 2 kvs ∧ kvs.length ≤ 3 * j ∧ (0 < j → 0 < kvs.length)) rs 0 _ _ ⟨⟨_, rfl⟩, [], rfl, (fun q hq => nomatch hq), Nat.le_refl _, fun h => absurd h (by decide)⟩ ?_ ?_
  · rintro σ T ⟨⟨o, rfl⟩, kvs, rfl, k1, k2, k3⟩
    simp only [RetS_cons, RetS_nil, RetS_set, RetS_drop, RetS_ret, RetS_if, RetS_asg, RetS_par, RetS_put, RetS_nx, RetS_rt, Ret_dFn, Ret_dCons, Ret_dNil, Ret_dBin, Ret_dUn, Ret_dCall, Ret_dCallN, Ret_dC, Ret_dG, Ret_dVar, Ret_dIf, Ret_dFz, Ret_dNew, Ret_dLst, Ret_dTup, Ret_dB, Ret_dAndT, Ret_dOrT, Ret_dNotT, Ret_dAnd, Ret_dOr, Ret_dNot, Ret_dIsi, Ret_dChain, Ret_dGet, Ret_dD0, Ret_dNoP, Ret_dPt, Ret_dSlA, Ret_dMeth, Ret_dAny, Ret_dLenSet, Ret_dZip, Ret_dZipL, Ret_dKeys, Ret_dRng1, Ret_dRng2, Ret_dLc, wipeW, Ret_dDc, Ret_dItems, Ret_dSortSet, Ret_dFnK, RetS_for, Ret_ok, startW, List.map_cons, List.map_nil, List.length_cons, List.length_nil, List.cons_append, List.nil_append, List.replicate, Nat.sub_self, Nat.reduceSub, Nat.reduceAdd, List.getElem?_cons_zero, List.getElem?_cons_succ, List.set_cons_zero, List.set_cons_succ, Option.some.injEq, exists_eq_left', rd_d, on2_d, on1_d, c1_d, bOf_b, exists_eq_left, Option.map_some, Option.bind_some, W.d.injEq, Ret_gcd, List.take_length, dIx]
    have e1 : dtW (T0 ++ [.dt kvs]) (.r T0.length) = some kvs := by unfold dtW; simp only [last_at]
    have ll : (keysOf kvs).length = kvs.length := by unfold keysOf; rw [List.length_map]
    have lk : (keysOf kvs).length ≤ 60 := by omega
    have e2 : sortDG (T0 ++ [.dt kvs]) [.r T0.length] = some (srtD (keysOf kvs)) := by
      show (dtW (T0 ++ [.dt kvs]) (.r T0.length)).bind _ = _
      rw [e1, Option.bind_some, if_pos (rows_sort (by decide) (keysOf_row k1) (by omega))]
    refine ⟨_, e2, ?_⟩
    refine ⟨⟨_, rfl, ⟨fun p hp => keysOf_row k1 p (srt_mem hp), by rw [srt_len]; exact lk⟩, by rw [srt_len]; have := k3 (by omega); omega⟩, ?_⟩
    rw [List.take_append_of_le_length (Nat.le_refl _), List.take_length]
  · rintro j r σ T hr ⟨⟨o, rfl⟩, kvs, rfl, k1, k2, k3⟩
    have hrm := h2 r (List.mem_of_getElem? hr)
    obtain ⟨ws, rfl, e, hw⟩ := hrm
    refine ⟨_, rfl, ?_⟩
    simp only [RetS_cons, RetS_nil, RetS_set, RetS_drop, RetS_ret, RetS_if, RetS_asg, RetS_par, RetS_put, RetS_nx, RetS_rt, Ret_dFn, Ret_dCons, Ret_dNil, Ret_dBin, Ret_dUn, Ret_dCall, Ret_dCallN, Ret_dC, Ret_dG, Ret_dVar, Ret_dIf, Ret_dFz, Ret_dNew, Ret_dLst, Ret_dTup, Ret_dB, Ret_dAndT, Ret_dOrT, Ret_dNotT, Ret_dAnd, Ret_dOr, Ret_dNot, Ret_dIsi, Ret_dChain, Ret_dGet, Ret_dD0, Ret_dNoP, Ret_dPt, Ret_dSlA, Ret_dMeth, Ret_dAny, Ret_dLenSet, Ret_dZip, Ret_dZipL, Ret_dKeys, Ret_dRng1, Ret_dRng2, Ret_dLc, wipeW, Ret_dDc, Ret_dItems, Ret_dSortSet, Ret_dFnK, RetS_for, Ret_ok, startW, List.map_cons, List.map_nil, List.length_cons, List.length_nil, List.cons_append, List.nil_append, List.replicate, Nat.sub_self, Nat.reduceSub, Nat.reduceAdd, List.getElem?_cons_zero, List.getElem?_cons_succ, List.set_cons_zero, List.set_cons_succ, Option.some.injEq, exists_eq_left', rd_d, on2_d, on1_d, c1_d, bOf_b, exists_eq_left, Option.map_some, Option.bind_some, W.d.injEq, Ret_gcd, List.take_length, dIx]
    refine ⟨by unfold tyM; simp only [last_at]; rfl, _, om at0, _, rfl, ?_⟩
    have hz := zip_rows h1 hw
    obtain ⟨ps, p1, p2, p3⟩ := prs_pairs hz
    refine Ret.of (lc_pure (fun _ => true) (fun z => .tuple [z, .bool true]) _ _ fun x hx => ⟨_, rfl, ⟨rfl, rfl⟩, fun _ => ?_⟩) ?_
    · simp only [RetS_cons, RetS_nil, RetS_set, RetS_drop, RetS_ret, RetS_if, RetS_asg, RetS_par, RetS_put, RetS_nx, RetS_rt, Ret_dFn, Ret_dCons, Ret_dNil, Ret_dBin, Ret_dUn, Ret_dCall, Ret_dCallN, Ret_dC, Ret_dG, Ret_dVar, Ret_dIf, Ret_dFz, Ret_dNew, Ret_dLst, Ret_dTup, Ret_dB, Ret_dAndT, Ret_dOrT, Ret_dNotT, Ret_dAnd, Ret_dOr, Ret_dNot, Ret_dIsi, Ret_dChain, Ret_dGet, Ret_dD0, Ret_dNoP, Ret_dPt, Ret_dSlA, Ret_dMeth, Ret_dAny, Ret_dLenSet, Ret_dZip, Ret_dZipL, Ret_dKeys, Ret_dRng1, Ret_dRng2, Ret_dLc, wipeW, Ret_dDc, Ret_dItems, Ret_dSortSet, Ret_dFnK, RetS_for, Ret_ok, startW, List.map_cons, List.map_nil, List.length_cons, List.length_nil, List.cons_append, List.nil_append, List.replicate, Nat.sub_self, Nat.reduceSub, Nat.reduceAdd, List.getElem?_cons_zero, List.getElem?_cons_succ, List.set_cons_zero, List.set_cons_succ, Option.some.injEq, exists_eq_left', rd_d, on2_d, on1_d, c1_d, bOf_b, exists_eq_left, Option.map_some, Option.bind_some, W.d.injEq, Ret_gcd, List.take_length, dIx]
      exact ⟨_, rfl, rfl, trivial⟩
    · rw [List.filter_eq_self.mpr fun _ _ => rfl]
      have zl : (zipD hs ws).length = n := by rw [zipD_len]; omega
      obtain ⟨m1, m2⟩ := mergeTD_ok k1 p2
      refine ⟨.d .none, T0 ++ [.dt (mergeTD kvs ps)], ?_, ⟨_, rfl⟩, _, rfl, m1, by omega, fun _ => mergeTD_pos (by omega)⟩
      unfold gUpd
      simp only [last_at, p1, List.nil_append]
      rw [if_pos (small_of (m := 1000) (by have := (List.getElem?_eq_some_iff.mp hr).1; rw [List.length_map]; omega)), last_set]
section
variable {S T0 : So} {k : Nat} {ns : List Int} (hk : k < S.length) (h : Rdr (RdO ns) k S T0)
include hk h
theorem scope_ok {ev : List PyData} (he : Prs 60 ev) (h0 : 0 < ev.length) : Ret (f_l_scope [.r k, .d (.list ev), .d (.int 3)] T0) fun w T => (∃ ps, w = .d (.tuple ps) ∧ Prs 3 ps) ∧ Rdr (RdO ns) k S T := by
  have eL := rdr_lenS h
  refine Ret_fnB rfl ?_
  unfold b_l_scope
  simp only [RetS_cons, RetS_nil, RetS_set, RetS_drop, RetS_ret, RetS_if, RetS_asg, RetS_par, RetS_put, RetS_nx, RetS_rt, Ret_dFn, Ret_dCons, Ret_dNil, Ret_dBin, Ret_dUn, Ret_dCall, Ret_dCallN, Ret_dC, Ret_dG, Ret_dVar, Ret_dIf, Ret_dFz, Ret_dNew, Ret_dLst, Ret_dTup, Ret_dB, Ret_dAndT, Ret_dOrT, Ret_dNotT, Ret_dAnd, Ret_dOr, Ret_dNot, Ret_dIsi, Ret_dChain, Ret_dGet, Ret_dD0, Ret_dNoP, Ret_dPt, Ret_dSlA, Ret_dMeth, Ret_dAny, Ret_dLenSet, Ret_dZip, Ret_dZipL, Ret_dKeys, Ret_dRng1, Ret_dRng2, Ret_dLc, wipeW, Ret_dDc, Ret_dItems, Ret_dSortSet, Ret_dFnK, RetS_for, Ret_ok, startW, List.map_cons, List.map_nil, List.length_cons, List.length_nil, List.cons_append, List.nil_append, List.replicate, Nat.sub_self, Nat.reduceSub, Nat.reduceAdd, List.getElem?_cons_zero, List.getElem?_cons_succ, List.set_cons_zero, List.set_cons_succ, Option.some.injEq, exists_eq_left', rd_d, on2_d, on1_d, c1_d, bOf_b, exists_eq_left, Option.map_some, Option.bind_some, W.d.injEq, Ret_gcd, List.take_length, dIx]
  have h1 := rdr_push hk (rdr0 h) (.dt [])
  rw [List.nil_append] at h1
  refine ⟨.d (.int 4), rfl, ?_⟩
  refine (rdr_draw hk h1 (by decide) (by decide)).mono ?_
  rintro _ T1 ⟨⟨x, rfl, x0, x1⟩, h2⟩
  refine ⟨x, rfl, by omega, ?_⟩
  rw [eL]
  refine for_inv (fun j σ T => (∃ o, σ = [some (.r k), some (.d (.list ev)), some (.d (.int 3)), some (.r S.length), o]) ∧ ∃ kvs, Rdr (RdO ns) k (S ++ [.dt kvs]) T ∧ KOk 2 kvs ∧ kvs.length ≤ j) (rng 0 x) 0 _ _ ⟨⟨_, rfl⟩, [], h2, (fun q hq => nomatch hq), Nat.le_refl _⟩ ?_ ?_
  · rintro σ T ⟨⟨o, rfl⟩, kvs, e1, k1, k2⟩
    rw [rng0_len] at k2
    simp only [RetS_cons, RetS_nil, RetS_set, RetS_drop, RetS_ret, RetS_if, RetS_asg, RetS_par, RetS_put, RetS_nx, RetS_rt, Ret_dFn, Ret_dCons, Ret_dNil, Ret_dBin, Ret_dUn, Ret_dCall, Ret_dCallN, Ret_dC, Ret_dG, Ret_dVar, Ret_dIf, Ret_dFz, Ret_dNew, Ret_dLst, Ret_dTup, Ret_dB, Ret_dAndT, Ret_dOrT, Ret_dNotT, Ret_dAnd, Ret_dOr, Ret_dNot, Ret_dIsi, Ret_dChain, Ret_dGet, Ret_dD0, Ret_dNoP, Ret_dPt, Ret_dSlA, Ret_dMeth, Ret_dAny, Ret_dLenSet, Ret_dZip, Ret_dZipL, Ret_dKeys, Ret_dRng1, Ret_dRng2, Ret_dLc, wipeW, Ret_dDc, Ret_dItems, Ret_dSortSet, Ret_dFnK, RetS_for, Ret_ok, startW, List.map_cons, List.map_nil, List.length_cons, List.length_nil, List.cons_append, List.nil_append, List.replicate, Nat.sub_self, Nat.reduceSub, Nat.reduceAdd, List.getElem?_cons_zero, List.getElem?_cons_succ, List.set_cons_zero, List.set_cons_succ, Option.some.injEq, exists_eq_left', rd_d, on2_d, on1_d, c1_d, bOf_b, exists_eq_left, Option.map_some, Option.bind_some, W.d.injEq, Ret_gcd, List.take_length, dIx]
    have ea : T[S.length + 0]? = some (.dt kvs) := rdr_at hk e1 0
    rw [Nat.add_zero] at ea
    have ll : (keysOf kvs).length = kvs.length := by unfold keysOf; rw [List.length_map]
    refine ⟨srtD (keysOf kvs), ?_, _, rfl, ?_⟩
    · simp only [sortDG, dtW, ea, Option.bind_some]
      rw [if_pos (rows_sort (by decide) (keysOf_row k1) (by omega))]
    · exact ⟨⟨_, rfl, fun p hp => keysOf_row k1 p (srt_mem hp), by rw [srt_len]; omega⟩, rdr_take hk e1⟩
  · rintro j q σ T hq ⟨⟨o, rfl⟩, kvs, e1, k1, k2⟩
    obtain ⟨rfl, hj⟩ := rng_at hq
    refine ⟨_, rfl, ?_⟩
    simp only [RetS_cons, RetS_nil, RetS_set, RetS_drop, RetS_ret, RetS_if, RetS_asg, RetS_par, RetS_put, RetS_nx, RetS_rt, Ret_dFn, Ret_dCons, Ret_dNil, Ret_dBin, Ret_dUn, Ret_dCall, Ret_dCallN, Ret_dC, Ret_dG, Ret_dVar, Ret_dIf, Ret_dFz, Ret_dNew, Ret_dLst, Ret_dTup, Ret_dB, Ret_dAndT, Ret_dOrT, Ret_dNotT, Ret_dAnd, Ret_dOr, Ret_dNot, Ret_dIsi, Ret_dChain, Ret_dGet, Ret_dD0, Ret_dNoP, Ret_dPt, Ret_dSlA, Ret_dMeth, Ret_dAny, Ret_dLenSet, Ret_dZip, Ret_dZipL, Ret_dKeys, Ret_dRng1, Ret_dRng2, Ret_dLc, wipeW, Ret_dDc, Ret_dItems, Ret_dSortSet, Ret_dFnK, RetS_for, Ret_ok, startW, List.map_cons, List.map_nil, List.length_cons, List.length_nil, List.cons_append, List.nil_append, List.replicate, Nat.sub_self, Nat.reduceSub, Nat.reduceAdd, List.getElem?_cons_zero, List.getElem?_cons_succ, List.set_cons_zero, List.set_cons_succ, Option.some.injEq, exists_eq_left', rd_d, on2_d, on1_d, c1_d, bOf_b, exists_eq_left, Option.map_some, Option.bind_some, W.d.injEq, Ret_gcd, List.take_length, dIx]
    have hev := he.2
    refine (choice_ok (by rw [List.length_append]; omega) e1 (.inl rfl) h0 (by omega)).mono ?_
    rintro _ T2 ⟨⟨y, rfl, hy⟩, r1⟩
    obtain ⟨ws, rfl, wl, wm⟩ := he.1 y hy
    obtain ⟨q, g1, g2⟩ := sh_keys wm
    rw [wl] at g2
    have ea : T2[S.length + 0]? = some (.dt kvs) := rdr_at hk r1 0
    rw [Nat.add_zero] at ea
    refine ⟨T2.set (S.length + 0) (.dt (putD kvs q (.bool true))), ?_, ⟨_, rfl⟩, putD kvs q (.bool true), rdr_set hk r1 0 (.dt (putD kvs q (.bool true))), putD_ok k1 g2, ?_⟩
    · simp only [dputW, ea]
      rw [if_pos (small_of (m := 10000) (by omega)), g1]; rfl
    · have := (putD_len kvs q (.bool true)).1; omega
/-- a coin: its number, its scope -/
def Coin (c : PyData) : Prop := ∃ (n : Int) (ps : List PyData), c = .tuple [.int n, .tuple ps] ∧ n.natAbs ≤ 10 ^ 22 ∧ Prs 3 ps
theorem purse_ok {ev : List PyData} (he : Prs 60 ev) (h0 : 0 < ev.length) : Ret (f_l_purse [.r k, .d (.list ev), .d (.int 5)] T0) fun w T => (∃ cs, w = .d (.tuple cs) ∧ cs.length ≤ 5 ∧ ∀ c ∈ cs, Coin c) ∧ Rdr (RdO ns) k S T := by
  have eL := rdr_lenS h
  refine Ret_fnB rfl ?_
  unfold b_l_purse
  simp only [RetS_cons, RetS_nil, RetS_set, RetS_drop, RetS_ret, RetS_if, RetS_asg, RetS_par, RetS_put, RetS_nx, RetS_rt, Ret_dFn, Ret_dCons, Ret_dNil, Ret_dBin, Ret_dUn, Ret_dCall, Ret_dCallN, Ret_dC, Ret_dG, Ret_dVar, Ret_dIf, Ret_dFz, Ret_dNew, Ret_dLst, Ret_dTup, Ret_dB, Ret_dAndT, Ret_dOrT, Ret_dNotT, Ret_dAnd, Ret_dOr, Ret_dNot, Ret_dIsi, Ret_dChain, Ret_dGet, Ret_dD0, Ret_dNoP, Ret_dPt, Ret_dSlA, Ret_dMeth, Ret_dAny, Ret_dLenSet, Ret_dZip, Ret_dZipL, Ret_dKeys, Ret_dRng1, Ret_dRng2, Ret_dLc, wipeW, Ret_dDc, Ret_dItems, Ret_dSortSet, Ret_dFnK, RetS_for, Ret_ok, startW, List.map_cons, List.map_nil, List.length_cons, List.length_nil, List.cons_append, List.nil_append, List.replicate, Nat.sub_self, Nat.reduceSub, Nat.reduceAdd, List.getElem?_cons_zero, List.getElem?_cons_succ, List.set_cons_zero, List.set_cons_succ, Option.some.injEq, exists_eq_left', rd_d, on2_d, on1_d, c1_d, bOf_b, exists_eq_left, Option.map_some, Option.bind_some, W.d.injEq, Ret_gcd, List.take_length, dIx]
  have h1 := rdr_push hk (rdr0 h) (.lst [])
  rw [List.nil_append] at h1
  refine ⟨[], rfl, _, rfl, _, rfl, _, rfl, .d (.int 6), rfl, ?_⟩
  refine (rdr_draw hk h1 (by decide) (by decide)).mono ?_
  rintro _ T1 ⟨⟨x, rfl, x0, x1⟩, h2⟩
  refine ⟨x, rfl, by omega, ?_⟩
  rw [eL]
  refine for_inv (fun j σ T => (∃ (m : Int) (o : Option W), σ = [some (.r k), some (.d (.list ev)), some (.d (.int 5)), some (.r S.length), some (.d (.int m)), o] ∧ 0 ≤ m ∧ m ≤ j * (10 ^ 20 + 1)) ∧ ∃ cs, Rdr (RdO ns) k (S ++ [.lst cs]) T ∧ cs.length = j ∧ ∀ c ∈ cs, Coin c) (rng 0 x) 0 _ _ ⟨⟨0, _, rfl, by decide, by decide⟩, [], h2, rfl, fun q hq => nomatch hq⟩ ?_ ?_
  · rintro σ T ⟨⟨m, o, rfl, m0, m1⟩, cs, e1, c1, c2⟩
    rw [rng0_len] at c1
    simp only [RetS_cons, RetS_nil, RetS_set, RetS_drop, RetS_ret, RetS_if, RetS_asg, RetS_par, RetS_put, RetS_nx, RetS_rt, Ret_dFn, Ret_dCons, Ret_dNil, Ret_dBin, Ret_dUn, Ret_dCall, Ret_dCallN, Ret_dC, Ret_dG, Ret_dVar, Ret_dIf, Ret_dFz, Ret_dNew, Ret_dLst, Ret_dTup, Ret_dB, Ret_dAndT, Ret_dOrT, Ret_dNotT, Ret_dAnd, Ret_dOr, Ret_dNot, Ret_dIsi, Ret_dChain, Ret_dGet, Ret_dD0, Ret_dNoP, Ret_dPt, Ret_dSlA, Ret_dMeth, Ret_dAny, Ret_dLenSet, Ret_dZip, Ret_dZipL, Ret_dKeys, Ret_dRng1, Ret_dRng2, Ret_dLc, wipeW, Ret_dDc, Ret_dItems, Ret_dSortSet, Ret_dFnK, RetS_for, Ret_ok, startW, List.map_cons, List.map_nil, List.length_cons, List.length_nil, List.cons_append, List.nil_append, List.replicate, Nat.sub_self, Nat.reduceSub, Nat.reduceAdd, List.getElem?_cons_zero, List.getElem?_cons_succ, List.set_cons_zero, List.set_cons_succ, Option.some.injEq, exists_eq_left', rd_d, on2_d, on1_d, c1_d, bOf_b, exists_eq_left, Option.map_some, Option.bind_some, W.d.injEq, Ret_gcd, List.take_length, dIx]
    have ea : T[S.length + 0]? = some (.lst cs) := rdr_at hk e1 0
    rw [Nat.add_zero] at ea
    refine ⟨.d (.tuple cs), ?_, ?_⟩
    · show CL.c1 tupP T [.r S.length] = _
      simp only [CL.c1, on1, rd, ea, tupP, Option.map_some]
    · exact ⟨⟨_, rfl, by omega, c2⟩, rdr_take hk e1⟩
  · rintro j q σ T hq ⟨⟨m, o, rfl, m0, m1⟩, cs, e1, c1, c2⟩
    obtain ⟨rfl, hj⟩ := rng_at hq
    refine ⟨_, rfl, ?_⟩
    simp only [RetS_cons, RetS_nil, RetS_set, RetS_drop, RetS_ret, RetS_if, RetS_asg, RetS_par, RetS_put, RetS_nx, RetS_rt, Ret_dFn, Ret_dCons, Ret_dNil, Ret_dBin, Ret_dUn, Ret_dCall, Ret_dCallN, Ret_dC, Ret_dG, Ret_dVar, Ret_dIf, Ret_dFz, Ret_dNew, Ret_dLst, Ret_dTup, Ret_dB, Ret_dAndT, Ret_dOrT, Ret_dNotT, Ret_dAnd, Ret_dOr, Ret_dNot, Ret_dIsi, Ret_dChain, Ret_dGet, Ret_dD0, Ret_dNoP, Ret_dPt, Ret_dSlA, Ret_dMeth, Ret_dAny, Ret_dLenSet, Ret_dZip, Ret_dZipL, Ret_dKeys, Ret_dRng1, Ret_dRng2, Ret_dLc, wipeW, Ret_dDc, Ret_dItems, Ret_dSortSet, Ret_dFnK, RetS_for, Ret_ok, startW, List.map_cons, List.map_nil, List.length_cons, List.length_nil, List.cons_append, List.nil_append, List.replicate, Nat.sub_self, Nat.reduceSub, Nat.reduceAdd, List.getElem?_cons_zero, List.getElem?_cons_succ, List.set_cons_zero, List.set_cons_succ, Option.some.injEq, exists_eq_left', rd_d, on2_d, on1_d, c1_d, bOf_b, exists_eq_left, Option.map_some, Option.bind_some, W.d.injEq, Ret_gcd, List.take_length, dIx]
    have e20 : powI 10 20 = some (.int 100000000000000000000) := by unfold powI; rw [if_pos (by decide)]; rfl
    refine ⟨_, om e20, [.int 0, .int 1, .int 2, .int 100000000000000000000], rfl, ?_⟩
    refine (choice_ok (by rw [List.length_append]; omega) e1 (.inl rfl) (by decide) (by decide)).mono ?_
    rintro _ T2 ⟨⟨y, rfl, hy⟩, r1⟩
    obtain ⟨z, rfl, z0, z1⟩ : ∃ z : Int, y = .int z ∧ 0 ≤ z ∧ z ≤ 10 ^ 20 := by
      simp only [List.mem_cons, List.not_mem_nil, or_false] at hy
      rcases hy with rfl | rfl | rfl | rfl <;> exact ⟨_, rfl, by decide, by decide⟩
    refine ⟨.d (.int (m + z)), rfl, ?_⟩
    have ea : T2[S.length + 0]? = some (.lst cs) := rdr_at hk r1 0
    rw [Nat.add_zero] at ea
    refine ⟨by simp only [tyM, ea]; rfl, ?_⟩
    refine (scope_ok (by rw [List.length_append]; omega) r1 he h0).mono ?_
    rintro _ T3 ⟨⟨ps, rfl, hps⟩, r2⟩
    have eb : T3[S.length + 0]? = some (.lst cs) := rdr_at hk r2 0
    rw [Nat.add_zero] at eb
    have hm : (j : Int) ≤ 4 := by omega
    have hm2 : (j : Int) * (10 ^ 20 + 1) ≤ 4 * (10 ^ 20 + 1) := Int.mul_le_mul_of_nonneg_right hm (by decide)
    rw [Nat.zero_add] at m1
    have rs : Rdr (RdO ns) k (S ++ [O.lst (cs ++ [PyData.tuple [.int (m + z), .tuple ps]])]) (T3.set (S.length + 0) (O.lst (cs ++ [PyData.tuple [.int (m + z), .tuple ps]]))) := rdr_set hk r2 0 (O.lst (cs ++ [PyData.tuple [.int (m + z), .tuple ps]]))
    refine ⟨_, rfl, .d .none, T3.set (S.length + 0) (.lst (cs ++ [.tuple [.int (m + z), .tuple ps]])), ?_, .d (.int (m + z + 1)), rfl, ⟨m + z + 1, _, rfl, by omega, ?_⟩, cs ++ [.tuple [.int (m + z), .tuple ps]], rs, by simp; omega, fun c hc => ?_⟩
    · simp only [gApp, eb]
      rw [if_pos (small_of (m := 1000) (by omega))]; rfl
    · rw [Nat.zero_add]
      have : (((j + 1 : Nat) : Int)) * (10 ^ 20 + 1) = (j : Int) * (10 ^ 20 + 1) + (10 ^ 20 + 1) := by
        rw [Int.natCast_add, Int.add_mul]; simp
      rw [this]; omega
    · rcases List.mem_append.mp hc with hc | hc
      · exact c2 c hc
      · rw [List.mem_singleton] at hc
        exact ⟨_, _, hc, by omega, hps⟩
theorem wanted_ok {ev : List PyData} (he : Prs 60 ev) : Ret (f_l_wanted [.r k, .d (.list ev), .d (.int 5)] T0) fun w T => (∃ ps, w = .d (.tuple ps) ∧ Prs 5 ps) ∧ Rdr (RdO ns) k S T := by
  have eL := rdr_lenS h
  have hev := he.2
  refine Ret_fnB rfl ?_
  unfold b_l_wanted
  simp only [RetS_cons, RetS_nil, RetS_set, RetS_drop, RetS_ret, RetS_if, RetS_asg, RetS_par, RetS_put, RetS_nx, RetS_rt, Ret_dFn, Ret_dCons, Ret_dNil, Ret_dBin, Ret_dUn, Ret_dCall, Ret_dCallN, Ret_dC, Ret_dG, Ret_dVar, Ret_dIf, Ret_dFz, Ret_dNew, Ret_dLst, Ret_dTup, Ret_dB, Ret_dAndT, Ret_dOrT, Ret_dNotT, Ret_dAnd, Ret_dOr, Ret_dNot, Ret_dIsi, Ret_dChain, Ret_dGet, Ret_dD0, Ret_dNoP, Ret_dPt, Ret_dSlA, Ret_dMeth, Ret_dAny, Ret_dLenSet, Ret_dZip, Ret_dZipL, Ret_dKeys, Ret_dRng1, Ret_dRng2, Ret_dLc, wipeW, Ret_dDc, Ret_dItems, Ret_dSortSet, Ret_dFnK, RetS_for, Ret_ok, startW, List.map_cons, List.map_nil, List.length_cons, List.length_nil, List.cons_append, List.nil_append, List.replicate, Nat.sub_self, Nat.reduceSub, Nat.reduceAdd, List.getElem?_cons_zero, List.getElem?_cons_succ, List.set_cons_zero, List.set_cons_succ, Option.some.injEq, exists_eq_left', rd_d, on2_d, on1_d, c1_d, bOf_b, exists_eq_left, Option.map_some, Option.bind_some, W.d.injEq, Ret_gcd, List.take_length, dIx]
  have h1 := rdr_push hk (rdr_push hk (rdr0 h) (.lst ev)) (.lst [])
  rw [List.nil_append] at h1
  have ea : (T0 ++ [O.lst ev] ++ [O.lst []])[S.length + 0]? = some (.lst ev) := rdr_at hk h1 0
  rw [Nat.add_zero] at ea
  have lp : ∀ {T : So} {xs : List PyData}, T[S.length]? = some (.lst xs) → CL.c1 lenP T [.r S.length] = some (.d (.int xs.length)) := by
    intro T xs e
    simp only [CL.c1, on1, rd, e, lenP, Option.map_some]
  refine ⟨ev, rfl, [], rfl, [some (.r k), some (.d (.list ev)), some (.d (.int 5)), some (.r S.length), some (.r (S.length + 1)), none], by rw [List.length_append, eL]; rfl, _, rfl, _, rfl, _, rfl, .d (.int ev.length), lp ea, .d (.int (if (ev.length : Int) < 5 then ev.length else 5)), rfl, .d (.int ((if (ev.length : Int) < 5 then (ev.length : Int) else 5) + 1)), rfl, ?_⟩
  refine (rdr_draw hk h1 (by split <;> omega) (by split <;> omega)).mono ?_
  rintro _ T1 ⟨⟨x, rfl, x0, x1⟩, h2⟩
  have x2 : x ≤ 5 ∧ x ≤ ev.length := by split at x1 <;> omega
  refine ⟨x, rfl, by omega, ?_⟩
  refine for_inv (fun j σ T => (∃ o, σ = [some (.r k), some (.d (.list ev)), some (.d (.int 5)), some (.r S.length), some (.r (S.length + 1)), o]) ∧ ∃ pool fd, Rdr (RdO ns) k (S ++ [.lst pool, .lst fd]) T ∧ pool.length + j = ev.length ∧ fd.length = j ∧ (∀ p ∈ pool, Row 2 p) ∧ ∀ p ∈ fd, Row 2 p) (rng 0 x) 0 _ _ ⟨⟨_, rfl⟩, ev, [], h2, rfl, rfl, he.1, fun q hq => nomatch hq⟩ ?_ ?_
  · rintro σ T ⟨⟨o, rfl⟩, pool, fd, e1, p1, p2, p3, p4⟩
    rw [rng0_len] at p2
    simp only [RetS_cons, RetS_nil, RetS_set, RetS_drop, RetS_ret, RetS_if, RetS_asg, RetS_par, RetS_put, RetS_nx, RetS_rt, Ret_dFn, Ret_dCons, Ret_dNil, Ret_dBin, Ret_dUn, Ret_dCall, Ret_dCallN, Ret_dC, Ret_dG, Ret_dVar, Ret_dIf, Ret_dFz, Ret_dNew, Ret_dLst, Ret_dTup, Ret_dB, Ret_dAndT, Ret_dOrT, Ret_dNotT, Ret_dAnd, Ret_dOr, Ret_dNot, Ret_dIsi, Ret_dChain, Ret_dGet, Ret_dD0, Ret_dNoP, Ret_dPt, Ret_dSlA, Ret_dMeth, Ret_dAny, Ret_dLenSet, Ret_dZip, Ret_dZipL, Ret_dKeys, Ret_dRng1, Ret_dRng2, Ret_dLc, wipeW, Ret_dDc, Ret_dItems, Ret_dSortSet, Ret_dFnK, RetS_for, Ret_ok, startW, List.map_cons, List.map_nil, List.length_cons, List.length_nil, List.cons_append, List.nil_append, List.replicate, Nat.sub_self, Nat.reduceSub, Nat.reduceAdd, List.getElem?_cons_zero, List.getElem?_cons_succ, List.set_cons_zero, List.set_cons_succ, Option.some.injEq, exists_eq_left', rd_d, on2_d, on1_d, c1_d, bOf_b, exists_eq_left, Option.map_some, Option.bind_some, W.d.injEq, Ret_gcd, List.take_length, dIx]
    have eb : T[S.length + 1]? = some (.lst fd) := rdr_at hk e1 1
    refine ⟨.d (.tuple fd), ?_, ?_⟩
    · show CL.c1 tupP T [.r (S.length + 1)] = _
      simp only [CL.c1, on1, rd, eb, tupP, Option.map_some]
    · exact ⟨⟨_, rfl, p4, by omega⟩, by rw [eL]; exact rdr_take hk e1⟩
  · rintro j q σ T hq ⟨⟨o, rfl⟩, pool, fd, e1, p1, p2, p3, p4⟩
    obtain ⟨rfl, hj⟩ := rng_at hq
    refine ⟨_, rfl, ?_⟩
    simp only [RetS_cons, RetS_nil, RetS_set, RetS_drop, RetS_ret, RetS_if, RetS_asg, RetS_par, RetS_put, RetS_nx, RetS_rt, Ret_dFn, Ret_dCons, Ret_dNil, Ret_dBin, Ret_dUn, Ret_dCall, Ret_dCallN, Ret_dC, Ret_dG, Ret_dVar, Ret_dIf, Ret_dFz, Ret_dNew, Ret_dLst, Ret_dTup, Ret_dB, Ret_dAndT, Ret_dOrT, Ret_dNotT, Ret_dAnd, Ret_dOr, Ret_dNot, Ret_dIsi, Ret_dChain, Ret_dGet, Ret_dD0, Ret_dNoP, Ret_dPt, Ret_dSlA, Ret_dMeth, Ret_dAny, Ret_dLenSet, Ret_dZip, Ret_dZipL, Ret_dKeys, Ret_dRng1, Ret_dRng2, Ret_dLc, wipeW, Ret_dDc, Ret_dItems, Ret_dSortSet, Ret_dFnK, RetS_for, Ret_ok, startW, List.map_cons, List.map_nil, List.length_cons, List.length_nil, List.cons_append, List.nil_append, List.replicate, Nat.sub_self, Nat.reduceSub, Nat.reduceAdd, List.getElem?_cons_zero, List.getElem?_cons_succ, List.set_cons_zero, List.set_cons_succ, Option.some.injEq, exists_eq_left', rd_d, on2_d, on1_d, c1_d, bOf_b, exists_eq_left, Option.map_some, Option.bind_some, W.d.injEq, Ret_gcd, List.take_length, dIx]
    have e0 : T[S.length + 0]? = some (.lst pool) := rdr_at hk e1 0
    rw [Nat.add_zero] at e0
    have eb : T[S.length + 1]? = some (.lst fd) := rdr_at hk e1 1
    refine ⟨by simp only [tyM, eb]; rfl, by simp only [tyM, e0]; rfl, .d (.int pool.length), lp e0, ?_⟩
    refine (rdr_draw hk e1 (by omega) (by omega)).mono ?_
    rintro _ T2 ⟨⟨y, rfl, y0, y1⟩, r1⟩
    have f0 : T2[S.length + 0]? = some (.lst pool) := rdr_at hk r1 0
    rw [Nat.add_zero] at f0
    have hy : y.toNat < pool.length := by omega
    have rs : Rdr (RdO ns) k (S ++ [O.lst (pool.eraseIdx y.toNat), O.lst fd]) (T2.set (S.length + 0) (O.lst (pool.eraseIdx y.toNat))) := rdr_set hk r1 0 (O.lst (pool.eraseIdx y.toNat))
    have fb : (T2.set (S.length + 0) (O.lst (pool.eraseIdx y.toNat)))[S.length + 1]? = some (.lst fd) := rdr_at hk rs 1
    have rs2 : Rdr (RdO ns) k (S ++ [O.lst (pool.eraseIdx y.toNat), O.lst (fd ++ [pool[y.toNat]])]) ((T2.set (S.length + 0) (O.lst (pool.eraseIdx y.toNat))).set (S.length + 1) (O.lst (fd ++ [pool[y.toNat]]))) := rdr_set hk rs 1 (O.lst (fd ++ [pool[y.toNat]]))
    refine ⟨.d pool[y.toNat], T2.set (S.length + 0) (O.lst (pool.eraseIdx y.toNat)), ?_, .d .none, _, ?_, ⟨_, rfl⟩, _, _, rs2, ?_, by simp; omega, ?_, ?_⟩
    · simp only [gPop, f0]
      rw [if_pos ⟨y0, by omega⟩, List.getElem?_eq_getElem hy]; rfl
    · simp only [gApp, fb]
      rw [if_pos (small_of (m := 1000) (by omega))]
    · rw [List.length_eraseIdx, if_pos hy]; omega
    · exact fun z hz => p3 z (List.mem_of_mem_eraseIdx hz)
    · intro z hz
      rcases List.mem_append.mp hz with hz | hz
      · exact p4 z hz
      · rw [List.mem_singleton] at hz; subst hz; exact p3 _ (List.getElem_mem hy)
end
end LK16
end

section
/-! part LM16d -/
set_option Elab.async false
set_option linter.all false
set_option maxRecDepth 100000
set_option maxHeartbeats 1000000
/-! LM16d: all payments. -/
open CL
open PySem PySem.Spec PyProof.Rows L2
namespace LK16
theorem eqv_str (a b : Str) : PyData.eqv (.str a) (.str b) = true ↔ a = b := by
  simp [PyData.eqv]
theorem eqv_row {n m : Nat} {x y : PyData} (hx : Row n x) (hy : Row m y) : PyData.eqv x y = true ↔ x = y := by
  obtain ⟨xs, rfl, _, h1⟩ := hx
  obtain ⟨ys, rfl, _, h2⟩ := hy
  have : ∀ (xs ys : List PyData), (∀ y ∈ xs, Sh y) → (∀ y ∈ ys, Sh y) → (PyData.eqvAll xs ys = true ↔ xs = ys) := by
    intro xs
    induction xs with
    | nil => intro ys _ _; cases ys <;> simp [PyData.eqvAll]
    | cons x xs ih =>
      intro ys h1 h2
      cases ys with
      | nil => simp [PyData.eqvAll]
      | cons y ys =>
        obtain ⟨z, rfl, _⟩ := h1 x List.mem_cons_self
        obtain ⟨z', rfl, _⟩ := h2 y List.mem_cons_self
        simp only [PyData.eqvAll, Bool.and_eq_true, eqv_str, ih ys (fun q hq => h1 q (List.mem_cons_of_mem _ hq)) fun q hq => h2 q (List.mem_cons_of_mem _ hq), List.cons.injEq, PyData.str.injEq]
  simpa [PyData.eqv] using this xs ys h1 h2
theorem mem_row {p : PyData} {ps : List PyData} (hp : Row 2 p) (h : ∀ q ∈ ps, Row 2 q) : memD p ps = true ↔ p ∈ ps := by
  unfold memD
  rw [List.any_eq_true]
  constructor
  · rintro ⟨q, hq, e⟩
    rw [(eqv_row (h q hq) hp).mp e] at hq; exact hq
  · intro hm
    exact ⟨p, hm, (eqv_row hp hp).mpr rfl⟩
theorem mem_int (n : Int) (a : List Int) : memD (.int n) (a.map PyData.int) = true ↔ n ∈ a := by
  unfold memD
  rw [List.any_eq_true]
  constructor
  · rintro ⟨q, hq, e⟩
    obtain ⟨m, hm, rfl⟩ := List.mem_map.mp hq
    have : m = n := by simpa [PyData.eqv] using e
    subst this; exact hm
  · intro hm
    exact ⟨.int n, List.mem_map.mpr ⟨n, hm, rfl⟩, by simp [PyData.eqv]⟩
theorem okD_intT (ns : List Int) : okD (.tuple (ns.map PyData.int)) = true := by
  have := okD_ints ns
  unfold CL.okD SeqAt.shaped at *
  simpa [PyData.canLay0, PyData.depth] using this
theorem okD_int (n : Int) : okD (.int n) = true := rfl
theorem okD_row {n : Nat} {p : PyData} (h : Row n p) : okD p = true := (row_gd h).okD (by decide)
theorem okD_rows {n : Nat} {ps : List PyData} (h : ∀ p ∈ ps, Row n p) : okD (.tuple ps) = true := (Gd.tuple (Gds.of_mem fun p hp => row_gd (h p hp))).okD (by decide)
theorem inT {neg : Bool} {x : PyData} {ys : List PyData} (h1 : okD x = true) (h2 : okD (.tuple ys) = true) : inP neg x (.tuple ys) = some (.bool (memD x ys ^^ neg)) := by
  have : inP neg x (.tuple ys) = if (okD x && okD (.tuple ys)) = true then some (.bool (memD x ys ^^ neg)) else none := by cases x <;> rfl
  rw [this, h1, h2]; rfl
theorem inL {neg : Bool} {x : PyData} {ys : List PyData} (h1 : okD x = true) (h2 : okD (.list ys) = true) : inP neg x (.list ys) = some (.bool (memD x ys ^^ neg)) := by
  have : inP neg x (.list ys) = if (okD x && okD (.list ys)) = true then some (.bool (memD x ys ^^ neg)) else none := by cases x <;> rfl
  rw [this, h1, h2]; rfl
/-! ### the model -/
abbrev Cn := Int × List PyData
def coinD (c : Cn) : PyData := .tuple [.int c.1, .tuple c.2]
def CnOk (c : Cn) : Prop := c.1.natAbs ≤ 10 ^ 22 ∧ Prs 3 c.2
theorem coins_of : ∀ {cs : List PyData}, (∀ c ∈ cs, Coin c) → ∃ L : List Cn, cs = L.map coinD ∧ ∀ c ∈ L, CnOk c
  | [], _ => ⟨[], rfl, fun c hc => nomatch hc⟩
  | c :: cs, h => by
    obtain ⟨n, ps, rfl, h1, h2⟩ := h c List.mem_cons_self
    obtain ⟨L, rfl, h3⟩ := coins_of fun x hx => h x (List.mem_cons_of_mem _ hx)
    refine ⟨(n, ps) :: L, rfl, fun x hx => ?_⟩
    rcases List.mem_cons.mp hx with e | hx
    · subst e; exact ⟨h1, h2⟩
    · exact h3 x hx
def adj (L : List Cn) (p : PyData) (n : Int) : Prop := ∃ ps, (n, ps) ∈ L ∧ p ∈ ps
structure Valid (L : List Cn) (ps : List PyData) (a : List Int) : Prop where
  len : a.length = ps.length
  nd : a.Nodup
  ad : ∀ (i : Nat) (p : PyData) (n : Int), ps[i]? = some p → a[i]? = some n → adj L p n
theorem valid_nil {L : List Cn} {a : List Int} : Valid L [] a ↔ a = [] := by
  constructor
  · intro h; exact List.length_eq_zero_iff.mp h.len
  · rintro rfl; exact ⟨rfl, List.nodup_nil, fun i p n h => by simp at h⟩
theorem valid_snoc {L : List Cn} {ps : List PyData} {p : PyData} {b : List Int} : Valid L (ps ++ [p]) b ↔ ∃ a n, b = a ++ [n] ∧ Valid L ps a ∧ adj L p n ∧ n ∉ a := by
  constructor
  · intro h
    have hl : b.length = ps.length + 1 := by simpa using h.len
    have hne : b ≠ [] := by intro e; subst e; simp at hl
    refine ⟨b.dropLast, b.getLast hne, (List.dropLast_concat_getLast hne).symm, ?_, ?_, ?_⟩
    · have hb := List.dropLast_concat_getLast hne
      refine ⟨by rw [List.length_dropLast]; omega, ?_, fun i q n h1 h2 => ?_⟩
      · have := h.nd; rw [← hb] at this; exact (List.nodup_append.mp this).1
      · have hi := (List.getElem?_eq_some_iff.mp h1).1
        have hj := (List.getElem?_eq_some_iff.mp h2).1
        refine h.ad i q n (by rw [List.getElem?_append_left hi]; exact h1) ?_
        rw [← hb, List.getElem?_append_left hj]; exact h2
    · refine h.ad ps.length p _ (by simp) ?_
      rw [List.getLast_eq_getElem, ← List.getElem?_eq_getElem]
      congr 1; omega
    · have hb := List.dropLast_concat_getLast hne
      have := h.nd; rw [← hb] at this
      have := (List.nodup_append.mp this).2.2
      intro hm
      exact this _ hm _ (by simp) rfl
  · rintro ⟨a, n, rfl, h, h1, h2⟩
    refine ⟨by simp [h.len], ?_, fun i q m g1 g2 => ?_⟩
    · rw [List.nodup_append]
      refine ⟨h.nd, by simp, fun x hx y hy => ?_⟩
      rw [List.mem_singleton] at hy; subst hy
      intro e; subst e; exact h2 hx
    · by_cases hi : i < ps.length
      · rw [List.getElem?_append_left hi] at g1
        rw [List.getElem?_append_left (by rw [h.len]; exact hi)] at g2
        exact h.ad i q m g1 g2
      · have hi2 : i < (ps ++ [p]).length := (List.getElem?_eq_some_iff.mp g1).1
        have : i = ps.length := by simp at hi2; omega
        subst this
        simp at g1
        rw [← h.len] at g2
        simp at g2
        subst g1; subst g2; exact h1
def PB (p : PyData) (a : List Int) : PyData → Bool
  | .tuple [.int n, .tuple ps] => memD p ps && !memD (.int n) (a.map PyData.int)
  | _ => false
def PF (a : List Int) : PyData → PyData
  | .tuple [.int n, _] => .tuple (a.map PyData.int ++ [.int n])
  | x => x
def payD (a : List Int) : PyData := .tuple (a.map PyData.int)
def stepA (L : List Cn) (p : PyData) (a : List Int) : List (List Int) := (L.filter fun c => PB p a (coinD c)).map fun c => a ++ [c.1]
theorem step_data (L : List Cn) (p : PyData) (a : List Int) : ((L.map coinD).filter (PB p a)).map (PF a) = (stepA L p a).map payD := by
  unfold stepA
  rw [List.filter_map, List.map_map, List.map_map]
  exact List.map_congr_left fun c _ => by simp [PF, coinD, payD, Function.comp]
theorem step_len (L : List Cn) (p : PyData) (a : List Int) : (stepA L p a).length ≤ L.length := by
  unfold stepA; rw [List.length_map]; exact List.length_filter_le _ _
theorem step_mem {L : List Cn} {p : PyData} {a b : List Int} (hL : ∀ c ∈ L, CnOk c) (hp : Row 2 p) : b ∈ stepA L p a ↔ ∃ n, b = a ++ [n] ∧ adj L p n ∧ n ∉ a := by
  unfold stepA
  rw [List.mem_map]
  constructor
  · rintro ⟨⟨n, ps⟩, hc, rfl⟩
    obtain ⟨h1, h2⟩ := List.mem_filter.mp hc
    simp only [PB, coinD, Bool.and_eq_true, Bool.not_eq_true', mem_row hp (hL _ h1).2.1] at h2
    refine ⟨n, rfl, ⟨ps, h1, h2.1⟩, fun hm => ?_⟩
    rw [(mem_int n a).mpr hm] at h2; cases h2.2
  · rintro ⟨n, rfl, ⟨ps, h1, h2⟩, h3⟩
    refine ⟨(n, ps), List.mem_filter.mpr ⟨h1, ?_⟩, rfl⟩
    simp only [PB, coinD, Bool.and_eq_true, Bool.not_eq_true', mem_row hp (hL _ h1).2.1]
    refine ⟨h2, ?_⟩
    cases e : memD (.int n) (a.map PyData.int) with
    | false => rfl
    | true => exact absurd ((mem_int n a).mp e) h3
theorem pays_pl (F : List (List Int)) : plDs (F.map payD) = true := by
  induction F with
  | nil => rfl
  | cons a F ih =>
    have : plDs (a.map PyData.int) = true := by
      induction a with
      | nil => rfl
      | cons n a ih => simpa [plDs, plD] using ih
    simp [plDs, plD, payD, this, ih]
/-- the list of slot 2 -/
def At2 (T : So) (m : Nat) (w : W) (xs : List PyData) : Prop := w = .d (.list xs) ∨ ∃ n, w = .r n ∧ m ≤ n ∧ T[n]? = some (.lst xs)
theorem payments_ok {L : List Cn} {ps : List PyData} (hL : ∀ c ∈ L, CnOk c) (hl : L.length ≤ 5) (hp : Prs 5 ps) (T0 : So) : Ret (f_l_payments [.d (.tuple (L.map coinD)), .d (.tuple ps)] T0) fun w T => (∃ F : List (List Int), w = .d (.list (F.map payD)) ∧ (∀ a, a ∈ F ↔ Valid L ps a) ∧ F.length ≤ 5 ^ 5) ∧ T = T0 := by
  refine Ret_fnB rfl ?_
  unfold b_l_payments
  simp only [RetS_cons, RetS_nil, RetS_set, RetS_drop, RetS_ret, RetS_if, RetS_asg, RetS_par, RetS_put, RetS_nx, RetS_rt, Ret_dFn, Ret_dCons, Ret_dNil, Ret_dBin, Ret_dUn, Ret_dCall, Ret_dCallN, Ret_dC, Ret_dG, Ret_dVar, Ret_dIf, Ret_dFz, Ret_dNew, Ret_dLst, Ret_dTup, Ret_dB, Ret_dAndT, Ret_dOrT, Ret_dNotT, Ret_dAnd, Ret_dOr, Ret_dNot, Ret_dIsi, Ret_dChain, Ret_dGet, Ret_dD0, Ret_dNoP, Ret_dPt, Ret_dSlA, Ret_dMeth, Ret_dAny, Ret_dLenSet, Ret_dZip, Ret_dZipL, Ret_dKeys, Ret_dRng1, Ret_dRng2, Ret_dLc, wipeW, Ret_dDc, Ret_dItems, Ret_dSortSet, Ret_dFnK, RetS_for, Ret_ok, startW, List.map_cons, List.map_nil, List.length_cons, List.length_nil, List.cons_append, List.nil_append, List.replicate, Nat.sub_self, Nat.reduceSub, Nat.reduceAdd, List.getElem?_cons_zero, List.getElem?_cons_succ, List.set_cons_zero, List.set_cons_succ, Option.some.injEq, exists_eq_left', rd_d, on2_d, on1_d, c1_d, bOf_b, exists_eq_left, Option.map_some, Option.bind_some, W.d.injEq, Ret_gcd, List.take_length, dIx]
  refine ⟨[], rfl, [.tuple []], rfl, (ps, none), rfl, ?_⟩
  refine for_inv (fun j σ T => (∃ w2 o3 o4 o5 o6 o7, σ = [some (.d (.tuple (L.map coinD))), some (.d (.tuple ps)), some w2, o3, o4, o5, o6, o7] ∧ ∃ F : List (List Int), At2 T T0.length w2 (F.map payD) ∧ (∀ a, a ∈ F ↔ Valid L (ps.take j) a) ∧ F.length ≤ 5 ^ j) ∧ ∃ ex, T = T0 ++ ex) ps 0 _ _ ⟨⟨_, _, _, _, _, _, rfl, [[]], .inl rfl, fun a => ?_, by decide⟩, [], (List.append_nil T0).symm⟩ ?_ ?_
  · rw [List.take_zero, valid_nil]; simp
  · rintro σ T ⟨⟨w2, o3, o4, o5, o6, o7, rfl, F, hw, hF, hFl⟩, ex, rfl⟩
    rw [Nat.zero_add, List.take_length] at hF
    rw [Nat.zero_add] at hFl
    simp only [RetS_cons, RetS_nil, RetS_set, RetS_drop, RetS_ret, RetS_if, RetS_asg, RetS_par, RetS_put, RetS_nx, RetS_rt, Ret_dFn, Ret_dCons, Ret_dNil, Ret_dBin, Ret_dUn, Ret_dCall, Ret_dCallN, Ret_dC, Ret_dG, Ret_dVar, Ret_dIf, Ret_dFz, Ret_dNew, Ret_dLst, Ret_dTup, Ret_dB, Ret_dAndT, Ret_dOrT, Ret_dNotT, Ret_dAnd, Ret_dOr, Ret_dNot, Ret_dIsi, Ret_dChain, Ret_dGet, Ret_dD0, Ret_dNoP, Ret_dPt, Ret_dSlA, Ret_dMeth, Ret_dAny, Ret_dLenSet, Ret_dZip, Ret_dZipL, Ret_dKeys, Ret_dRng1, Ret_dRng2, Ret_dLc, wipeW, Ret_dDc, Ret_dItems, Ret_dSortSet, Ret_dFnK, RetS_for, Ret_ok, startW, List.map_cons, List.map_nil, List.length_cons, List.length_nil, List.cons_append, List.nil_append, List.replicate, Nat.sub_self, Nat.reduceSub, Nat.reduceAdd, List.getElem?_cons_zero, List.getElem?_cons_succ, List.set_cons_zero, List.set_cons_succ, Option.some.injEq, exists_eq_left', rd_d, on2_d, on1_d, c1_d, bOf_b, exists_eq_left, Option.map_some, Option.bind_some, W.d.injEq, Ret_gcd, List.take_length, dIx]
    have h5 : F.length ≤ 5 ^ 5 := Nat.le_trans hFl (Nat.pow_le_pow_right (by decide) hp.2)
    rcases hw with rfl | ⟨n, rfl, hn, ha⟩
    · refine ⟨⟨F, rfl, hF, h5⟩, by simp⟩
    · unfold gc
      dsimp only
      rw [if_neg (by omega), ha]
      exact ⟨⟨F, rfl, hF, h5⟩, by simp⟩
  · rintro j p σ T hpj ⟨⟨w2, o3, o4, o5, o6, o7, rfl, F, hw, hF, hFl⟩, ex, rfl⟩
    rw [Nat.zero_add] at hF hFl ⊢
    have hj := (List.getElem?_eq_some_iff.mp hpj).1
    have hpr := hp.1 p (List.mem_of_getElem? hpj)
    have h5 : F.length ≤ 5 ^ 5 := Nat.le_trans hFl (Nat.pow_le_pow_right (by decide) (by have := hp.2; omega))
    have hj5 : j < 5 := by have := hp.2; omega
    refine ⟨_, rfl, ?_⟩
    simp only [RetS_cons, RetS_nil, RetS_set, RetS_drop, RetS_ret, RetS_if, RetS_asg, RetS_par, RetS_put, RetS_nx, RetS_rt, Ret_dFn, Ret_dCons, Ret_dNil, Ret_dBin, Ret_dUn, Ret_dCall, Ret_dCallN, Ret_dC, Ret_dG, Ret_dVar, Ret_dIf, Ret_dFz, Ret_dNew, Ret_dLst, Ret_dTup, Ret_dB, Ret_dAndT, Ret_dOrT, Ret_dNotT, Ret_dAnd, Ret_dOr, Ret_dNot, Ret_dIsi, Ret_dChain, Ret_dGet, Ret_dD0, Ret_dNoP, Ret_dPt, Ret_dSlA, Ret_dMeth, Ret_dAny, Ret_dLenSet, Ret_dZip, Ret_dZipL, Ret_dKeys, Ret_dRng1, Ret_dRng2, Ret_dLc, wipeW, Ret_dDc, Ret_dItems, Ret_dSortSet, Ret_dFnK, RetS_for, Ret_ok, startW, List.map_cons, List.map_nil, List.length_cons, List.length_nil, List.cons_append, List.nil_append, List.replicate, Nat.sub_self, Nat.reduceSub, Nat.reduceAdd, List.getElem?_cons_zero, List.getElem?_cons_succ, List.set_cons_zero, List.set_cons_succ, Option.some.injEq, exists_eq_left', rd_d, on2_d, on1_d, c1_d, bOf_b, exists_eq_left, Option.map_some, Option.bind_some, W.d.injEq, Ret_gcd, List.take_length, dIx]
    refine ⟨[], rfl, ?_⟩
    obtain ⟨o, ho, hk⟩ : ∃ o, anyW (T0 ++ ex ++ [.lst []]) w2 = some (F.map payD, o) ∧ ∀ acc, keepB o (F.map payD) (T0 ++ ex ++ [.lst acc]) = true := by
      rcases hw with rfl | ⟨n, rfl, hn, ha⟩
      · exact ⟨none, rfl, fun _ => rfl⟩
      · have e : ∀ acc, (T0 ++ ex ++ [O.lst acc])[n]? = some (.lst (F.map payD)) := fun acc => by
          rw [List.getElem?_append_left (List.getElem?_eq_some_iff.mp ha).1]; exact ha
        refine ⟨some n, ?_, fun acc => keep_at (e acc) (pays_pl F)⟩
        simp only [anyW, e]
    refine ⟨_, ho, ?_⟩
    refine for_invK (fun i σ T => (∃ o5 o6 o7, σ = [some (.d (.tuple (L.map coinD))), some (.d (.tuple ps)), some w2, some (.d p), some (.r (T0 ++ ex).length), o5, o6, o7]) ∧ T = T0 ++ ex ++ [.lst (((F.take i).flatMap (stepA L p)).map payD)]) (fun _ _ _ h => by rw [h.2]; exact hk _) (F.map payD) 0 _ _ ⟨⟨_, _, _, rfl⟩, by simp⟩ ?_ ?_
    · rintro σ T ⟨⟨o5, o6, o7, rfl⟩, rfl⟩
      rw [List.length_map, Nat.zero_add, List.take_length]
      simp only [RetS_cons, RetS_nil, RetS_set, RetS_drop, RetS_ret, RetS_if, RetS_asg, RetS_par, RetS_put, RetS_nx, RetS_rt, Ret_dFn, Ret_dCons, Ret_dNil, Ret_dBin, Ret_dUn, Ret_dCall, Ret_dCallN, Ret_dC, Ret_dG, Ret_dVar, Ret_dIf, Ret_dFz, Ret_dNew, Ret_dLst, Ret_dTup, Ret_dB, Ret_dAndT, Ret_dOrT, Ret_dNotT, Ret_dAnd, Ret_dOr, Ret_dNot, Ret_dIsi, Ret_dChain, Ret_dGet, Ret_dD0, Ret_dNoP, Ret_dPt, Ret_dSlA, Ret_dMeth, Ret_dAny, Ret_dLenSet, Ret_dZip, Ret_dZipL, Ret_dKeys, Ret_dRng1, Ret_dRng2, Ret_dLc, wipeW, Ret_dDc, Ret_dItems, Ret_dSortSet, Ret_dFnK, RetS_for, Ret_ok, startW, List.map_cons, List.map_nil, List.length_cons, List.length_nil, List.cons_append, List.nil_append, List.replicate, Nat.sub_self, Nat.reduceSub, Nat.reduceAdd, List.getElem?_cons_zero, List.getElem?_cons_succ, List.set_cons_zero, List.set_cons_succ, Option.some.injEq, exists_eq_left', rd_d, on2_d, on1_d, c1_d, bOf_b, exists_eq_left, Option.map_some, Option.bind_some, W.d.injEq, Ret_gcd, List.take_length, dIx]
      refine ⟨⟨_, _, _, _, _, _, rfl, F.flatMap (stepA L p), .inr ⟨_, rfl, by simp, by simp⟩, fun b => ?_, ?_⟩, ex ++ [.lst ((F.flatMap (stepA L p)).map payD)], by rw [List.append_assoc]⟩
      · rw [List.take_succ, hpj, Option.toList_some, valid_snoc, List.mem_flatMap]
        constructor
        · rintro ⟨a, ha, hb⟩
          obtain ⟨n, rfl, h1, h2⟩ := (step_mem hL hpr).mp hb
          exact ⟨a, n, rfl, (hF a).mp ha, h1, h2⟩
        · rintro ⟨a, n, rfl, ha, h1, h2⟩
          exact ⟨a, (hF a).mpr ha, (step_mem hL hpr).mpr ⟨n, rfl, h1, h2⟩⟩
      · have : ∀ F : List (List Int), (F.flatMap (stepA L p)).length ≤ F.length * 5 := by
          intro F
          induction F with
          | nil => simp
          | cons a F ih =>
            rw [List.flatMap_cons, List.length_append, List.length_cons]
            have := step_len L p a
            omega
        have := this F
        rw [Nat.pow_succ]
        omega
    · rintro i x σ T hx ⟨⟨o5, o6, o7, rfl⟩, rfl⟩
      rw [Nat.zero_add]
      obtain ⟨a, ha, rfl⟩ : ∃ a, F[i]? = some a ∧ x = payD a := by
        rw [List.getElem?_map] at hx
        obtain ⟨a, h1, h2⟩ := Option.map_eq_some_iff.mp hx
        exact ⟨a, h1, h2.symm⟩
      have hi := (List.getElem?_eq_some_iff.mp ha).1
      refine ⟨_, rfl, ?_⟩
      simp only [RetS_cons, RetS_nil, RetS_set, RetS_drop, RetS_ret, RetS_if, RetS_asg, RetS_par, RetS_put, RetS_nx, RetS_rt, Ret_dFn, Ret_dCons, Ret_dNil, Ret_dBin, Ret_dUn, Ret_dCall, Ret_dCallN, Ret_dC, Ret_dG, Ret_dVar, Ret_dIf, Ret_dFz, Ret_dNew, Ret_dLst, Ret_dTup, Ret_dB, Ret_dAndT, Ret_dOrT, Ret_dNotT, Ret_dAnd, Ret_dOr, Ret_dNot, Ret_dIsi, Ret_dChain, Ret_dGet, Ret_dD0, Ret_dNoP, Ret_dPt, Ret_dSlA, Ret_dMeth, Ret_dAny, Ret_dLenSet, Ret_dZip, Ret_dZipL, Ret_dKeys, Ret_dRng1, Ret_dRng2, Ret_dLc, wipeW, Ret_dDc, Ret_dItems, Ret_dSortSet, Ret_dFnK, RetS_for, Ret_ok, startW, List.map_cons, List.map_nil, List.length_cons, List.length_nil, List.cons_append, List.nil_append, List.replicate, Nat.sub_self, Nat.reduceSub, Nat.reduceAdd, List.getElem?_cons_zero, List.getElem?_cons_succ, List.set_cons_zero, List.set_cons_succ, Option.some.injEq, exists_eq_left', rd_d, on2_d, on1_d, c1_d, bOf_b, exists_eq_left, Option.map_some, Option.bind_some, W.d.injEq, Ret_gcd, List.take_length, dIx]
      have ty : tyM "list" (T0 ++ ex ++ [.lst (((F.take i).flatMap (stepA L p)).map payD)]) (.r (T0 ++ ex).length) = true := by
        simp only [tyM, last_at]; rfl
      refine ⟨ty, _, rfl, ?_⟩
      have al : a.length ≤ 5 := by
        have := ((hF a).mp (List.mem_of_getElem? ha)).len
        rw [this, List.length_take]; omega
      refine Ret.of (lc_pure (PB p a) (PF a) _ _ fun y hy => ?_) ?_
      · obtain ⟨⟨n, qs⟩, hc, rfl⟩ := List.mem_map.mp hy
        have hq := (hL _ hc).2
        refine ⟨_, rfl, ?_, fun hb => ?_⟩
        · simp only [RetS_cons, RetS_nil, RetS_set, RetS_drop, RetS_ret, RetS_if, RetS_asg, RetS_par, RetS_put, RetS_nx, RetS_rt, Ret_dFn, Ret_dCons, Ret_dNil, Ret_dBin, Ret_dUn, Ret_dCall, Ret_dCallN, Ret_dC, Ret_dG, Ret_dVar, Ret_dIf, Ret_dFz, Ret_dNew, Ret_dLst, Ret_dTup, Ret_dB, Ret_dAndT, Ret_dOrT, Ret_dNotT, Ret_dAnd, Ret_dOr, Ret_dNot, Ret_dIsi, Ret_dChain, Ret_dGet, Ret_dD0, Ret_dNoP, Ret_dPt, Ret_dSlA, Ret_dMeth, Ret_dAny, Ret_dLenSet, Ret_dZip, Ret_dZipL, Ret_dKeys, Ret_dRng1, Ret_dRng2, Ret_dLc, wipeW, Ret_dDc, Ret_dItems, Ret_dSortSet, Ret_dFnK, RetS_for, Ret_ok, startW, List.map_cons, List.map_nil, List.length_cons, List.length_nil, List.cons_append, List.nil_append, List.replicate, Nat.sub_self, Nat.reduceSub, Nat.reduceAdd, List.getElem?_cons_zero, List.getElem?_cons_succ, List.set_cons_zero, List.set_cons_succ, Option.some.injEq, exists_eq_left', rd_d, on2_d, on1_d, c1_d, bOf_b, exists_eq_left, Option.map_some, Option.bind_some, W.d.injEq, Ret_gcd, List.take_length, dIx]
          refine ⟨.d (.bool (memD p qs)), om ?_, _, rfl, ?_⟩
          · rw [inT (okD_row hpr) (okD_rows hq.1)]; simp
          · cases hm : memD p qs with
            | false => rw [if_neg (by decide)]; exact ⟨by simp [PB, coinD, hm], trivial⟩
            | true =>
              rw [if_pos rfl]
              refine ⟨.d (.bool (!memD (.int n) (a.map PyData.int))), om ?_, _, rfl, by simp [PB, coinD, hm], trivial⟩
              exact (inT (okD_int n) (okD_intT a)).trans (by simp)
        · simp only [RetS_cons, RetS_nil, RetS_set, RetS_drop, RetS_ret, RetS_if, RetS_asg, RetS_par, RetS_put, RetS_nx, RetS_rt, Ret_dFn, Ret_dCons, Ret_dNil, Ret_dBin, Ret_dUn, Ret_dCall, Ret_dCallN, Ret_dC, Ret_dG, Ret_dVar, Ret_dIf, Ret_dFz, Ret_dNew, Ret_dLst, Ret_dTup, Ret_dB, Ret_dAndT, Ret_dOrT, Ret_dNotT, Ret_dAnd, Ret_dOr, Ret_dNot, Ret_dIsi, Ret_dChain, Ret_dGet, Ret_dD0, Ret_dNoP, Ret_dPt, Ret_dSlA, Ret_dMeth, Ret_dAny, Ret_dLenSet, Ret_dZip, Ret_dZipL, Ret_dKeys, Ret_dRng1, Ret_dRng2, Ret_dLc, wipeW, Ret_dDc, Ret_dItems, Ret_dSortSet, Ret_dFnK, RetS_for, Ret_ok, startW, List.map_cons, List.map_nil, List.length_cons, List.length_nil, List.cons_append, List.nil_append, List.replicate, Nat.sub_self, Nat.reduceSub, Nat.reduceAdd, List.getElem?_cons_zero, List.getElem?_cons_succ, List.set_cons_zero, List.set_cons_succ, Option.some.injEq, exists_eq_left', rd_d, on2_d, on1_d, c1_d, bOf_b, exists_eq_left, Option.map_some, Option.bind_some, W.d.injEq, Ret_gcd, List.take_length, dIx]
          exact ⟨_, rfl, .d (.tuple (a.map PyData.int ++ [.int n])), addT (by simp; omega), rfl, trivial⟩
      · rw [List.nil_append, step_data]
        refine ⟨.d .none, T0 ++ ex ++ [.lst (((F.take (i + 1)).flatMap (stepA L p)).map payD)], ?_, ⟨_, _, _, rfl⟩, rfl⟩
        have hs : (((F.take i).flatMap (stepA L p)).map payD).length + ((stepA L p a).map payD).length ≤ 20000 := by
          have h1 : ∀ F : List (List Int), (F.flatMap (stepA L p)).length ≤ F.length * 5 := by
            intro F
            induction F with
            | nil => simp
            | cons a F ih =>
              rw [List.flatMap_cons, List.length_append, List.length_cons]
              have := step_len L p a
              omega
          have h2 := h1 (F.take i)
          have h3 := step_len L p a
          rw [List.length_map, List.length_map]
          rw [List.length_take] at h2
          omega
        unfold gExt
        simp only [last_at, seqD, rd, Option.bind_some]
        rw [if_pos (small_of hs), last_set, List.take_succ, ha, Option.toList_some, List.flatMap_append, List.map_append]
        simp
end LK16
end

section
/-! part LM16e -/
set_option Elab.async false
set_option linter.all false
set_option maxRecDepth 100000
set_option maxHeartbeats 1000000
/-! LM16e: a coin is found, or a set of pairs has too few coins. -/
open CL
open PySem PySem.Spec PyProof.Rows L2
namespace LK16
abbrev Hd := List (Int × Nat)
def hE (q : Int × Nat) : Key × PyData := (.inl q.1, .int q.2)
def tE (n : Int) : Key × PyData := (.inl n, .bool true)
def hK (h : Hd) : List (Key × PyData) := h.map hE
def tK (t : List Int) : List (Key × PyData) := t.map LK16.tE
def get (h : Hd) (n : Int) : Option Nat := (h.find? fun q => decide (q.1 = n)).map (·.2)
def put (h : Hd) (n : Int) (k : Nat) : Hd := if (h.any fun q => decide (q.1 = n)) = true then h.map (fun q => if q.1 = n then (q.1, k) else q) else h ++ [(n, k)]
theorem valD_h (h : Hd) (n : Int) : valD (hK h) (.inl n) = (get h n).map fun k => .int (k : Nat) := by
  unfold valD get hK
  rw [List.find?_map, Option.map_map, Option.map_map]
  have : ((fun kv : Key × PyData => decide (kv.1 = .inl n)) ∘ hE) = fun q : Int × Nat => decide (q.1 = n) := by
    funext q; simp [hE]
  rw [this]; rfl
theorem putD_h (h : Hd) (n : Int) (k : Nat) : putD (hK h) (.inl n) (.int (k : Nat)) = hK (put h n k) := by
  unfold putD put hK
  have : (fun kv : Key × PyData => decide (kv.1 = .inl n)) ∘ hE = fun q : Int × Nat => decide (q.1 = n) := by
    funext q; simp [hE]
  rw [List.any_map, this]
  split
  · rw [List.map_map, List.map_map]
    refine List.map_congr_left fun q _ => ?_
    simp only [Function.comp, hE, Sum.inl.injEq]
    split <;> rfl
  · rw [List.map_append]; rfl
theorem valD_t (t : List Int) (n : Int) : (valD (tK t) (.inl n)).isSome = decide (n ∈ t) := by
  unfold valD tK
  rw [List.find?_map, Option.map_map, Option.isSome_map]
  have : ((fun kv : Key × PyData => decide (kv.1 = .inl n)) ∘ LK16.tE) = fun q : Int => decide (q = n) := by
    funext q; simp [LK16.tE]
  rw [this]
  by_cases h : n ∈ t
  · rw [decide_eq_true h, List.find?_isSome]
    exact ⟨n, h, by simp⟩
  · rw [decide_eq_false h]
    rw [Bool.eq_false_iff]
    intro hs
    rw [List.find?_isSome] at hs
    obtain ⟨x, hx, e⟩ := hs
    rw [decide_eq_true_eq] at e
    subst e; exact h hx
theorem putD_t {t : List Int} {n : Int} (h : n ∉ t) : putD (tK t) (.inl n) (.bool true) = tK (t ++ [n]) := by
  unfold putD tK
  have : (fun kv : Key × PyData => decide (kv.1 = .inl n)) ∘ LK16.tE = fun q : Int => decide (q = n) := by
    funext q; simp [LK16.tE]
  rw [List.any_map, this, if_neg]
  · rw [List.map_append]; rfl
  · rw [List.any_eq_true]
    rintro ⟨x, hx, e⟩
    rw [decide_eq_true_eq] at e
    subst e; exact h hx
theorem get_mem {h : Hd} {n : Int} {j : Nat} (e : get h n = some j) : (n, j) ∈ h := by
  unfold get at e
  obtain ⟨q, h1, h2⟩ := Option.map_eq_some_iff.mp e
  have h3 := List.mem_of_find?_eq_some h1
  have h4 := List.find?_some h1
  rw [decide_eq_true_eq] at h4
  obtain ⟨a, b⟩ := q
  subst h4; subst h2; exact h3
theorem get_none {h : Hd} {n : Int} (e : get h n = none) : ∀ q ∈ h, q.1 ≠ n := by
  unfold get at e
  rw [Option.map_eq_none_iff, List.find?_eq_none] at e
  intro q hq
  have := e q hq
  simpa using this
theorem get_app {h : Hd} {n m : Int} {k : Nat} (hne : m ≠ n) : get (h ++ [(n, k)]) m = get h m := by
  unfold get
  rw [List.find?_append]
  have : List.find? (fun q : Int × Nat => decide (q.1 = m)) [(n, k)] = none := by simp; exact fun e => hne e.symm
  rw [this, Option.or_none]
theorem get_put {h : Hd} {n m : Int} {k : Nat} (hne : m ≠ n) : get (put h n k) m = get h m := by
  unfold put
  split
  · unfold get
    rw [List.find?_map]
    have : ((fun q : Int × Nat => decide (q.1 = m)) ∘ fun q : Int × Nat => if q.1 = n then (q.1, k) else q) = fun q => decide (q.1 = m) := by
      funext q; simp only [Function.comp]; split <;> rfl
    rw [this, Option.map_map]
    cases e : h.find? fun q => decide (q.1 = m) with
    | none => rfl
    | some q =>
      have h4 := List.find?_some e
      rw [decide_eq_true_eq] at h4
      have : q.1 ≠ n := fun e => hne (h4 ▸ e)
      simp [this]
  · exact get_app hne
theorem put_keys {h : Hd} {n : Int} {k : Nat} {j : Nat} (e : get h n = some j) : (put h n k).map (·.1) = h.map (·.1) := by
  unfold put
  rw [if_pos (List.any_eq_true.mpr ⟨_, get_mem e, by simp⟩), List.map_map]
  refine List.map_congr_left fun q _ => ?_
  simp only [Function.comp]
  split <;> rfl
theorem put_mem {h : Hd} {n : Int} {k : Nat} {q : Int × Nat} (hq : q ∈ put h n k) : q = (n, k) ∨ q ∈ h := by
  unfold put at hq
  split at hq
  · obtain ⟨p, hp, rfl⟩ := List.mem_map.mp hq
    split
    · rename_i e; rw [e]; exact .inl rfl
    · exact .inr hp
  · rcases List.mem_append.mp hq with h1 | h1
    · exact .inr h1
    · exact .inl (List.mem_singleton.mp h1)
theorem map_off {n : Int} {k : Nat} : ∀ {h : Hd}, (∀ q ∈ h, q.1 ≠ n) → h.map (fun q => if q.1 = n then (q.1, k) else q) = h
  | [], _ => rfl
  | q :: h, hn => by
    rw [List.map_cons, if_neg (hn q List.mem_cons_self), map_off fun x hx => hn x (List.mem_cons_of_mem _ hx)]
theorem put_perm {n : Int} {k : Nat} : ∀ {h : Hd} {j : Nat}, (h.map (·.1)).Nodup → (n, j) ∈ h → (j :: (h.map fun q => if q.1 = n then (q.1, k) else q).map (·.2)).Perm (k :: h.map (·.2))
  | [], _, _, hm => nomatch hm
  | (a, b) :: h, j, nd, hm => by
    rw [List.map_cons, List.nodup_cons] at nd
    rw [List.map_cons, List.map_cons, List.map_cons]
    rcases List.mem_cons.mp hm with e | hm
    · cases e
      rw [if_pos rfl, map_off fun q hq e => nd.1 (List.mem_map.mpr ⟨q, hq, e⟩)]
      exact List.Perm.swap _ _ _
    · have hne : a ≠ n := fun e => nd.1 (List.mem_map.mpr ⟨_, hm, e.symm⟩)
      rw [if_neg hne]
      exact (List.Perm.swap _ _ _).trans (((put_perm nd.2 hm).cons b).trans (List.Perm.swap _ _ _))
/-! ### what holds -/
def Ad (L : List Cn) (ps : List PyData) (j : Nat) (n : Int) : Prop := ∃ p, ps[j]? = some p ∧ adj L p n
structure HOk (L : List Cn) (ps : List PyData) (h : Hd) : Prop where
  nd : (h.map (·.1)).Nodup
  ad : ∀ q ∈ h, Ad L ps q.2 q.1
def cnt (L : List Cn) (t : List Int) : Nat := (L.filter fun c => decide (c.1 ∉ t)).length
theorem cnt_le {L : List Cn} {t t' : List Int} (h : ∀ n ∈ t, n ∈ t') : cnt L t' ≤ cnt L t := by
  unfold cnt
  induction L with
  | nil => exact Nat.le_refl _
  | cons c L ih =>
    rw [List.filter_cons, List.filter_cons]
    by_cases h1 : c.1 ∈ t
    · have h2 := h _ h1
      simp only [h1, h2, not_true, decide_false]
      exact ih
    · by_cases h2 : c.1 ∈ t'
      · simp only [h1, h2, not_true, not_false_eq_true, decide_false, decide_true, if_true]
        exact Nat.le_succ_of_le ih
      · simp only [h1, h2, not_false_eq_true, decide_true, if_true]
        exact Nat.succ_le_succ ih
theorem cnt_add {L : List Cn} {t : List Int} {c : Cn} (hc : c ∈ L) (hn : c.1 ∉ t) : cnt L (t ++ [c.1]) + 1 ≤ cnt L t := by
  induction L with
  | nil => cases hc
  | cons d L ih =>
    have mono : cnt L (t ++ [c.1]) ≤ cnt L t := cnt_le fun n hn => List.mem_append_left _ hn
    unfold cnt at *
    rw [List.filter_cons, List.filter_cons]
    by_cases e : d.1 = c.1
    · have h1 : d.1 ∈ t ++ [c.1] := by rw [e]; simp
      have h2 : d.1 ∉ t := by rw [e]; exact hn
      simp only [h1, h2, not_true, not_false_eq_true, decide_false, decide_true, if_true, List.length_cons]
      exact Nat.succ_le_succ mono
    · have hc' : c ∈ L := by
        rcases List.mem_cons.mp hc with e2 | h
        · rw [e2] at e; exact absurd rfl e
        · exact h
      have ih := ih hc'
      by_cases h2 : d.1 ∈ t
      · have h1 : d.1 ∈ t ++ [c.1] := List.mem_append_left _ h2
        simp only [h1, h2, not_true, decide_false]
        exact ih
      · have h1 : d.1 ∉ t ++ [c.1] := by simp [h2, e]
        simp only [h1, h2, not_false_eq_true, decide_true, if_true, List.length_cons]
        omega
structure Fc (L : List Cn) (ps : List PyData) (k : Nat) (h : Hd) (t : List Int) (b : Bool) (h' : Hd) (t' : List Int) : Prop where
  sub : ∀ n ∈ t, n ∈ t'
  len : t'.length + cnt L t' ≤ 5
  yes : b = true → HOk L ps h' ∧ (h'.map (·.2)).Perm (k :: h.map (·.2)) ∧ ∀ n ∈ t, get h' n = get h n
  no : b = false → h' = h ∧ (∀ n, Ad L ps k n → n ∈ t') ∧ ∀ n ∈ t', n ∉ t → ∃ j, get h n = some j ∧ ∀ m, Ad L ps j m → m ∈ t'
def St (S : So) (ih it : Nat) (h : Hd) (t : List Int) : So := (S.set ih (.dk (hK h))).set it (.dk (tK t))
section
variable {S : So} {ih it : Nat} (hi : ih < S.length) (ht : it < S.length) (hne : ih ≠ it) (h h' : Hd) (t t' : List Int)
theorem st_len : (St S ih it h t).length = S.length := by unfold St; simp
include hi hne in
theorem st_h : (St S ih it h t)[ih]? = some (.dk (hK h)) := by
  unfold St
  rw [List.getElem?_set_ne (Ne.symm hne), List.getElem?_set_self hi]
include ht in
theorem st_t : (St S ih it h t)[it]? = some (.dk (tK t)) := by
  unfold St
  rw [List.getElem?_set_self (by simpa using ht)]
include hne in
theorem st_seth : (St S ih it h t).set ih (.dk (hK h')) = St S ih it h' t := by
  unfold St
  rw [List.set_comm _ _ (Ne.symm hne), List.set_set]
theorem st_sett : (St S ih it h t).set it (.dk (tK t')) = St S ih it h t' := by
  unfold St
  rw [List.set_set]
end
end LK16
end

section
/-! part LM16f -/
set_option Elab.async false
set_option linter.all false
set_option maxRecDepth 100000
set_option maxHeartbeats 1000000
/-! LM16f: find_coin. -/
open CL
open PySem PySem.Spec PyProof.Rows L2
namespace LK16
section
variable {L : List Cn} {ps : List PyData} (hL : ∀ c ∈ L, CnOk c) (hp : Prs 5 ps) {S : So} {ih it : Nat} (hi : ih < S.length) (ht : it < S.length) (hne : ih ≠ it)
include hL hp hi ht hne
def FcW (L : List Cn) (ps : List PyData) (S : So) (ih it : Nat) (k : Nat) (h : Hd) (t : List Int) (w : W) (T : So) : Prop := ∃ b h' t', w = .d (.bool b) ∧ T = St S ih it h' t' ∧ Fc L ps k h t b h' t'
theorem fc_ok : ∀ (f k : Nat) (h : Hd) (t : List Int), k < ps.length → HOk L ps h → h.length ≤ 100 → cnt L t < f → t.length + cnt L t ≤ 5 →
    Ret (f_find_coin f [.d (.tuple (L.map coinD)), .d (.tuple ps), .d (.int (k : Nat)), .r ih, .r it] (St S ih it h t)) (FcW L ps S ih it k h t)
  | 0, k, h, t, _, _, _, hf, _ => absurd hf (Nat.not_lt_zero _)
  | f + 1, k, h, t, hk, ho, hl, hf, hb => by
    obtain ⟨p, hpk⟩ : ∃ p, ps[k]? = some p := ⟨_, List.getElem?_eq_getElem hk⟩
    have hpr := hp.1 p (List.mem_of_getElem? hpk)
    have hat : L2.atI ps (k : Int) = some p := by
      rw [at_nat (by omega) (by omega)]
      simp [hpk]
    have fin : ∀ {b : Bool} {h' : Hd} {t' : List Int}, Fc L ps k h t b h' t' → FcW L ps S ih it k h t (.d (.bool b)) ((St S ih it h' t').take (St S ih it h t).length) := fun {b h' t'} q => by
      rw [st_len, List.take_of_length_le (by rw [st_len]; exact Nat.le_refl _)]
      exact ⟨b, h', t', rfl, rfl, q⟩
    refine Ret_fnB rfl ?_
    unfold b_find_coin
    simp only [RetS_cons, RetS_nil, RetS_set, RetS_drop, RetS_ret, RetS_if, RetS_asg, RetS_par, RetS_put, RetS_nx, RetS_rt, Ret_dFn, Ret_dCons, Ret_dNil, Ret_dBin, Ret_dUn, Ret_dCall, Ret_dCallN, Ret_dC, Ret_dG, Ret_dVar, Ret_dIf, Ret_dFz, Ret_dNew, Ret_dLst, Ret_dTup, Ret_dB, Ret_dAndT, Ret_dOrT, Ret_dNotT, Ret_dAnd, Ret_dOr, Ret_dNot, Ret_dIsi, Ret_dChain, Ret_dGet, Ret_dD0, Ret_dNoP, Ret_dPt, Ret_dSlA, Ret_dMeth, Ret_dAny, Ret_dLenSet, Ret_dZip, Ret_dZipL, Ret_dKeys, Ret_dRng1, Ret_dRng2, Ret_dLc, wipeW, Ret_dDc, Ret_dItems, Ret_dSortSet, Ret_dFnK, RetS_for, Ret_ok, startW, List.map_cons, List.map_nil, List.length_cons, List.length_nil, List.cons_append, List.nil_append, List.replicate, Nat.sub_self, Nat.reduceSub, Nat.reduceAdd, List.getElem?_cons_zero, List.getElem?_cons_succ, List.set_cons_zero, List.set_cons_succ, Option.some.injEq, exists_eq_left', rd_d, on2_d, on1_d, c1_d, bOf_b, exists_eq_left, Option.map_some, Option.bind_some, W.d.injEq, Ret_gcd, List.take_length, dIx]
    refine ⟨(L.map coinD, none), rfl, ?_⟩
    refine for_inv (fun i σ T => (∃ o5 o6, σ = [some (.d (.tuple (L.map coinD))), some (.d (.tuple ps)), some (.d (.int (k : Nat))), some (.r ih), some (.r it), o5, o6]) ∧ ∃ t', T = St S ih it h t' ∧ (∀ n ∈ t, n ∈ t') ∧ t'.length + cnt L t' ≤ 5 ∧ (∀ c ∈ L.take i, p ∈ c.2 → c.1 ∈ t') ∧ ∀ n ∈ t', n ∉ t → ∃ j, get h n = some j ∧ ∀ m, Ad L ps j m → m ∈ t') (L.map coinD) 0 _ _ ⟨⟨_, _, rfl⟩, t, rfl, fun _ h => h, hb, by simp, fun n h1 h2 => absurd h1 h2⟩ ?_ ?_
    · rintro σ T ⟨⟨o5, o6, rfl⟩, t', rfl, s1, s2, s3, s4⟩
      rw [List.length_map, Nat.zero_add, List.take_length] at s3
      refine fin ⟨s1, s2, fun e => (by cases e), fun _ => ⟨rfl, fun n hn => ?_, s4⟩⟩
      obtain ⟨q, hq, sc, h1, h2⟩ := hn
      rw [hpk] at hq; cases hq
      exact s3 _ h1 h2
    · rintro i x σ T hx ⟨⟨o5, o6, rfl⟩, t', rfl, s1, s2, s3, s4⟩
      rw [Nat.zero_add] at s3 ⊢
      obtain ⟨c, hc, rfl⟩ : ∃ c, L[i]? = some c ∧ x = coinD c := by
        rw [List.getElem?_map] at hx
        obtain ⟨a, h1, h2⟩ := Option.map_eq_some_iff.mp hx
        exact ⟨a, h1, h2.symm⟩
      have hcm := List.mem_of_getElem? hc
      have htk : ∀ c' ∈ L.take (i + 1), c' ∈ L.take i ∨ c' = c := by
        intro c' h1
        rw [List.take_succ, hc, Option.toList_some] at h1
        rcases List.mem_append.mp h1 with h1 | h1
        · exact .inl h1
        · exact .inr (List.mem_singleton.mp h1)
      obtain ⟨n, sc⟩ := c
      have hsc := (hL _ hcm).2
      refine ⟨_, rfl, ?_⟩
      simp only [RetS_cons, RetS_nil, RetS_set, RetS_drop, RetS_ret, RetS_if, RetS_asg, RetS_par, RetS_put, RetS_nx, RetS_rt, Ret_dFn, Ret_dCons, Ret_dNil, Ret_dBin, Ret_dUn, Ret_dCall, Ret_dCallN, Ret_dC, Ret_dG, Ret_dVar, Ret_dIf, Ret_dFz, Ret_dNew, Ret_dLst, Ret_dTup, Ret_dB, Ret_dAndT, Ret_dOrT, Ret_dNotT, Ret_dAnd, Ret_dOr, Ret_dNot, Ret_dIsi, Ret_dChain, Ret_dGet, Ret_dD0, Ret_dNoP, Ret_dPt, Ret_dSlA, Ret_dMeth, Ret_dAny, Ret_dLenSet, Ret_dZip, Ret_dZipL, Ret_dKeys, Ret_dRng1, Ret_dRng2, Ret_dLc, wipeW, Ret_dDc, Ret_dItems, Ret_dSortSet, Ret_dFnK, RetS_for, Ret_ok, startW, List.map_cons, List.map_nil, List.length_cons, List.length_nil, List.cons_append, List.nil_append, List.replicate, Nat.sub_self, Nat.reduceSub, Nat.reduceAdd, List.getElem?_cons_zero, List.getElem?_cons_succ, List.set_cons_zero, List.set_cons_succ, Option.some.injEq, exists_eq_left', rd_d, on2_d, on1_d, c1_d, bOf_b, exists_eq_left, Option.map_some, Option.bind_some, W.d.injEq, Ret_gcd, List.take_length, dIx]
      refine ⟨.d p, om hat, .d (.bool (memD p sc)), om ((inT (okD_row hpr) (okD_rows hsc.1)).trans (by simp)), _, rfl, ?_⟩
      cases hm : memD p sc with
      | false =>
        rw [if_neg (by decide), if_neg (by decide)]
        refine ⟨⟨_, _, rfl⟩, t', rfl, s1, s2, fun c' hc' hpc => ?_, s4⟩
        rcases htk c' hc' with h1 | rfl
        · exact s3 c' h1 hpc
        · rw [(mem_row hpr hsc.1).mpr hpc] at hm; cases hm
      | true =>
        have hps := (mem_row hpr hsc.1).mp hm
        rw [if_pos rfl]
        refine ⟨.d (.bool (!decide (n ∈ t'))), ?_, _, rfl, ?_⟩
        · simp only [dhasW, st_t ht, keyP, Option.map_some, valD_t]
          simp
        by_cases hnt : n ∈ t'
        · rw [decide_eq_true hnt, if_neg (show ¬ ((!true) = true) by decide)]
          refine ⟨⟨_, _, rfl⟩, t', rfl, s1, s2, fun c' hc' hpc => ?_, s4⟩
          rcases htk c' hc' with h1 | rfl
          · exact s3 c' h1 hpc
          · exact hnt
        · rw [decide_eq_false hnt, if_pos (show (!false) = true from rfl)]
          have hcnt : cnt L (t' ++ [n]) + 1 ≤ cnt L t' := cnt_add (c := (n, sc)) hcm hnt
          have hcl := cnt_le (L := L) s1
          have hn0 : n ∉ t := fun h => hnt (s1 n h)
          refine ⟨St S ih it h (t' ++ [n]), ?_, ?_⟩
          · simp only [dputW, st_t ht, keyP, Option.map_some, putD_t hnt, st_sett]
            rw [if_pos (small_of (m := 1000) (by unfold tK; rw [List.length_map]; omega))]
          have adk : Ad L ps k n := ⟨p, hpk, sc, hcm, hps⟩
          have hlen : (t' ++ [n]).length + cnt L (t' ++ [n]) ≤ 5 := by
            rw [List.length_append, List.length_singleton]; omega
          have sub1 : ∀ m ∈ t, m ∈ t' ++ [n] := fun m hm => List.mem_append_left _ (s1 m hm)
          cases hg : get h n with
          | none =>
            refine ⟨.d (.bool true), ?_, _, rfl, ?_⟩
            · simp only [dhasW, st_h hi hne, keyP, Option.map_some, valD_h, hg]
              rfl
            · rw [if_pos rfl, if_pos trivial]
              refine ⟨St S ih it (put h n k) (t' ++ [n]), ?_, fin ⟨sub1, hlen, fun _ => ?_, fun e => by cases e⟩⟩
              · simp only [dputW, st_h hi hne, keyP, Option.map_some, putD_h, st_seth hne]
                rw [if_pos (small_of (m := 1000) (by unfold hK; rw [List.length_map]; omega))]
              · have hno := get_none hg
                have e : put h n k = h ++ [(n, k)] := by
                  unfold put
                  rw [if_neg]
                  rw [List.any_eq_true]
                  rintro ⟨q, hq, e⟩
                  exact hno q hq (by simpa using e)
                rw [e]
                refine ⟨⟨?_, fun q hq => ?_⟩, ?_, fun m hm => get_app fun e => hn0 (e ▸ hm)⟩
                · rw [List.map_append, List.nodup_append]
                  refine ⟨ho.nd, by simp, fun a ha b hb => ?_⟩
                  obtain ⟨q, hq, rfl⟩ := List.mem_map.mp ha
                  have : b = n := by simpa using hb
                  rw [this]; exact hno q hq
                · rcases List.mem_append.mp hq with hq | hq
                  · exact ho.ad q hq
                  · rw [List.mem_singleton.mp hq]; exact adk
                · rw [List.map_append]
                  exact List.perm_append_comm
          | some j =>
            have hmj := get_mem hg
            have hj : j < ps.length := by
              obtain ⟨q, h1, _⟩ := ho.ad _ hmj
              exact (List.getElem?_eq_some_iff.mp h1).1
            refine ⟨.d (.bool false), ?_, _, rfl, ?_⟩
            · simp only [dhasW, st_h hi hne, keyP, Option.map_some, valD_h, hg]
              rfl
            · rw [if_neg (by decide)]
              refine ⟨.d (.int (j : Nat)), ?_, (fc_ok f j h (t' ++ [n]) hj ho hl (by omega) hlen).mono ?_⟩
              · simp only [dgetW, st_h hi hne, keyP, Option.bind_some, valD_h, hg, Option.map_some]
              · rintro _ _ ⟨b, h1, t1, rfl, rfl, q⟩
                refine ⟨b, rfl, ?_⟩
                cases b with
                | true =>
                  obtain ⟨y1, y2, y3⟩ := q.yes rfl
                  have hg1 : get h1 n = some j := (y3 n (by simp)).trans hg
                  rw [if_pos rfl]
                  have hl1 : h1.length = h.length + 1 := by simpa using y2.length_eq
                  refine ⟨St S ih it (put h1 n k) t1, ?_, fin ⟨fun m hm => q.sub m (sub1 m hm), q.len, fun _ => ?_, fun e => by cases e⟩⟩
                  · simp only [dputW, st_h hi hne, keyP, Option.map_some, putD_h, st_seth hne]
                    rw [if_pos (small_of (m := 1000) (by unfold hK; rw [List.length_map]; omega))]
                  · refine ⟨⟨by rw [put_keys hg1]; exact y1.nd, fun x hx => ?_⟩, ?_, fun m hm => ?_⟩
                    · rcases put_mem hx with rfl | hx
                      · exact adk
                      · exact y1.ad x hx
                    · have pp := put_perm (k := k) y1.nd (get_mem hg1)
                      have e : put h1 n k = h1.map (fun q => if q.1 = n then (q.1, k) else q) := by
                        unfold put
                        rw [if_pos (List.any_eq_true.mpr ⟨_, get_mem hg1, by simp⟩)]
                      rw [e]
                      exact (pp.trans ((y2.cons k).trans (List.Perm.swap _ _ _))).cons_inv
                    · rw [get_put (show m ≠ n from fun e => hn0 (e ▸ hm))]
                      exact y3 m (sub1 m hm)
                | false =>
                  obtain ⟨rfl, y2, y3⟩ := q.no rfl
                  rw [if_neg (by decide)]
                  refine ⟨⟨_, _, rfl⟩, t1, rfl, fun m hm => q.sub m (sub1 m hm), q.len, fun c' hc' hpc => ?_, fun m hm hmt => ?_⟩
                  · rcases htk c' hc' with h1 | rfl
                    · exact q.sub _ (List.mem_append_left _ (s3 c' h1 hpc))
                    · exact q.sub _ (by simp)
                  · by_cases hm2 : m ∈ t' ++ [n]
                    · rcases List.mem_append.mp hm2 with hm3 | hm3
                      · obtain ⟨i, g1, g2⟩ := s4 m hm3 hmt
                        exact ⟨i, g1, fun x hx => q.sub _ (List.mem_append_left _ (g2 x hx))⟩
                      · rw [List.mem_singleton.mp hm3]
                        exact ⟨j, hg, y2⟩
                    · exact y3 m hm hm2
end
end LK16
end

section
/-! part LM16g -/
set_option Elab.async false
set_option linter.all false
set_option maxRecDepth 100000
set_option maxHeartbeats 1000000
/-! LM16g: coins_for. -/
open CL
open PySem PySem.Spec PyProof.Rows L2
namespace LK16
theorem nodup_le {α : Type} [BEq α] [LawfulBEq α] : ∀ {xs ys : List α}, xs.Nodup → (∀ x ∈ xs, x ∈ ys) → xs.length ≤ ys.length
  | [], _, _, _ => Nat.zero_le _
  | x :: xs, ys, nd, h => by
    rw [List.nodup_cons] at nd
    have hx := h x List.mem_cons_self
    have := nodup_le (xs := xs) (ys := ys.erase x) nd.2 fun y hy => (List.mem_erase_of_ne (show y ≠ x from fun e => nd.1 (e ▸ hy))).mpr (h y (List.mem_cons_of_mem _ hy))
    rw [List.length_erase_of_mem hx] at this
    have := List.length_pos_of_mem hx
    rw [List.length_cons]; omega
theorem nodup_at {α : Type} {l : List α} : l.Nodup ↔ ∀ (i j : Nat) (x : α), l[i]? = some x → l[j]? = some x → i = j := by
  constructor
  · intro h i j x h1 h2
    have hi := (List.getElem?_eq_some_iff.mp h1).1
    exact (List.getElem?_inj hi h).mp (h1.trans h2.symm)
  · intro h
    rw [List.nodup_iff_pairwise_ne, List.pairwise_iff_getElem]
    intro i j hi hj hij e
    have := h i j l[i] (List.getElem?_eq_getElem hi) (by rw [List.getElem?_eq_getElem hj, e])
    omega
/-- too few coins -/
theorem hall {L : List Cn} {ps : List PyData} {h : Hd} {k : Nat} {t : List Int} (ho : HOk L ps h) (hk : k < ps.length) (pv : (h.map (·.2)).Perm (List.range k)) (h1 : ∀ n, Ad L ps k n → n ∈ t) (h2 : ∀ n ∈ t, ∃ j, get h n = some j ∧ ∀ m, Ad L ps j m → m ∈ t) (a : List Int) : ¬ Valid L ps a := by
  intro v
  have vnd : (h.map (·.2)).Nodup := pv.nodup_iff.mpr List.nodup_range
  let H := h.filter fun q => decide (q.1 ∈ t)
  have hpos : ∀ q ∈ h, q.2 < k := fun q hq => List.mem_range.mp (pv.mem_iff.mp (List.mem_map.mpr ⟨q, hq, rfl⟩))
  have sub : (H.map (·.2)).Nodup := List.Sublist.nodup (List.Sublist.map _ List.filter_sublist) vnd
  have pnd : (k :: H.map (·.2)).Nodup := by
    rw [List.nodup_cons]
    refine ⟨fun hm => ?_, sub⟩
    obtain ⟨q, hq, e⟩ := List.mem_map.mp hm
    have := hpos q (List.mem_filter.mp hq).1
    omega
  have lt : ∀ p ∈ k :: H.map (·.2), p < a.length := by
    intro p hp
    rw [v.len]
    rcases List.mem_cons.mp hp with rfl | hp
    · exact hk
    · obtain ⟨q, hq, rfl⟩ := List.mem_map.mp hp
      have := hpos q (List.mem_filter.mp hq).1
      omega
  have hadj : ∀ p ∈ k :: H.map (·.2), ∀ n, a[p]? = some n → n ∈ t := by
    intro p hp n hn
    have hl := lt p hp
    rw [v.len] at hl
    have ad : Ad L ps p n := ⟨_, List.getElem?_eq_getElem hl, v.ad p _ n (List.getElem?_eq_getElem hl) hn⟩
    rcases List.mem_cons.mp hp with rfl | hp
    · exact h1 n ad
    · obtain ⟨q, hq, rfl⟩ := List.mem_map.mp hp
      obtain ⟨q1, q2⟩ := List.mem_filter.mp hq
      rw [decide_eq_true_eq] at q2
      obtain ⟨j, g1, g2⟩ := h2 q.1 q2
      have : (q.1, j) ∈ h := get_mem g1
      have : j = q.2 := by
        obtain ⟨i1, e1⟩ := List.getElem?_of_mem this
        obtain ⟨i2, e2⟩ := List.getElem?_of_mem q1
        have := nodup_at.mp ho.nd i1 i2 q.1 (by rw [List.getElem?_map, e1]; rfl) (by rw [List.getElem?_map, e2]; rfl)
        subst this
        exact congrArg Prod.snd (Option.some.inj (e1.symm.trans e2))
      subst this
      exact g2 n ad
  have lnd : ((k :: H.map (·.2)).map fun p => a.getD p 0).Nodup := by
    rw [nodup_at]
    intro i j x e1 e2
    rw [List.getElem?_map] at e1 e2
    obtain ⟨p1, f1, f2⟩ := Option.map_eq_some_iff.mp e1
    obtain ⟨p2, f3, f4⟩ := Option.map_eq_some_iff.mp e2
    have l1 := lt p1 (List.mem_of_getElem? f1)
    have l2 := lt p2 (List.mem_of_getElem? f3)
    have : p1 = p2 := nodup_at.mp v.nd p1 p2 x (by rw [← f2]; simp [l1]) (by rw [← f4]; simp [l2])
    subst this
    exact nodup_at.mp pnd i j p1 f1 f3
  have := nodup_le (ys := H.map (·.1)) lnd fun x hx => by
    obtain ⟨p, hp, rfl⟩ := List.mem_map.mp hx
    have hl := lt p hp
    have hn := hadj p hp _ (List.getElem?_eq_getElem hl)
    rw [show a.getD p 0 = a[p] by simp [hl]]
    obtain ⟨j, g1, _⟩ := h2 _ hn
    exact List.mem_map.mpr ⟨(a[p], j), List.mem_filter.mpr ⟨get_mem g1, decide_eq_true hn⟩, rfl⟩
  simp at this
  omega
theorem valD_put {κ : Type} [DecidableEq κ] (kvs : List (κ × PyData)) (k m : κ) (v : PyData) : valD (putD kvs k v) m = if k = m then some v else valD kvs m := by
  unfold valD putD
  split
  · rename_i h
    rw [List.find?_map]
    have e : ((fun kv : κ × PyData => decide (kv.1 = m)) ∘ fun kv => if kv.1 = k then (kv.1, v) else kv) = fun kv => decide (kv.1 = m) := by
      funext q; simp only [Function.comp]; split <;> rfl
    rw [e, Option.map_map]
    by_cases hkm : k = m
    · subst hkm
      rw [if_pos rfl]
      obtain ⟨q, hq, hqk⟩ := List.any_eq_true.mp h
      cases ef : kvs.find? fun kv => decide (kv.1 = k) with
      | none => rw [List.find?_eq_none] at ef; exact absurd hqk (ef q hq)
      | some q =>
        have := List.find?_some ef
        rw [decide_eq_true_eq] at this
        simp [this]
    · rw [if_neg hkm]
      cases ef : kvs.find? fun kv => decide (kv.1 = m) with
      | none => rfl
      | some q =>
        have := List.find?_some ef
        rw [decide_eq_true_eq] at this
        have : q.1 ≠ k := fun e => hkm (e.symm.trans this)
        simp [this]
  · rename_i h
    rw [List.find?_append]
    by_cases hkm : k = m
    · subst hkm
      rw [if_pos rfl]
      have : kvs.find? (fun kv => decide (kv.1 = k)) = none := by
        rw [List.find?_eq_none]
        intro q hq e
        exact h (List.any_eq_true.mpr ⟨q, hq, e⟩)
      rw [this]; simp
    · rw [if_neg hkm]
      have : List.find? (fun kv : κ × PyData => decide (kv.1 = m)) [(k, v)] = none := by simp [hkm]
      rw [this, Option.or_none]
/-- what is found -/
def CfW (L : List Cn) (ps : List PyData) (w : W) : Prop := (w = .d .none ∧ ∀ a, ¬ Valid L ps a) ∨ ∃ a, w = .d (payD a) ∧ Valid L ps a
theorem Ret_ex {α : Type} {m : M α} {P : α → So → Prop} (h : Ret m P) : ∃ a S, m = some (.ok a S) ∧ P a S := by
  unfold Ret at h
  split at h
  · exact ⟨_, _, rfl, h⟩
  · exact h.elim
theorem cf_aux {L : List Cn} {ps : List PyData} {x y : PyData} (hx : x = .tuple (L.map coinD)) (hy : y = .tuple ps) (hL : ∀ c ∈ L, CnOk c) (hl : L.length ≤ 5) (hp : Prs 5 ps) (T0 : So) : Ret (f_coins_for [.d x, .d y] T0) fun w T => CfW L ps w ∧ T = T0 := by
  have hpl := hp.2
  refine Ret_fnB rfl ?_
  unfold b_coins_for
  simp only [RetS_cons, RetS_nil, RetS_set, RetS_drop, RetS_ret, RetS_if, RetS_asg, RetS_par, RetS_put, RetS_nx, RetS_rt, Ret_dFn, Ret_dCons, Ret_dNil, Ret_dBin, Ret_dUn, Ret_dCall, Ret_dCallN, Ret_dC, Ret_dG, Ret_dVar, Ret_dIf, Ret_dFz, Ret_dNew, Ret_dLst, Ret_dTup, Ret_dB, Ret_dAndT, Ret_dOrT, Ret_dNotT, Ret_dAnd, Ret_dOr, Ret_dNot, Ret_dIsi, Ret_dChain, Ret_dGet, Ret_dD0, Ret_dNoP, Ret_dPt, Ret_dSlA, Ret_dMeth, Ret_dAny, Ret_dLenSet, Ret_dZip, Ret_dZipL, Ret_dKeys, Ret_dRng1, Ret_dRng2, Ret_dLc, wipeW, Ret_dDc, Ret_dItems, Ret_dSortSet, Ret_dFnK, RetS_for, Ret_ok, startW, List.map_cons, List.map_nil, List.length_cons, List.length_nil, List.cons_append, List.nil_append, List.replicate, Nat.sub_self, Nat.reduceSub, Nat.reduceAdd, List.getElem?_cons_zero, List.getElem?_cons_succ, List.set_cons_zero, List.set_cons_succ, Option.some.injEq, exists_eq_left', rd_d, on2_d, on1_d, c1_d, bOf_b, exists_eq_left, Option.map_some, Option.bind_some, W.d.injEq, Ret_gcd, List.take_length, dIx]
  subst hx hy
  refine ⟨.d (.int ps.length), om (lenT ps), ps.length, rfl, by omega, ?_⟩
  refine for_inv (fun j σ T => (∃ o3 o4 o5, σ = [some (.d (.tuple (L.map coinD))), some (.d (.tuple ps)), some (.r T0.length), o3, o4, o5]) ∧ ∃ h ex, T = T0 ++ [.dk (hK h)] ++ ex ∧ HOk L ps h ∧ (h.map (·.2)).Perm (List.range j)) (rng 0 ps.length) 0 _ _ ⟨⟨_, _, _, rfl⟩, [], [], by simp [hK], ⟨by simp, fun q hq => nomatch hq⟩, by simp⟩ ?_ ?_
  · rintro σ T ⟨⟨o3, o4, o5, rfl⟩, h, ex, rfl, ho, pv⟩
    rw [rng0_len, Nat.zero_add, Int.toNat_natCast] at pv
    have at0 : (T0 ++ [O.dk (hK h)] ++ ex)[T0.length]? = some (O.dk (hK h)) := by simp
    generalize eT : T0 ++ [O.dk (hK h)] ++ ex = T at at0
    have tk : T.take T0.length = T0 := by rw [← eT]; simp
    have hT : T0.length < T.length := (List.getElem?_eq_some_iff.mp at0).1
    have vnd : (h.map (·.2)).Nodup := pv.nodup_iff.mpr List.nodup_range
    rw [Ret_dLockE]
    refine ⟨T0.length, .dk (hK h), T.set T0.length (.lkK (hK h)), by simp only [lockS, slotR, at0, lockO, Option.map_some, List.getElem?_cons_zero, List.getElem?_cons_succ], ?_⟩
    simp only [RetS_cons, RetS_nil, RetS_set, RetS_drop, RetS_ret, RetS_if, RetS_asg, RetS_par, RetS_put, RetS_nx, RetS_rt, Ret_dFn, Ret_dCons, Ret_dNil, Ret_dBin, Ret_dUn, Ret_dCall, Ret_dCallN, Ret_dC, Ret_dG, Ret_dVar, Ret_dIf, Ret_dFz, Ret_dNew, Ret_dLst, Ret_dTup, Ret_dB, Ret_dAndT, Ret_dOrT, Ret_dNotT, Ret_dAnd, Ret_dOr, Ret_dNot, Ret_dIsi, Ret_dChain, Ret_dGet, Ret_dD0, Ret_dNoP, Ret_dPt, Ret_dSlA, Ret_dMeth, Ret_dAny, Ret_dLenSet, Ret_dZip, Ret_dZipL, Ret_dKeys, Ret_dRng1, Ret_dRng2, Ret_dLc, wipeW, Ret_dDc, Ret_dItems, Ret_dSortSet, Ret_dFnK, RetS_for, Ret_ok, startW, List.map_cons, List.map_nil, List.length_cons, List.length_nil, List.cons_append, List.nil_append, List.replicate, Nat.sub_self, Nat.reduceSub, Nat.reduceAdd, List.getElem?_cons_zero, List.getElem?_cons_succ, List.set_cons_zero, List.set_cons_succ, Option.some.injEq, exists_eq_left', rd_d, on2_d, on1_d, c1_d, bOf_b, exists_eq_left, Option.map_some, Option.bind_some, W.d.injEq, Ret_gcd, List.take_length, dIx]
    have hhl : h.length = ps.length := by simpa using pv.length_eq
    refine ⟨h.map fun q => .tuple [.int q.1, .int (q.2 : Nat)], ?_, small_of (m := 1000) (by rw [List.length_map]; omega), ?_⟩
    · simp only [lkItems, List.getElem?_set_self hT, hK, List.map_map]
      rfl
    generalize eT1 : T.set T0.length (.lkK (hK h)) = T1
    have lT1 : T1.length = T.length := by rw [← eT1]; simp
    refine (dc_inv (m := T1.length) (fun j kvs S' => S' = T1 ++ [.dk kvs] ∧ kvs.length ≤ j ∧ ∀ q ∈ h.take j, valD kvs (.inl (q.2 : Nat)) = some (.int q.1)) (fun j kvs S' hS => by rw [hS.1]; exact last_at) (h.map fun q => .tuple [.int q.1, .int (q.2 : Nat)]) 0 [] (T1 ++ [.dk []]) ⟨rfl, Nat.le_refl _, by simp⟩ ?_).mono ?_
    · rintro j x kvs S' hx ⟨rfl, k1, k2⟩
      rw [Nat.zero_add] at k1 k2 ⊢
      obtain ⟨q, hq, rfl⟩ : ∃ q, h[j]? = some q ∧ x = .tuple [.int q.1, .int (q.2 : Nat)] := by
        rw [List.getElem?_map] at hx
        obtain ⟨a, h1, h2⟩ := Option.map_eq_some_iff.mp hx
        exact ⟨a, h1, h2.symm⟩
      have hj := (List.getElem?_eq_some_iff.mp hq).1
      refine ⟨_, rfl, ?_⟩
      show Ret (some (.ok true _)) _
      rw [Ret_ok, if_pos rfl]
      simp only [RetS_cons, RetS_nil, RetS_set, RetS_drop, RetS_ret, RetS_if, RetS_asg, RetS_par, RetS_put, RetS_nx, RetS_rt, Ret_dFn, Ret_dCons, Ret_dNil, Ret_dBin, Ret_dUn, Ret_dCall, Ret_dCallN, Ret_dC, Ret_dG, Ret_dVar, Ret_dIf, Ret_dFz, Ret_dNew, Ret_dLst, Ret_dTup, Ret_dB, Ret_dAndT, Ret_dOrT, Ret_dNotT, Ret_dAnd, Ret_dOr, Ret_dNot, Ret_dIsi, Ret_dChain, Ret_dGet, Ret_dD0, Ret_dNoP, Ret_dPt, Ret_dSlA, Ret_dMeth, Ret_dAny, Ret_dLenSet, Ret_dZip, Ret_dZipL, Ret_dKeys, Ret_dRng1, Ret_dRng2, Ret_dLc, wipeW, Ret_dDc, Ret_dItems, Ret_dSortSet, Ret_dFnK, RetS_for, Ret_ok, startW, List.map_cons, List.map_nil, List.length_cons, List.length_nil, List.cons_append, List.nil_append, List.replicate, Nat.sub_self, Nat.reduceSub, Nat.reduceAdd, List.getElem?_cons_zero, List.getElem?_cons_succ, List.set_cons_zero, List.set_cons_succ, Option.some.injEq, exists_eq_left', rd_d, on2_d, on1_d, c1_d, bOf_b, exists_eq_left, Option.map_some, Option.bind_some, W.d.injEq, Ret_gcd, List.take_length, dIx]
      refine ⟨.int q.1, .inl (q.2 : Nat), rfl, rfl, last_at, small_of (m := 1000) (by omega), by simp, by have := (putD_len kvs (.inl (q.2 : Nat)) (.int q.1)).1; omega, fun r hr => ?_⟩
      rw [valD_put]
      rw [List.take_succ, hq, Option.toList_some] at hr
      rcases List.mem_append.mp hr with hr | hr
      · rw [if_neg, k2 r hr]
        intro e
        obtain ⟨i, hi⟩ := List.getElem?_of_mem hr
        have hi2 := (List.getElem?_eq_some_iff.mp hi).1
        rw [List.length_take] at hi2
        rw [List.getElem?_take_of_lt (by omega)] at hi
        have e : (q.2 : Int) = (r.2 : Int) := by simpa using e
        have e : q.2 = r.2 := by omega
        have := nodup_at.mp vnd i j q.2 (by rw [List.getElem?_map, hi, e]; rfl) (by rw [List.getElem?_map, hq]; rfl)
        omega
      · rw [List.mem_singleton.mp hr, if_pos rfl]
    · rintro w T2 ⟨rfl, kvs, rfl, k1, k2⟩
      rw [Nat.zero_add, List.length_map, List.take_length] at k2
      have e2 : (T1 ++ [O.dk kvs]).set T0.length (.dk (hK h)) = T ++ [O.dk kvs] := by
        rw [List.set_append_left _ _ (by omega), ← eT1, List.set_set, set_same at0]
      rw [e2, lT1]
      refine ⟨.d (.int ps.length), om (lenT ps), ps.length, rfl, by omega, ?_⟩
      refine (lc_inv (fun j acc S' => S' = T ++ [O.dk kvs] ∧ ∃ a : List Int, acc = a.map PyData.int ∧ a.length = j ∧ ∀ i n, a[i]? = some n → (n, i) ∈ h) (rng 0 ps.length) 0 [] _ ⟨rfl, [], rfl, rfl, by simp⟩ ?_).mono ?_
      · rintro j y acc S' hy ⟨rfl, a, rfl, al, am⟩
        obtain ⟨rfl, hj⟩ := rng_at hy
        rw [Nat.zero_add] at al ⊢
        refine ⟨_, rfl, ?_⟩
        show Ret (some (.ok true _)) _
        rw [Ret_ok, if_pos rfl]
        simp only [RetS_cons, RetS_nil, RetS_set, RetS_drop, RetS_ret, RetS_if, RetS_asg, RetS_par, RetS_put, RetS_nx, RetS_rt, Ret_dFn, Ret_dCons, Ret_dNil, Ret_dBin, Ret_dUn, Ret_dCall, Ret_dCallN, Ret_dC, Ret_dG, Ret_dVar, Ret_dIf, Ret_dFz, Ret_dNew, Ret_dLst, Ret_dTup, Ret_dB, Ret_dAndT, Ret_dOrT, Ret_dNotT, Ret_dAnd, Ret_dOr, Ret_dNot, Ret_dIsi, Ret_dChain, Ret_dGet, Ret_dD0, Ret_dNoP, Ret_dPt, Ret_dSlA, Ret_dMeth, Ret_dAny, Ret_dLenSet, Ret_dZip, Ret_dZipL, Ret_dKeys, Ret_dRng1, Ret_dRng2, Ret_dLc, wipeW, Ret_dDc, Ret_dItems, Ret_dSortSet, Ret_dFnK, RetS_for, Ret_ok, startW, List.map_cons, List.map_nil, List.length_cons, List.length_nil, List.cons_append, List.nil_append, List.replicate, Nat.sub_self, Nat.reduceSub, Nat.reduceAdd, List.getElem?_cons_zero, List.getElem?_cons_succ, List.set_cons_zero, List.set_cons_succ, Option.some.injEq, exists_eq_left', rd_d, on2_d, on1_d, c1_d, bOf_b, exists_eq_left, Option.map_some, Option.bind_some, W.d.injEq, Ret_gcd, List.take_length, dIx]
        have hjr : j ∈ h.map (·.2) := pv.mem_iff.mpr (List.mem_range.mpr (by omega))
        obtain ⟨q, hq, rfl⟩ := List.mem_map.mp hjr
        refine ⟨.d (.int q.1), ?_, .int q.1, rfl, trivial, a ++ [q.1], by simp, by simp [al], fun i n hi => ?_⟩
        · simp only [dgetW, last_at, keyP, Option.bind_some, k2 q hq, Option.map_some]
        · by_cases hi2 : i < a.length
          · rw [List.getElem?_append_left hi2] at hi; exact am i n hi
          · have hi3 : i < (a ++ [q.1]).length := (List.getElem?_eq_some_iff.mp hi).1
            have : i = a.length := by simp at hi3; omega
            subst this
            simp at hi
            subst hi
            rw [al]; exact hq
      · rintro acc S' ⟨rfl, a, rfl, al, am⟩
        rw [Nat.zero_add, rng0_len, Int.toNat_natCast] at al
        refine ⟨_, rfl, ?_⟩
        rw [Ret_gcd]
        refine ⟨.inr ⟨a, rfl, al, ?_, fun i p n h1 h2 => ?_⟩, ?_⟩
        · rw [nodup_at]
          intro i j n h1 h2
          have g1 := am i n h1
          have g2 := am j n h2
          obtain ⟨i1, e1⟩ := List.getElem?_of_mem g1
          obtain ⟨i2, e2⟩ := List.getElem?_of_mem g2
          have := nodup_at.mp ho.nd i1 i2 n (by rw [List.getElem?_map, e1]; rfl) (by rw [List.getElem?_map, e2]; rfl)
          subst this
          exact congrArg Prod.snd (Option.some.inj (e1.symm.trans e2))
        · obtain ⟨p', h3, h4⟩ := ho.ad _ (am i n h2)
          rw [h1] at h3; cases h3; exact h4
        · rw [List.take_append_of_le_length (by omega), tk]
  · rintro j y σ T hy ⟨⟨o3, o4, o5, rfl⟩, h, ex, rfl, ho, pv⟩
    obtain ⟨rfl, hj⟩ := rng_at hy
    rw [Nat.zero_add] at pv ⊢
    have hjl : j < ps.length := by omega
    have hhl : h.length = j := by simpa using pv.length_eq
    refine ⟨_, rfl, ?_⟩
    simp only [RetS_cons, RetS_nil, RetS_set, RetS_drop, RetS_ret, RetS_if, RetS_asg, RetS_par, RetS_put, RetS_nx, RetS_rt, Ret_dFn, Ret_dCons, Ret_dNil, Ret_dBin, Ret_dUn, Ret_dCall, Ret_dCallN, Ret_dC, Ret_dG, Ret_dVar, Ret_dIf, Ret_dFz, Ret_dNew, Ret_dLst, Ret_dTup, Ret_dB, Ret_dAndT, Ret_dOrT, Ret_dNotT, Ret_dAnd, Ret_dOr, Ret_dNot, Ret_dIsi, Ret_dChain, Ret_dGet, Ret_dD0, Ret_dNoP, Ret_dPt, Ret_dSlA, Ret_dMeth, Ret_dAny, Ret_dLenSet, Ret_dZip, Ret_dZipL, Ret_dKeys, Ret_dRng1, Ret_dRng2, Ret_dLc, wipeW, Ret_dDc, Ret_dItems, Ret_dSortSet, Ret_dFnK, RetS_for, Ret_ok, startW, List.map_cons, List.map_nil, List.length_cons, List.length_nil, List.cons_append, List.nil_append, List.replicate, Nat.sub_self, Nat.reduceSub, Nat.reduceAdd, List.getElem?_cons_zero, List.getElem?_cons_succ, List.set_cons_zero, List.set_cons_succ, Option.some.injEq, exists_eq_left', rd_d, on2_d, on1_d, c1_d, bOf_b, exists_eq_left, Option.map_some, Option.bind_some, W.d.injEq, Ret_gcd, List.take_length, dIx]
    have hi : T0.length < (T0 ++ [O.dk (hK h)] ++ ex ++ [O.dk []]).length := by simp
    have ht : (T0 ++ [O.dk (hK h)] ++ ex).length < (T0 ++ [O.dk (hK h)] ++ ex ++ [O.dk []]).length := by simp
    have hne : T0.length ≠ (T0 ++ [O.dk (hK h)] ++ ex).length := by simp
    have es : St (T0 ++ [O.dk (hK h)] ++ ex ++ [O.dk []]) T0.length (T0 ++ [O.dk (hK h)] ++ ex).length h [] = T0 ++ [O.dk (hK h)] ++ ex ++ [O.dk []] := by
      unfold St
      rw [set_same (n := T0.length) (a := O.dk (hK h)) (by simp), set_same (by simp [tK])]
    have fc := fc_ok (S := T0 ++ [O.dk (hK h)] ++ ex ++ [O.dk []]) hL hp hi ht hne 7 j h [] hjl ho (by omega) (by have : cnt L [] ≤ L.length := List.length_filter_le _ _; omega) (by have : cnt L [] ≤ L.length := List.length_filter_le _ _; simp; omega)
    rw [es] at fc
    refine fc.mono ?_
    rintro _ _ ⟨b, h', t', rfl, rfl, q⟩
    have ef : ∃ ex', St (T0 ++ [O.dk (hK h)] ++ ex ++ [O.dk []]) T0.length (T0 ++ [O.dk (hK h)] ++ ex).length h' t' = T0 ++ [O.dk (hK h')] ++ ex' := by
      refine ⟨ex ++ [O.dk (tK t')], ?_⟩
      unfold St
      simp [List.set_append]
    refine ⟨b, rfl, ?_⟩
    cases b with
    | true =>
      obtain ⟨ex', ef⟩ := ef
      obtain ⟨y1, y2, y3⟩ := q.yes rfl
      rw [if_neg (by decide), ef]
      refine ⟨⟨_, _, _, rfl⟩, h', ex', rfl, y1, y2.trans ?_⟩
      rw [List.range_succ]
      exact ((pv.cons j).trans (List.perm_append_comm (l₁ := [j])))
    | false =>
      obtain ⟨ex', ef⟩ := ef
      obtain ⟨rfl, y2, y3⟩ := q.no rfl
      rw [if_pos (by decide), ef]
      refine ⟨.inl ⟨rfl, hall ho hjl pv y2 fun n hn => y3 n hn (by simp)⟩, by simp⟩
end LK16
end

section
/-! part LM16h -/
set_option Elab.async false
set_option linter.all false
set_option maxRecDepth 100000
set_option maxHeartbeats 1000000
/-! LM16h: the law's own comparison. -/
open CL
open PySem PySem.Spec PyProof.Rows L2
namespace LK16
theorem coins_for_ex' {L : List Cn} {ps : List PyData} {x y : PyData} (hx : x = .tuple (L.map coinD)) (hy : y = .tuple ps) (hL : ∀ c ∈ L, CnOk c) (hl : L.length ≤ 5) (hp : Prs 5 ps) (T0 : So) : ∃ z, f_coins_for [.d x, .d y] T0 = some (.ok (.d z) T0) ∧ CfW L ps (.d z) := by
  obtain ⟨w, S, e, h, rfl⟩ := Ret_ex (cf_aux hx hy hL hl hp T0)
  rcases h with ⟨rfl, h⟩ | ⟨a, rfl, h⟩
  · exact ⟨_, e, .inl ⟨rfl, h⟩⟩
  · exact ⟨_, e, .inr ⟨a, rfl, h⟩⟩
theorem coins_for_ex {L : List Cn} {ps : List PyData} (hL : ∀ c ∈ L, CnOk c) (hl : L.length ≤ 5) (hp : Prs 5 ps) (T0 : So) : ∃ x, f_coins_for [.d (.tuple (L.map coinD)), .d (.tuple ps)] T0 = some (.ok (.d x) T0) ∧ CfW L ps (.d x) := coins_for_ex' rfl rfl hL hl hp T0
theorem int_gd {n : Int} (h : n.natAbs ≤ 10 ^ 22) : Gd 0 0 (.int n) := ⟨by simp only [okd, decide_eq_true_eq]; exact Nat.lt_of_le_of_lt h (by decide), by simp [PyData.bulk], by simp [PyData.depth]⟩
theorem prs_gd {m : Nat} {ps : List PyData} (h : Prs m ps) : Gd (m * 19) 2 (.tuple ps) := by
  have := Gd.tuple (Gds.of_mem fun p hp => row_gd (h.1 p hp))
  exact this.mono (Nat.mul_le_mul_right _ h.2) (Nat.le_refl _)
theorem coin_gd {c : Cn} (h : CnOk c) : Gd 60 3 (coinD c) := by
  have h1 := int_gd h.1
  have h2 := prs_gd h.2
  exact (Gd.tuple (Gds.cons (h1.mono (Nat.le_refl 0) (Nat.zero_le 2)) (Gds.cons h2 (Gds.nil (b := 0))))).mono (by decide) (by decide)
theorem both_gd {L : List Cn} {ps : List PyData} (hL : ∀ c ∈ L, CnOk c) (hl : L.length ≤ 5) (hp : Prs 5 ps) : Gd 500 5 (.tuple [.tuple (L.map coinD), .tuple ps]) := by
  have h1 : Gd (5 * 61) 4 (.tuple (L.map coinD)) := by
    have := Gd.tuple (Gds.of_mem (xs := L.map coinD) (b := 60) (d := 3) fun x hx => by
      obtain ⟨c, hc, rfl⟩ := List.mem_map.mp hx
      exact coin_gd (hL c hc))
    exact this.mono (by rw [List.length_map]; omega) (Nat.le_refl _)
  have h2 := prs_gd hp
  exact (Gd.tuple (Gds.cons h1 (Gds.cons (h2.mono (Nat.le_refl _) (show 2 ≤ 4 by decide)) (Gds.nil (b := 0))))).mono (by decide) (by decide)
theorem pay_gd {L : List Cn} {ps : List PyData} {a : List Int} (hL : ∀ c ∈ L, CnOk c) (hp : Prs 5 ps) (h : Valid L ps a) : Gd 10 1 (payD a) := by
  have := Gd.tuple (Gds.of_mem (xs := a.map PyData.int) (b := 0) (d := 0) fun x hx => by
    obtain ⟨n, hn, rfl⟩ := List.mem_map.mp hx
    obtain ⟨i, hi⟩ := List.getElem?_of_mem hn
    have hl := (List.getElem?_eq_some_iff.mp hi).1
    rw [h.len] at hl
    obtain ⟨qs, h1, _⟩ := h.ad i _ n (List.getElem?_eq_getElem hl) hi
    exact int_gd (hL _ h1).1)
  exact this.mono (by rw [List.length_map, h.len]; have := hp.2; omega) (Nat.le_refl _)
theorem shown_gd {b d : Nat} {x : PyData} (h : Gd b d x) (hb : b ≤ 200000) : Gd 16777216 0 (.str x.shown) := by
  obtain ⟨h1, h2, h3⟩ := leaves_of x h.ok
  have h4 := PyData.shown_le_bulk 80 (by decide) x h1
  have h5 := h.bulk
  refine ⟨by simpa [okd] using sign_shown x h.ok, ?_, by simp [PyData.depth]⟩
  have : x.shown.length ≤ 16777216 := by omega
  simpa [PyData.bulk, Str.length] using this
theorem eq_self {b d : Nat} {x : PyData} (h : Gd b d x) (hb : b ≤ 200000) : eqP (.str x.shown) (.str x.shown) = some (.bool true) := by
  have := (shown_gd h hb).okD (by decide)
  unfold eqP
  rw [this]
  simp [PyData.eqv]
theorem agrees_ok {L : List Cn} {ps : List PyData} (hL : ∀ c ∈ L, CnOk c) (hl : L.length ≤ 5) (hp : Prs 5 ps) (T0 : So) : Ret (f_l_agrees [.d (.tuple (L.map coinD)), .d (.tuple ps)] T0) fun w T => w = .d (.bool true) ∧ T = T0 := by
  have hb := both_gd hL hl hp
  refine Ret_fnB rfl ?_
  unfold b_l_agrees
  simp only [RetS_cons, RetS_nil, RetS_set, RetS_drop, RetS_ret, RetS_if, RetS_asg, RetS_par, RetS_put, RetS_nx, RetS_rt, Ret_dFn, Ret_dCons, Ret_dNil, Ret_dBin, Ret_dUn, Ret_dCall, Ret_dCallN, Ret_dC, Ret_dG, Ret_dVar, Ret_dIf, Ret_dFz, Ret_dNew, Ret_dLst, Ret_dTup, Ret_dB, Ret_dAndT, Ret_dOrT, Ret_dNotT, Ret_dAnd, Ret_dOr, Ret_dNot, Ret_dIsi, Ret_dChain, Ret_dGet, Ret_dD0, Ret_dNoP, Ret_dPt, Ret_dSlA, Ret_dMeth, Ret_dAny, Ret_dLenSet, Ret_dZip, Ret_dZipL, Ret_dKeys, Ret_dRng1, Ret_dRng2, Ret_dLc, wipeW, Ret_dDc, Ret_dItems, Ret_dSortSet, Ret_dFnK, RetS_for, Ret_ok, startW, List.map_cons, List.map_nil, List.length_cons, List.length_nil, List.cons_append, List.nil_append, List.replicate, Nat.sub_self, Nat.reduceSub, Nat.reduceAdd, List.getElem?_cons_zero, List.getElem?_cons_succ, List.set_cons_zero, List.set_cons_succ, Option.some.injEq, exists_eq_left', rd_d, on2_d, on1_d, c1_d, bOf_b, exists_eq_left, Option.map_some, Option.bind_some, W.d.injEq, Ret_gcd, List.take_length, dIx]
  refine ⟨_, rfl, _, om (hb.repr (by decide) (by decide)), ?_⟩
  refine (payments_ok hL hl hp T0).mono ?_
  rintro _ T1 ⟨⟨F, rfl, hF, hFl⟩, hT⟩
  rw [hT]
  clear hT T1
  obtain ⟨x, e, hx⟩ := coins_for_ex hL hl hp T0
  refine ⟨_, rfl, _, rfl, _, rfl, ?_⟩
  rw [e]
  rw [Ret_ok]
  refine ⟨_, rfl, _, rfl, trivial, ?_⟩
  show Ret (f_coins_for [.d (.tuple (L.map coinD)), .d (.tuple ps)] T0) _
  rw [e, Ret_ok]
  have hF1 : ∀ y ∈ F.map payD, Gd 10 1 y := fun y hy => by
    obtain ⟨a, ha, rfl⟩ := List.mem_map.mp hy
    exact pay_gd hL hp ((hF a).mp ha)
  have e1 := eq_nil hF1 (by decide)
  have e2 : neP (.list (F.map payD)) (.list []) = some (.bool (!(F.map payD).isEmpty)) := by
    unfold neP
    rw [okD_list hF1 (by decide), okD_nil, eqv_nil]; rfl
  refine ⟨[x, x], rfl, ([x, x], none), rfl, ?_⟩
  refine for_inv (fun j σ T => (∃ o4 o5, σ = [some (.d (.tuple (L.map coinD))), some (.d (.tuple ps)), some (.d (.str (PyData.tuple [.tuple (L.map coinD), .tuple ps]).shown)), some (.d (.list (F.map payD))), o4, o5]) ∧ T = T0) [x, x] 0 _ _ ⟨⟨_, _, rfl⟩, rfl⟩ ?_ ?_
  · rintro σ T ⟨⟨o4, o5, rfl⟩, rfl⟩
    refine ⟨_, rfl, _, rfl, _, rfl, _, om (hb.repr (by decide) (by decide)), _, rfl, _, om (eq_self hb (by decide)), ?_⟩
    rw [Ret_gcd]
    exact ⟨rfl, List.take_length⟩
  · rintro j y σ T hy ⟨⟨o4, o5, rfl⟩, rfl⟩
    have hy : y = x := by simpa using List.mem_of_getElem? hy
    subst hy
    refine ⟨_, rfl, ?_⟩
    simp only [RetS_cons, RetS_nil, RetS_set, RetS_drop, RetS_ret, RetS_if, RetS_asg, RetS_par, RetS_put, RetS_nx, RetS_rt, Ret_dFn, Ret_dCons, Ret_dNil, Ret_dBin, Ret_dUn, Ret_dCall, Ret_dCallN, Ret_dC, Ret_dG, Ret_dVar, Ret_dIf, Ret_dFz, Ret_dNew, Ret_dLst, Ret_dTup, Ret_dB, Ret_dAndT, Ret_dOrT, Ret_dNotT, Ret_dAnd, Ret_dOr, Ret_dNot, Ret_dIsi, Ret_dChain, Ret_dGet, Ret_dD0, Ret_dNoP, Ret_dPt, Ret_dSlA, Ret_dMeth, Ret_dAny, Ret_dLenSet, Ret_dZip, Ret_dZipL, Ret_dKeys, Ret_dRng1, Ret_dRng2, Ret_dLc, wipeW, Ret_dDc, Ret_dItems, Ret_dSortSet, Ret_dFnK, RetS_for, Ret_ok, startW, List.map_cons, List.map_nil, List.length_cons, List.length_nil, List.cons_append, List.nil_append, List.replicate, Nat.sub_self, Nat.reduceSub, Nat.reduceAdd, List.getElem?_cons_zero, List.getElem?_cons_succ, List.set_cons_zero, List.set_cons_succ, Option.some.injEq, exists_eq_left', rd_d, on2_d, on1_d, c1_d, bOf_b, exists_eq_left, Option.map_some, Option.bind_some, W.d.injEq, Ret_gcd, List.take_length, dIx]
    refine ⟨[], rfl, _, om e1, _, rfl, ?_⟩
    rcases hx with ⟨hx, hno⟩ | ⟨a, hx, ha⟩
    · cases hx
      have : F = [] := by
        cases F with
        | nil => rfl
        | cons a F => exact absurd ((hF a).mp List.mem_cons_self) (hno a)
      subst this
      rw [if_pos (show (([] : List (List Int)).map payD).isEmpty = true from rfl)]
      refine ⟨_, rfl, _, rfl, ?_⟩
      rw [if_neg (show ¬ ((true ^^ true) = true) by decide)]
      refine ⟨[], rfl, _, om e2, _, rfl, ?_⟩
      rw [if_neg (show ¬ ((!((([] : List (List Int)).map payD).isEmpty)) = true) by decide), if_neg (by decide)]
      exact ⟨⟨_, _, rfl⟩, trivial⟩
    · cases hx
      have haF := (hF a).mpr ha
      have hne : (F.map payD).isEmpty = false := by
        cases F with
        | nil => cases haF
        | cons a F => rfl
      rw [hne] at e2 ⊢
      rw [if_neg (by decide), if_neg (by decide)]
      refine ⟨[], rfl, _, om e2, _, rfl, ?_⟩
      rw [if_pos (show (!false) = true from rfl)]
      have hag := pay_gd hL hp ha
      refine ⟨_, om (hag.repr (by decide) (by decide)), _, rfl, ?_⟩
      refine Ret.of (lc_pure (fun _ => true) (fun z => .str z.shown) _ _ fun z hz => ⟨_, rfl, ⟨rfl, rfl⟩, fun _ => ?_⟩) ?_
      · have hz := hF1 z hz
        simp only [RetS_cons, RetS_nil, RetS_set, RetS_drop, RetS_ret, RetS_if, RetS_asg, RetS_par, RetS_put, RetS_nx, RetS_rt, Ret_dFn, Ret_dCons, Ret_dNil, Ret_dBin, Ret_dUn, Ret_dCall, Ret_dCallN, Ret_dC, Ret_dG, Ret_dVar, Ret_dIf, Ret_dFz, Ret_dNew, Ret_dLst, Ret_dTup, Ret_dB, Ret_dAndT, Ret_dOrT, Ret_dNotT, Ret_dAnd, Ret_dOr, Ret_dNot, Ret_dIsi, Ret_dChain, Ret_dGet, Ret_dD0, Ret_dNoP, Ret_dPt, Ret_dSlA, Ret_dMeth, Ret_dAny, Ret_dLenSet, Ret_dZip, Ret_dZipL, Ret_dKeys, Ret_dRng1, Ret_dRng2, Ret_dLc, wipeW, Ret_dDc, Ret_dItems, Ret_dSortSet, Ret_dFnK, RetS_for, Ret_ok, startW, List.map_cons, List.map_nil, List.length_cons, List.length_nil, List.cons_append, List.nil_append, List.replicate, Nat.sub_self, Nat.reduceSub, Nat.reduceAdd, List.getElem?_cons_zero, List.getElem?_cons_succ, List.set_cons_zero, List.set_cons_succ, Option.some.injEq, exists_eq_left', rd_d, on2_d, on1_d, c1_d, bOf_b, exists_eq_left, Option.map_some, Option.bind_some, W.d.injEq, Ret_gcd, List.take_length, dIx]
        exact ⟨_, om (hz.repr (by decide) (by decide)), rfl, trivial⟩
      · rw [List.filter_eq_self.mpr fun _ _ => rfl, List.nil_append]
        have hgs : ∀ y ∈ (F.map payD).map fun z => PyData.str z.shown, Gd 16777216 0 y := fun y hy => by
          obtain ⟨z, hz, rfl⟩ := List.mem_map.mp hy
          exact shown_gd (hF1 z hz) (by decide)
        have hm : memD (.str (payD a).shown) ((F.map payD).map fun z => PyData.str z.shown) = true := by
          unfold memD
          rw [List.any_eq_true]
          exact ⟨_, List.mem_map.mpr ⟨_, List.mem_map.mpr ⟨a, haF, rfl⟩, rfl⟩, by simp [PyData.eqv]⟩
        have hin := inL (neg := true) ((shown_gd hag (by decide)).okD (by decide)) (okD_list hgs (by decide))
        rw [hm] at hin
        refine ⟨_, om hin, _, rfl, ?_⟩
        rw [if_neg (by decide)]
        exact ⟨⟨_, _, rfl⟩, rfl⟩
end LK16
end

section
/-! part LM16i -/
set_option Elab.async false
set_option linter.all false
set_option maxRecDepth 100000
set_option maxHeartbeats 1000000
/-! LM16i: the cases by hand; what can be reached; the law. -/
open CL
open PySem PySem.Spec PyProof.Rows L2
namespace LK16
def listOf (m : M W) : List PyData := match m with
  | some (.ok (.d (.list xs)) _) => xs
  | _ => []
def handL : List PyData := listOf (f_l_by_hand [] [])
theorem hand_ok (S : So) : f_l_by_hand [] S = some (.ok (.d (.list handL)) (S.take S.length)) := by rfl
def rowB : PyData → Bool
  | .tuple [a, b] => shB a && shB b
  | _ => false
def prsB (m : Nat) (ps : List PyData) : Bool := ps.all rowB && decide (ps.length ≤ m)
def coinB : PyData → Bool
  | .tuple [.int n, .tuple ps] => decide (n.natAbs ≤ 10 ^ 22) && prsB 3 ps
  | _ => false
def caseB : PyData → Bool
  | .tuple [.tuple cs, .tuple ps] => cs.all coinB && decide (cs.length ≤ 5) && prsB 5 ps
  | _ => false
theorem row_of {x : PyData} (h : rowB x = true) : Row 2 x := by
  unfold rowB at h
  split at h
  · rename_i a b
    rw [Bool.and_eq_true] at h
    refine ⟨[a, b], rfl, rfl, fun y hy => ?_⟩
    simp only [List.mem_cons, List.not_mem_nil, or_false] at hy
    rcases hy with rfl | rfl
    · exact sh_of h.1
    · exact sh_of h.2
  · cases h
theorem prs_of {m : Nat} {ps : List PyData} (h : prsB m ps = true) : Prs m ps := by
  unfold prsB at h
  rw [Bool.and_eq_true, decide_eq_true_eq] at h
  exact ⟨fun p hp => row_of (List.all_eq_true.mp h.1 p hp), h.2⟩
theorem coin_of {x : PyData} (h : coinB x = true) : Coin x := by
  unfold coinB at h
  split at h
  · rename_i n ps
    rw [Bool.and_eq_true, decide_eq_true_eq] at h
    exact ⟨n, ps, rfl, h.1, prs_of h.2⟩
  · cases h
/-- a purse and wanted pairs -/
def Case (x : PyData) : Prop := ∃ (L : List Cn) (ps : List PyData), x = .tuple [.tuple (L.map coinD), .tuple ps] ∧ (∀ c ∈ L, CnOk c) ∧ L.length ≤ 5 ∧ Prs 5 ps
theorem case_of {x : PyData} (h : caseB x = true) : Case x := by
  unfold caseB at h
  split at h
  · rename_i cs ps
    rw [Bool.and_eq_true, Bool.and_eq_true, decide_eq_true_eq] at h
    obtain ⟨L, rfl, hL⟩ := coins_of fun c hc => coin_of (List.all_eq_true.mp h.1.1 c hc)
    exact ⟨L, ps, rfl, hL, by simpa using h.1.2, prs_of h.2⟩
  · cases h
theorem hand_case : ∀ x ∈ handL, Case x := by
  have : handL.all caseB = true := by decide +kernel
  exact fun x hx => case_of (List.all_eq_true.mp this x hx)
theorem reach_ok {L : List Cn} {p : PyData} (hL : ∀ c ∈ L, CnOk c) (hp : Row 2 p) (T0 : So) : Ret (f_l_reachable [.d (.tuple (L.map coinD)), .d (.tuple [p])] T0) fun w T => (∃ n : Int, w = .d (.int n)) ∧ T = T0 := by
  refine Ret_fnB rfl ?_
  unfold b_l_reachable
  simp only [RetS_cons, RetS_nil, RetS_set, RetS_drop, RetS_ret, RetS_if, RetS_asg, RetS_par, RetS_put, RetS_nx, RetS_rt, Ret_dFn, Ret_dCons, Ret_dNil, Ret_dBin, Ret_dUn, Ret_dCall, Ret_dCallN, Ret_dC, Ret_dG, Ret_dVar, Ret_dIf, Ret_dFz, Ret_dNew, Ret_dLst, Ret_dTup, Ret_dB, Ret_dAndT, Ret_dOrT, Ret_dNotT, Ret_dAnd, Ret_dOr, Ret_dNot, Ret_dIsi, Ret_dChain, Ret_dGet, Ret_dD0, Ret_dNoP, Ret_dPt, Ret_dSlA, Ret_dMeth, Ret_dAny, Ret_dLenSet, Ret_dZip, Ret_dZipL, Ret_dKeys, Ret_dRng1, Ret_dRng2, Ret_dLc, wipeW, Ret_dDc, Ret_dItems, Ret_dSortSet, Ret_dFnK, RetS_for, Ret_ok, startW, List.map_cons, List.map_nil, List.length_cons, List.length_nil, List.cons_append, List.nil_append, List.replicate, Nat.sub_self, Nat.reduceSub, Nat.reduceAdd, List.getElem?_cons_zero, List.getElem?_cons_succ, List.set_cons_zero, List.set_cons_succ, Option.some.injEq, exists_eq_left', rd_d, on2_d, on1_d, c1_d, bOf_b, exists_eq_left, Option.map_some, Option.bind_some, W.d.injEq, Ret_gcd, List.take_length, dIx]
  refine ⟨(L.map coinD, none), rfl, ?_⟩
  refine (lc_inv (fun j acc T => T = T0) (L.map coinD) 0 [] T0 rfl ?_).mono ?_
  · rintro j x acc T hx rfl
    obtain ⟨⟨n, qs⟩, hc, rfl⟩ := List.mem_map.mp (List.mem_of_getElem? hx)
    have hq := (hL _ hc).2
    refine ⟨_, rfl, ?_⟩
    simp only [RetS_cons, RetS_nil, RetS_set, RetS_drop, RetS_ret, RetS_if, RetS_asg, RetS_par, RetS_put, RetS_nx, RetS_rt, Ret_dFn, Ret_dCons, Ret_dNil, Ret_dBin, Ret_dUn, Ret_dCall, Ret_dCallN, Ret_dC, Ret_dG, Ret_dVar, Ret_dIf, Ret_dFz, Ret_dNew, Ret_dLst, Ret_dTup, Ret_dB, Ret_dAndT, Ret_dOrT, Ret_dNotT, Ret_dAnd, Ret_dOr, Ret_dNot, Ret_dIsi, Ret_dChain, Ret_dGet, Ret_dD0, Ret_dNoP, Ret_dPt, Ret_dSlA, Ret_dMeth, Ret_dAny, Ret_dLenSet, Ret_dZip, Ret_dZipL, Ret_dKeys, Ret_dRng1, Ret_dRng2, Ret_dLc, wipeW, Ret_dDc, Ret_dItems, Ret_dSortSet, Ret_dFnK, RetS_for, Ret_ok, startW, List.map_cons, List.map_nil, List.length_cons, List.length_nil, List.cons_append, List.nil_append, List.replicate, Nat.sub_self, Nat.reduceSub, Nat.reduceAdd, List.getElem?_cons_zero, List.getElem?_cons_succ, List.set_cons_zero, List.set_cons_succ, Option.some.injEq, exists_eq_left', rd_d, on2_d, on1_d, c1_d, bOf_b, exists_eq_left, Option.map_some, Option.bind_some, W.d.injEq, Ret_gcd, List.take_length, dIx]
    refine ⟨(qs, none), rfl, ?_⟩
    refine Ret.of (lc_pure (fun z => memD z [p]) (fun z => z) _ _ fun z hz => ⟨_, rfl, ?_, fun _ => ?_⟩) ?_
    · simp only [RetS_cons, RetS_nil, RetS_set, RetS_drop, RetS_ret, RetS_if, RetS_asg, RetS_par, RetS_put, RetS_nx, RetS_rt, Ret_dFn, Ret_dCons, Ret_dNil, Ret_dBin, Ret_dUn, Ret_dCall, Ret_dCallN, Ret_dC, Ret_dG, Ret_dVar, Ret_dIf, Ret_dFz, Ret_dNew, Ret_dLst, Ret_dTup, Ret_dB, Ret_dAndT, Ret_dOrT, Ret_dNotT, Ret_dAnd, Ret_dOr, Ret_dNot, Ret_dIsi, Ret_dChain, Ret_dGet, Ret_dD0, Ret_dNoP, Ret_dPt, Ret_dSlA, Ret_dMeth, Ret_dAny, Ret_dLenSet, Ret_dZip, Ret_dZipL, Ret_dKeys, Ret_dRng1, Ret_dRng2, Ret_dLc, wipeW, Ret_dDc, Ret_dItems, Ret_dSortSet, Ret_dFnK, RetS_for, Ret_ok, startW, List.map_cons, List.map_nil, List.length_cons, List.length_nil, List.cons_append, List.nil_append, List.replicate, Nat.sub_self, Nat.reduceSub, Nat.reduceAdd, List.getElem?_cons_zero, List.getElem?_cons_succ, List.set_cons_zero, List.set_cons_succ, Option.some.injEq, exists_eq_left', rd_d, on2_d, on1_d, c1_d, bOf_b, exists_eq_left, Option.map_some, Option.bind_some, W.d.injEq, Ret_gcd, List.take_length, dIx]
      have hz := hq.1 z hz
      refine ⟨_, om (inT (okD_row hz) (okD_rows (n := 2) fun y hy => by rw [List.mem_singleton.mp hy]; exact hp)), _, rfl, ?_⟩
      simp
    · simp only [RetS_cons, RetS_nil, RetS_set, RetS_drop, RetS_ret, RetS_if, RetS_asg, RetS_par, RetS_put, RetS_nx, RetS_rt, Ret_dFn, Ret_dCons, Ret_dNil, Ret_dBin, Ret_dUn, Ret_dCall, Ret_dCallN, Ret_dC, Ret_dG, Ret_dVar, Ret_dIf, Ret_dFz, Ret_dNew, Ret_dLst, Ret_dTup, Ret_dB, Ret_dAndT, Ret_dOrT, Ret_dNotT, Ret_dAnd, Ret_dOr, Ret_dNot, Ret_dIsi, Ret_dChain, Ret_dGet, Ret_dD0, Ret_dNoP, Ret_dPt, Ret_dSlA, Ret_dMeth, Ret_dAny, Ret_dLenSet, Ret_dZip, Ret_dZipL, Ret_dKeys, Ret_dRng1, Ret_dRng2, Ret_dLc, wipeW, Ret_dDc, Ret_dItems, Ret_dSortSet, Ret_dFnK, RetS_for, Ret_ok, startW, List.map_cons, List.map_nil, List.length_cons, List.length_nil, List.cons_append, List.nil_append, List.replicate, Nat.sub_self, Nat.reduceSub, Nat.reduceAdd, List.getElem?_cons_zero, List.getElem?_cons_succ, List.set_cons_zero, List.set_cons_succ, Option.some.injEq, exists_eq_left', rd_d, on2_d, on1_d, c1_d, bOf_b, exists_eq_left, Option.map_some, Option.bind_some, W.d.injEq, Ret_gcd, List.take_length, dIx]
      trivial
    · rw [List.nil_append, List.map_id']
      have hf : ∀ y ∈ qs.filter (fun z => memD z [p]), Gd 18 1 y := fun y hy => row_gd (hq.1 y (List.mem_filter.mp hy).1)
      have e2 : neP (.list (qs.filter fun z => memD z [p])) (.list []) = some (.bool (!(qs.filter fun z => memD z [p]).isEmpty)) := by
        unfold neP
        rw [okD_list hf (by decide), okD_nil, eqv_nil]; rfl
      refine ⟨[], rfl, _, om e2, _, rfl, ?_⟩
      split
      · rfl
      · rfl
  · rintro xs T rfl
    refine ⟨_, rfl, ?_⟩
    exact ⟨⟨_, rfl⟩, List.take_length⟩
theorem tups_rows : ∀ {xs : List PyData}, (∀ x ∈ xs, Row 2 x) → ∃ ks, tupsK xs = some ks ∧ ks.length = xs.length ∧ ∀ k ∈ ks, KRow 2 k
  | [], _ => ⟨[], rfl, rfl, fun k hk => nomatch hk⟩
  | x :: xs, h => by
    obtain ⟨ws, rfl, e, hw⟩ := h x List.mem_cons_self
    obtain ⟨q, g1, g2⟩ := sh_keys hw
    obtain ⟨ks, g3, g4, g5⟩ := tups_rows fun y hy => h y (List.mem_cons_of_mem _ hy)
    refine ⟨q :: ks, by simp [tupsK, g1, g3], by simp [g4], fun k hk => ?_⟩
    rcases List.mem_cons.mp hk with e2 | hk
    · subst e2; rw [e] at g2; exact g2
    · exact g5 k hk
theorem once_len (ks : List (List Key)) : (onceKs ks).length ≤ ks.length := by
  have : ∀ (ks acc : List (List Key)), (ks.foldl onceK acc).length ≤ acc.length + ks.length := by
    intro ks
    induction ks with
    | nil => intro acc; exact Nat.le_refl _
    | cons k ks ih =>
      intro acc
      rw [List.foldl_cons]
      have h1 := ih (onceK acc k)
      have h2 : (onceK acc k).length ≤ acc.length + 1 := by
        unfold onceK
        split <;> simp
      rw [List.length_cons]; omega
  have := this ks []
  unfold onceKs
  simpa using this
theorem sortSet_ok {xs : List PyData} (h : ∀ x ∈ xs, Row 2 x) (hl : xs.length ≤ 60) : ∃ ys, sortSet xs = some ys ∧ ∀ y ∈ ys, Row 2 y := by
  obtain ⟨ks, k1, k2, k3⟩ := tups_rows h
  have hr : ∀ x ∈ (onceKs ks).map tupOf, Row 2 x := fun x hx => by
    obtain ⟨q, hq, rfl⟩ := List.mem_map.mp hx
    exact krow_d (k3 q ((onceKs_mem ks q).mp hq))
  have hlen : (onceKs ks).length ≤ ks.length := once_len ks
  have so := rows_sort (by decide) hr (by rw [List.length_map]; omega)
  refine ⟨srtD ((onceKs ks).map tupOf), ?_, fun y hy => hr y (srt_mem hy)⟩
  unfold sortSet
  rw [k1, Option.bind_some, so, decide_eq_true (show ks.length < 64 by omega)]
  rfl
theorem law_true (ns : List Int) (hn : ns.length ≤ 63) : Ret (f_law [.s (ns.map PyData.int)] []) fun w _ => w = .d (.bool true) := by
  refine Ret_fnB rfl ?_
  unfold b_law
  have hk : 0 < [rdO ns 0 0 0].length := by simp
  have r0 : Rdr (RdO ns) 0 [rdO ns 0 0 0] [rdO ns 0 0 0] := ⟨_, ⟨0, 0, 0, rfl⟩, rfl⟩
  generalize eS : [rdO ns 0 0 0] = S at hk r0
  rw [RetS_cons]
  simp only [RetS_cons, RetS_nil, RetS_set, RetS_drop, RetS_ret, RetS_if, RetS_asg, RetS_par, RetS_put, RetS_nx, RetS_rt, Ret_dFn, Ret_dCons, Ret_dNil, Ret_dBin, Ret_dUn, Ret_dCall, Ret_dCallN, Ret_dC, Ret_dG, Ret_dVar, Ret_dIf, Ret_dFz, Ret_dNew, Ret_dLst, Ret_dTup, Ret_dB, Ret_dAndT, Ret_dOrT, Ret_dNotT, Ret_dAnd, Ret_dOr, Ret_dNot, Ret_dIsi, Ret_dChain, Ret_dGet, Ret_dD0, Ret_dNoP, Ret_dPt, Ret_dSlA, Ret_dMeth, Ret_dAny, Ret_dLenSet, Ret_dZip, Ret_dZipL, Ret_dKeys, Ret_dRng1, Ret_dRng2, Ret_dLc, wipeW, Ret_dDc, Ret_dItems, Ret_dSortSet, Ret_dFnK, RetS_for, Ret_ok, startW, List.map_cons, List.map_nil, List.length_cons, List.length_nil, List.cons_append, List.nil_append, List.replicate, Nat.sub_self, Nat.reduceSub, Nat.reduceAdd, List.getElem?_cons_zero, List.getElem?_cons_succ, List.set_cons_zero, List.set_cons_succ, Option.some.injEq, exists_eq_left', rd_d, on2_d, on1_d, c1_d, bOf_b, exists_eq_left, Option.map_some, Option.bind_some, W.d.injEq, Ret_gcd, List.take_length, dIx]
  refine Ret.of (reader_ok hn) ?_
  rw [eS]
  refine Ret.of (hand_ok S) ?_
  rw [List.take_length]
  refine ⟨(handL, none), rfl, ?_⟩
  refine Ret.of (lc_pure (fun _ => false) (fun z => z) _ _ fun x hx => ⟨_, rfl, ?_, fun h => by cases h⟩) ?_
  · obtain ⟨L, ps, rfl, hL, hl, hp⟩ := hand_case x hx
    simp only [RetS_cons, RetS_nil, RetS_set, RetS_drop, RetS_ret, RetS_if, RetS_asg, RetS_par, RetS_put, RetS_nx, RetS_rt, Ret_dFn, Ret_dCons, Ret_dNil, Ret_dBin, Ret_dUn, Ret_dCall, Ret_dCallN, Ret_dC, Ret_dG, Ret_dVar, Ret_dIf, Ret_dFz, Ret_dNew, Ret_dLst, Ret_dTup, Ret_dB, Ret_dAndT, Ret_dOrT, Ret_dNotT, Ret_dAnd, Ret_dOr, Ret_dNot, Ret_dIsi, Ret_dChain, Ret_dGet, Ret_dD0, Ret_dNoP, Ret_dPt, Ret_dSlA, Ret_dMeth, Ret_dAny, Ret_dLenSet, Ret_dZip, Ret_dZipL, Ret_dKeys, Ret_dRng1, Ret_dRng2, Ret_dLc, wipeW, Ret_dDc, Ret_dItems, Ret_dSortSet, Ret_dFnK, RetS_for, Ret_ok, startW, List.map_cons, List.map_nil, List.length_cons, List.length_nil, List.cons_append, List.nil_append, List.replicate, Nat.sub_self, Nat.reduceSub, Nat.reduceAdd, List.getElem?_cons_zero, List.getElem?_cons_succ, List.set_cons_zero, List.set_cons_succ, Option.some.injEq, exists_eq_left', rd_d, on2_d, on1_d, c1_d, bOf_b, exists_eq_left, Option.map_some, Option.bind_some, W.d.injEq, Ret_gcd, List.take_length, dIx]
    refine ⟨_, om at0, _, om at1, (agrees_ok hL hl hp S).mono ?_⟩
    rintro _ _ ⟨rfl, rfl⟩
    exact ⟨true, rfl, rfl, rfl⟩
  rw [List.filter_eq_nil_iff.mpr (by simp), List.map_nil, List.append_nil]
  refine ⟨[], rfl, _, om (ne_nil_ints []), _, rfl, ?_⟩
  rw [if_neg (by decide)]
  refine ⟨8, rfl, by decide, ?_⟩
  refine for_inv (fun j σ T => (∃ (o2 o3 o4 o5 o6 o7 o8 : Option W), σ = [some (.s (ns.map PyData.int)), some (.r 0), o2, o3, o4, o5, o6, o7, o8]) ∧ Rdr (RdO ns) 0 S T) (rng 0 8) 0 _ _ ⟨⟨_, _, _, _, _, _, _, rfl⟩, r0⟩ (fun _ _ _ => trivial) ?_
  rintro j y σ T hy ⟨⟨o2, o3, o4, o5, o6, o7, o8, rfl⟩, hr⟩
  refine ⟨_, rfl, ?_⟩
  simp only [RetS_cons, RetS_nil, RetS_set, RetS_drop, RetS_ret, RetS_if, RetS_asg, RetS_par, RetS_put, RetS_nx, RetS_rt, Ret_dFn, Ret_dCons, Ret_dNil, Ret_dBin, Ret_dUn, Ret_dCall, Ret_dCallN, Ret_dC, Ret_dG, Ret_dVar, Ret_dIf, Ret_dFz, Ret_dNew, Ret_dLst, Ret_dTup, Ret_dB, Ret_dAndT, Ret_dOrT, Ret_dNotT, Ret_dAnd, Ret_dOr, Ret_dNot, Ret_dIsi, Ret_dChain, Ret_dGet, Ret_dD0, Ret_dNoP, Ret_dPt, Ret_dSlA, Ret_dMeth, Ret_dAny, Ret_dLenSet, Ret_dZip, Ret_dZipL, Ret_dKeys, Ret_dRng1, Ret_dRng2, Ret_dLc, wipeW, Ret_dDc, Ret_dItems, Ret_dSortSet, Ret_dFnK, RetS_for, Ret_ok, startW, List.map_cons, List.map_nil, List.length_cons, List.length_nil, List.cons_append, List.nil_append, List.replicate, Nat.sub_self, Nat.reduceSub, Nat.reduceAdd, List.getElem?_cons_zero, List.getElem?_cons_succ, List.set_cons_zero, List.set_cons_succ, Option.some.injEq, exists_eq_left', rd_d, on2_d, on1_d, c1_d, bOf_b, exists_eq_left, Option.map_some, Option.bind_some, W.d.injEq, Ret_gcd, List.take_length, dIx]
  refine (table_ok hk hr).mono ?_
  rintro _ T1 ⟨⟨n, g, rfl, n1, n3, tg⟩, h1⟩
  refine (pairs_ok tg n3 n1 T1).mono ?_
  rintro _ _ ⟨⟨ev, rfl, he, hpos⟩, rfl⟩
  refine (purse_ok hk h1 he hpos).mono ?_
  rintro _ T2 ⟨⟨cs, rfl, hl, hcs⟩, h2⟩
  obtain ⟨L, rfl, hL⟩ := coins_of hcs
  rw [List.length_map] at hl
  refine ⟨5, rfl, by decide, ?_⟩
  refine for_inv (fun i σ T => (∃ (o6 : Option W), σ = [some (.s (ns.map PyData.int)), some (.r 0), o2, some (.d y), some (.d (.list ev)), some (.d (.tuple (L.map coinD))), o6, o7, o8]) ∧ Rdr (RdO ns) 0 S T) (rng 0 5) 0 _ _ ⟨⟨_, rfl⟩, h2⟩ ?_ ?_
  · rintro σ T3 ⟨⟨o6, rfl⟩, h3⟩
    simp only [RetS_cons, RetS_nil, RetS_set, RetS_drop, RetS_ret, RetS_if, RetS_asg, RetS_par, RetS_put, RetS_nx, RetS_rt, Ret_dFn, Ret_dCons, Ret_dNil, Ret_dBin, Ret_dUn, Ret_dCall, Ret_dCallN, Ret_dC, Ret_dG, Ret_dVar, Ret_dIf, Ret_dFz, Ret_dNew, Ret_dLst, Ret_dTup, Ret_dB, Ret_dAndT, Ret_dOrT, Ret_dNotT, Ret_dAnd, Ret_dOr, Ret_dNot, Ret_dIsi, Ret_dChain, Ret_dGet, Ret_dD0, Ret_dNoP, Ret_dPt, Ret_dSlA, Ret_dMeth, Ret_dAny, Ret_dLenSet, Ret_dZip, Ret_dZipL, Ret_dKeys, Ret_dRng1, Ret_dRng2, Ret_dLc, wipeW, Ret_dDc, Ret_dItems, Ret_dSortSet, Ret_dFnK, RetS_for, Ret_ok, startW, List.map_cons, List.map_nil, List.length_cons, List.length_nil, List.cons_append, List.nil_append, List.replicate, Nat.sub_self, Nat.reduceSub, Nat.reduceAdd, List.getElem?_cons_zero, List.getElem?_cons_succ, List.set_cons_zero, List.set_cons_succ, Option.some.injEq, exists_eq_left', rd_d, on2_d, on1_d, c1_d, bOf_b, exists_eq_left, Option.map_some, Option.bind_some, W.d.injEq, Ret_gcd, List.take_length, dIx]
    refine ⟨(ev, none), rfl, ?_⟩
    refine (lc_inv (fun j acc T => T = T3 ∧ acc.length ≤ j ∧ ∀ p ∈ acc, Row 2 p) ev 0 [] T3 ⟨rfl, Nat.le_refl _, fun q hq => nomatch hq⟩ ?_).mono ?_
    · rintro j p acc T hp ⟨rfl, a1, a2⟩
      have hpr := he.1 p (List.mem_of_getElem? hp)
      refine ⟨_, rfl, ?_⟩
      simp only [RetS_cons, RetS_nil, RetS_set, RetS_drop, RetS_ret, RetS_if, RetS_asg, RetS_par, RetS_put, RetS_nx, RetS_rt, Ret_dFn, Ret_dCons, Ret_dNil, Ret_dBin, Ret_dUn, Ret_dCall, Ret_dCallN, Ret_dC, Ret_dG, Ret_dVar, Ret_dIf, Ret_dFz, Ret_dNew, Ret_dLst, Ret_dTup, Ret_dB, Ret_dAndT, Ret_dOrT, Ret_dNotT, Ret_dAnd, Ret_dOr, Ret_dNot, Ret_dIsi, Ret_dChain, Ret_dGet, Ret_dD0, Ret_dNoP, Ret_dPt, Ret_dSlA, Ret_dMeth, Ret_dAny, Ret_dLenSet, Ret_dZip, Ret_dZipL, Ret_dKeys, Ret_dRng1, Ret_dRng2, Ret_dLc, wipeW, Ret_dDc, Ret_dItems, Ret_dSortSet, Ret_dFnK, RetS_for, Ret_ok, startW, List.map_cons, List.map_nil, List.length_cons, List.length_nil, List.cons_append, List.nil_append, List.replicate, Nat.sub_self, Nat.reduceSub, Nat.reduceAdd, List.getElem?_cons_zero, List.getElem?_cons_succ, List.set_cons_zero, List.set_cons_succ, Option.some.injEq, exists_eq_left', rd_d, on2_d, on1_d, c1_d, bOf_b, exists_eq_left, Option.map_some, Option.bind_some, W.d.injEq, Ret_gcd, List.take_length, dIx]
      refine ⟨[p], rfl, ?_⟩
      refine (reach_ok hL hpr T).mono ?_
      rintro _ _ ⟨⟨n, rfl⟩, rfl⟩
      refine ⟨_, rfl, _, rfl, ?_⟩
      split
      · refine ⟨rfl, by simp; omega, fun q hq => ?_⟩
        rcases List.mem_append.mp hq with hq | hq
        · exact a2 q hq
        · rw [List.mem_singleton.mp hq]; exact hpr
      · exact ⟨rfl, by omega, a2⟩
    · rintro acc T4 ⟨rfl, a1, a2⟩
      have hel := he.2
      obtain ⟨ys, y1, y2⟩ := sortSet_ok a2 (by omega)
      refine ⟨acc, rfl, ys, y1, ?_⟩
      have hp1 : Prs 5 (cutG ys none (some (4 : Int))) := ⟨fun p hp => y2 p (cut_mem hp), by
        have := cut_hi ys 4
        rw [show ((4 : Nat) : Int) = 4 from rfl] at this
        rw [this, List.length_take]; omega⟩
      have hp2 : Prs 5 (cutG ys.reverse none (some (4 : Int))) := ⟨fun p hp => y2 p (List.mem_reverse.mp (cut_mem hp)), by
        have := cut_hi ys.reverse 4
        rw [show ((4 : Nat) : Int) = 4 from rfl] at this
        rw [this, List.length_take]; omega⟩
      refine ⟨_, rfl, _, rfl, _, rfl, (agrees_ok hL hl hp1 T4).mono ?_⟩
      rintro _ _ ⟨rfl, rfl⟩
      refine ⟨true, rfl, ?_⟩
      rw [if_neg (by decide)]
      refine ⟨_, rfl, _, rfl, _, rfl, _, rfl, _, rfl, (agrees_ok hL hl hp2 _).mono ?_⟩
      rintro _ _ ⟨rfl, rfl⟩
      refine ⟨true, rfl, ?_⟩
      rw [if_neg (by decide)]
      exact ⟨⟨_, _, _, _, _, _, _, rfl⟩, h3⟩
  · rintro i z σ T3 hz ⟨⟨o6, rfl⟩, h3⟩
    refine ⟨_, rfl, ?_⟩
    simp only [RetS_cons, RetS_nil, RetS_set, RetS_drop, RetS_ret, RetS_if, RetS_asg, RetS_par, RetS_put, RetS_nx, RetS_rt, Ret_dFn, Ret_dCons, Ret_dNil, Ret_dBin, Ret_dUn, Ret_dCall, Ret_dCallN, Ret_dC, Ret_dG, Ret_dVar, Ret_dIf, Ret_dFz, Ret_dNew, Ret_dLst, Ret_dTup, Ret_dB, Ret_dAndT, Ret_dOrT, Ret_dNotT, Ret_dAnd, Ret_dOr, Ret_dNot, Ret_dIsi, Ret_dChain, Ret_dGet, Ret_dD0, Ret_dNoP, Ret_dPt, Ret_dSlA, Ret_dMeth, Ret_dAny, Ret_dLenSet, Ret_dZip, Ret_dZipL, Ret_dKeys, Ret_dRng1, Ret_dRng2, Ret_dLc, wipeW, Ret_dDc, Ret_dItems, Ret_dSortSet, Ret_dFnK, RetS_for, Ret_ok, startW, List.map_cons, List.map_nil, List.length_cons, List.length_nil, List.cons_append, List.nil_append, List.replicate, Nat.sub_self, Nat.reduceSub, Nat.reduceAdd, List.getElem?_cons_zero, List.getElem?_cons_succ, List.set_cons_zero, List.set_cons_succ, Option.some.injEq, exists_eq_left', rd_d, on2_d, on1_d, c1_d, bOf_b, exists_eq_left, Option.map_some, Option.bind_some, W.d.injEq, Ret_gcd, List.take_length, dIx]
    refine (wanted_ok hk h3 he).mono ?_
    rintro _ T4 ⟨⟨ps, rfl, hp⟩, h4⟩
    refine (agrees_ok hL hl hp T4).mono ?_
    rintro _ _ ⟨rfl, rfl⟩
    refine ⟨true, rfl, ?_⟩
    rw [if_neg (by decide)]
    exact ⟨⟨_, rfl⟩, h4⟩
end LK16
end

section
/-! part LK16e -/
set_option Elab.async false
set_option linter.all false
set_option maxRecDepth 100000
namespace LK16
open CL
open PySem PySem.Spec PyProof.Rows L2
theorem all_mk {w : World} {K : PySem.W.Frag} {h : Heap} {mg : Str → Option Value} {fa : Addr} (X : K.In h) (G : h.Ns mainGlobals mg) (hfa : mg "law" = some (.ref fa))
    {f0 : Addr} {od0 an0 : Option Addr} {sl0 : Array (Option Value)} {oc0 kV0 dc0 pm0 cd0 ct0 : Value}
    (a0 : PySem.W.nsIn K mainGlobals "_law_feed" = some (some (.ref f0))) (l0 : K.lookup f0 = some ⟨oc0, od0, .func (PySem.W.fnOf "_law_feed" "_law_feed" (defArgs st_l_feed) (defBody st_l_feed) (defScope st_l_feed) .none kV0 dc0 pm0 an0 cd0 ct0), sl0⟩) (c0 : PySem.W.codeIn K cd0 "_law_feed" = true) (k0 : PySem.W.keepIn K (.ref f0) = true)
    {f1 : Addr} {od1 an1 : Option Addr} {sl1 : Array (Option Value)} {oc1 kV1 dc1 pm1 cd1 ct1 : Value}
    (a1 : PySem.W.nsIn K mainGlobals "_law_pairs" = some (some (.ref f1))) (l1 : K.lookup f1 = some ⟨oc1, od1, .func (PySem.W.fnOf "_law_pairs" "_law_pairs" (defArgs st_l_pairs) (defBody st_l_pairs) (defScope st_l_pairs) .none kV1 dc1 pm1 an1 cd1 ct1), sl1⟩) (c1 : PySem.W.codeIn K cd1 "_law_pairs" = true) (k1 : PySem.W.keepIn K (.ref f1) = true)
    {f2 : Addr} {od2 an2 : Option Addr} {sl2 : Array (Option Value)} {oc2 kV2 dc2 pm2 cd2 ct2 : Value}
    (a2 : PySem.W.nsIn K mainGlobals "_law_draw" = some (some (.ref f2))) (l2 : K.lookup f2 = some ⟨oc2, od2, .func (PySem.W.fnOf "_law_draw" "_law_draw" (defArgs st_l_draw) (defBody st_l_draw) (defScope st_l_draw) .none kV2 dc2 pm2 an2 cd2 ct2), sl2⟩) (c2 : PySem.W.codeIn K cd2 "_law_draw" = true) (k2 : PySem.W.keepIn K (.ref f2) = true)
    {f3 : Addr} {od3 an3 : Option Addr} {sl3 : Array (Option Value)} {oc3 kV3 dc3 pm3 cd3 ct3 : Value}
    (a3 : PySem.W.nsIn K mainGlobals "_law_choice" = some (some (.ref f3))) (l3 : K.lookup f3 = some ⟨oc3, od3, .func (PySem.W.fnOf "_law_choice" "_law_choice" (defArgs st_l_choice) (defBody st_l_choice) (defScope st_l_choice) .none kV3 dc3 pm3 an3 cd3 ct3), sl3⟩) (c3 : PySem.W.codeIn K cd3 "_law_choice" = true) (k3 : PySem.W.keepIn K (.ref f3) = true)
    {f4 : Addr} {od4 an4 : Option Addr} {sl4 : Array (Option Value)} {oc4 kV4 dc4 pm4 cd4 ct4 : Value}
    (a4 : PySem.W.nsIn K mainGlobals "_law_scope" = some (some (.ref f4))) (l4 : K.lookup f4 = some ⟨oc4, od4, .func (PySem.W.fnOf "_law_scope" "_law_scope" (defArgs st_l_scope) (defBody st_l_scope) (defScope st_l_scope) .none kV4 dc4 pm4 an4 cd4 ct4), sl4⟩) (c4 : PySem.W.codeIn K cd4 "_law_scope" = true) (k4 : PySem.W.keepIn K (.ref f4) = true)
    {f5 : Addr} {od5 an5 : Option Addr} {sl5 : Array (Option Value)} {oc5 kV5 dc5 pm5 cd5 ct5 : Value}
    (a5 : PySem.W.nsIn K mainGlobals "_law_purse" = some (some (.ref f5))) (l5 : K.lookup f5 = some ⟨oc5, od5, .func (PySem.W.fnOf "_law_purse" "_law_purse" (defArgs st_l_purse) (defBody st_l_purse) (defScope st_l_purse) .none kV5 dc5 pm5 an5 cd5 ct5), sl5⟩) (c5 : PySem.W.codeIn K cd5 "_law_purse" = true) (k5 : PySem.W.keepIn K (.ref f5) = true)
    {f6 : Addr} {od6 an6 : Option Addr} {sl6 : Array (Option Value)} {oc6 kV6 dc6 pm6 cd6 ct6 : Value}
    (a6 : PySem.W.nsIn K mainGlobals "_law_table" = some (some (.ref f6))) (l6 : K.lookup f6 = some ⟨oc6, od6, .func (PySem.W.fnOf "_law_table" "_law_table" (defArgs st_l_table) (defBody st_l_table) (defScope st_l_table) .none kV6 dc6 pm6 an6 cd6 ct6), sl6⟩) (c6 : PySem.W.codeIn K cd6 "_law_table" = true) (k6 : PySem.W.keepIn K (.ref f6) = true)
    {f7 : Addr} {od7 an7 : Option Addr} {sl7 : Array (Option Value)} {oc7 kV7 dc7 pm7 cd7 ct7 : Value}
    (a7 : PySem.W.nsIn K mainGlobals "_law_by_hand" = some (some (.ref f7))) (l7 : K.lookup f7 = some ⟨oc7, od7, .func (PySem.W.fnOf "_law_by_hand" "_law_by_hand" (defArgs st_l_by_hand) (defBody st_l_by_hand) (defScope st_l_by_hand) .none kV7 dc7 pm7 an7 cd7 ct7), sl7⟩) (c7 : PySem.W.codeIn K cd7 "_law_by_hand" = true) (k7 : PySem.W.keepIn K (.ref f7) = true)
    {f8 : Addr} {od8 an8 : Option Addr} {sl8 : Array (Option Value)} {oc8 kV8 dc8 pm8 cd8 ct8 : Value}
    (a8 : PySem.W.nsIn K mainGlobals "_law_payments" = some (some (.ref f8))) (l8 : K.lookup f8 = some ⟨oc8, od8, .func (PySem.W.fnOf "_law_payments" "_law_payments" (defArgs st_l_payments) (defBody st_l_payments) (defScope st_l_payments) .none kV8 dc8 pm8 an8 cd8 ct8), sl8⟩) (c8 : PySem.W.codeIn K cd8 "_law_payments" = true) (k8 : PySem.W.keepIn K (.ref f8) = true)
    {f9 : Addr} {od9 an9 : Option Addr} {sl9 : Array (Option Value)} {oc9 kV9 dc9 pm9 cd9 ct9 : Value}
    (a9 : PySem.W.nsIn K mainGlobals "find_coin" = some (some (.ref f9))) (l9 : K.lookup f9 = some ⟨oc9, od9, .func (PySem.W.fnOf "find_coin" "find_coin" (defArgs st_find_coin) (defBody st_find_coin) (defScope st_find_coin) .none kV9 dc9 pm9 an9 cd9 ct9), sl9⟩) (c9 : PySem.W.codeIn K cd9 "find_coin" = true) (k9 : PySem.W.keepIn K (.ref f9) = true)
    {f10 : Addr} {od10 an10 : Option Addr} {sl10 : Array (Option Value)} {oc10 kV10 dc10 pm10 cd10 ct10 : Value}
    (a10 : PySem.W.nsIn K mainGlobals "coins_for" = some (some (.ref f10))) (l10 : K.lookup f10 = some ⟨oc10, od10, .func (PySem.W.fnOf "coins_for" "coins_for" (defArgs st_coins_for) (defBody st_coins_for) (defScope st_coins_for) .none kV10 dc10 pm10 an10 cd10 ct10), sl10⟩) (c10 : PySem.W.codeIn K cd10 "coins_for" = true) (k10 : PySem.W.keepIn K (.ref f10) = true)
    {f11 : Addr} {od11 an11 : Option Addr} {sl11 : Array (Option Value)} {oc11 kV11 dc11 pm11 cd11 ct11 : Value}
    (a11 : PySem.W.nsIn K mainGlobals "_law_agrees" = some (some (.ref f11))) (l11 : K.lookup f11 = some ⟨oc11, od11, .func (PySem.W.fnOf "_law_agrees" "_law_agrees" (defArgs st_l_agrees) (defBody st_l_agrees) (defScope st_l_agrees) .none kV11 dc11 pm11 an11 cd11 ct11), sl11⟩) (c11 : PySem.W.codeIn K cd11 "_law_agrees" = true) (k11 : PySem.W.keepIn K (.ref f11) = true)
    {f12 : Addr} {od12 an12 : Option Addr} {sl12 : Array (Option Value)} {oc12 kV12 dc12 pm12 cd12 ct12 : Value}
    (a12 : PySem.W.nsIn K mainGlobals "_law_wanted" = some (some (.ref f12))) (l12 : K.lookup f12 = some ⟨oc12, od12, .func (PySem.W.fnOf "_law_wanted" "_law_wanted" (defArgs st_l_wanted) (defBody st_l_wanted) (defScope st_l_wanted) .none kV12 dc12 pm12 an12 cd12 ct12), sl12⟩) (c12 : PySem.W.codeIn K cd12 "_law_wanted" = true) (k12 : PySem.W.keepIn K (.ref f12) = true)
    {f13 : Addr} {od13 an13 : Option Addr} {sl13 : Array (Option Value)} {oc13 kV13 dc13 pm13 cd13 ct13 : Value}
    (a13 : PySem.W.nsIn K mainGlobals "_law_reachable" = some (some (.ref f13))) (l13 : K.lookup f13 = some ⟨oc13, od13, .func (PySem.W.fnOf "_law_reachable" "_law_reachable" (defArgs st_l_reachable) (defBody st_l_reachable) (defScope st_l_reachable) .none kV13 dc13 pm13 an13 cd13 ct13), sl13⟩) (c13 : PySem.W.codeIn K cd13 "_law_reachable" = true) (k13 : PySem.W.keepIn K (.ref f13) = true)
    {f14 : Addr} {od14 an14 : Option Addr} {sl14 : Array (Option Value)} {oc14 kV14 dc14 pm14 cd14 ct14 : Value}
    (a14 : PySem.W.nsIn K mainGlobals "law" = some (some (.ref f14))) (l14 : K.lookup f14 = some ⟨oc14, od14, .func (PySem.W.fnOf "law" "law" (defArgs st_law) (defBody st_law) (defScope st_law) .none kV14 dc14 pm14 an14 cd14 ct14), sl14⟩) (c14 : PySem.W.codeIn K cd14 "law" = true) (k14 : PySem.W.keepIn K (.ref f14) = true)
    (z_len : PySem.W.nsIn K mainGlobals "len" = some none)
    (z_list : PySem.W.nsIn K mainGlobals "list" = some none)
    (z_min : PySem.W.nsIn K mainGlobals "min" = some none)
    (z_range : PySem.W.nsIn K mainGlobals "range" = some none)
    (z_repr : PySem.W.nsIn K mainGlobals "repr" = some none)
    (z_set : PySem.W.nsIn K mainGlobals "set" = some none)
    (z_sorted : PySem.W.nsIn K mainGlobals "sorted" = some none)
    (z_tuple : PySem.W.nsIn K mainGlobals "tuple" = some none)
    (z_zip : PySem.W.nsIn K mainGlobals "zip" = some none)
    : ∃ fd : FuncData, (∀ (s : Shared) (v : Value), BindsTo s fd ⟨[v], []⟩ [("_law_script", v)]) ∧ ∀ base : Heap, K.In base → base.Ns mainGlobals mg → FnG PySem.Challenge.pw_chosenlast_k16_coins_found w K mg base CX0 10 fa fd ["_law_script"] (spF K mg f_law) := by
  have e := hfa.symm.trans (PySem.W.mg_of X G a14)
  cases e
  have M : Mo K mg := ⟨defG_mk X G a0 l0 c0 k0 fun _ _ _ _ _ _ us hl => match us, hl with | [_], _ => rfl,
    defG_mk X G a1 l1 c1 k1 fun _ _ _ _ _ _ us hl => match us, hl with | [_], _ => rfl,
    defG_mk X G a2 l2 c2 k2 fun _ _ _ _ _ _ us hl => match us, hl with | [_, _], _ => rfl,
    defG_mk X G a3 l3 c3 k3 fun _ _ _ _ _ _ us hl => match us, hl with | [_, _], _ => rfl,
    defG_mk X G a4 l4 c4 k4 fun _ _ _ _ _ _ us hl => match us, hl with | [_, _, _], _ => rfl,
    defG_mk X G a5 l5 c5 k5 fun _ _ _ _ _ _ us hl => match us, hl with | [_, _, _], _ => rfl,
    defG_mk X G a6 l6 c6 k6 fun _ _ _ _ _ _ us hl => match us, hl with | [_, _], _ => rfl,
    defG_mk X G a7 l7 c7 k7 fun _ _ _ _ _ _ us hl => match us, hl with | [], _ => rfl,
    defG_mk X G a8 l8 c8 k8 fun _ _ _ _ _ _ us hl => match us, hl with | [_, _], _ => rfl,
    defG_mk X G a9 l9 c9 k9 fun _ _ _ _ _ _ us hl => match us, hl with | [_, _, _, _, _], _ => rfl,
    defG_mk X G a10 l10 c10 k10 fun _ _ _ _ _ _ us hl => match us, hl with | [_, _], _ => rfl,
    defG_mk X G a11 l11 c11 k11 fun _ _ _ _ _ _ us hl => match us, hl with | [_, _], _ => rfl,
    defG_mk X G a12 l12 c12 k12 fun _ _ _ _ _ _ us hl => match us, hl with | [_, _, _], _ => rfl,
    defG_mk X G a13 l13 c13 k13 fun _ _ _ _ _ _ us hl => match us, hl with | [_, _], _ => rfl,
    defG_mk X G a14 l14 c14 k14 fun _ _ _ _ _ _ us hl => match us, hl with | [_], _ => rfl,
    PySem.W.mg_none_of X G z_len,
    PySem.W.mg_none_of X G z_list,
    PySem.W.mg_none_of X G z_min,
    PySem.W.mg_none_of X G z_range,
    PySem.W.mg_none_of X G z_repr,
    PySem.W.mg_none_of X G z_set,
    PySem.W.mg_none_of X G z_sorted,
    PySem.W.mg_none_of X G z_tuple,
    PySem.W.mg_none_of X G z_zip⟩
  have F := fun_mk (st := st_law) l14 c14 k14
  exact ⟨_, fun s v => .of_eq rfl, fun base _ _ => g_law M F⟩
end LK16
open PySem PySem.W PyProof.Rows
set_option maxHeartbeats 0 in
theorem PySem.Challenge.cw_chosenlast_k16_coins_found_holds : PySem.Challenge.rw_chosenlast_k16_coins_found.Holds := by
  w_on; o_law; k_head; (case hw => w_witness2)
  k_fill
  refine CL.walkG (l := PySem.Challenge.rw_chosenlast_k16_coins_found) (n := 63) (k := 10) (x := "_law_script") (CX := fun _ => L2.CX0) (sp := fun w mg => CL.spF _ mg LK16.f_law) rfl (by decide) rfl ⟨rfl, by decide, by decide⟩ (fun w h Y => PySem.W.kIn_of Y) ?F (fun w mg H a ns hl h => CL.law_sp LK16.law_true _ mg H a ns hl h) (fun _ _ _ _ _ h => h)
  case F =>
    intro w mg fa h KX G hmg
    refine' LK16.all_mk KX G hmg ?a0 ?l0 ?c0 ?k0 ?a1 ?l1 ?c1 ?k1 ?a2 ?l2 ?c2 ?k2 ?a3 ?l3 ?c3 ?k3 ?a4 ?l4 ?c4 ?k4 ?a5 ?l5 ?c5 ?k5 ?a6 ?l6 ?c6 ?k6 ?a7 ?l7 ?c7 ?k7 ?a8 ?l8 ?c8 ?k8 ?a9 ?l9 ?c9 ?k9 ?a10 ?l10 ?c10 ?k10 ?a11 ?l11 ?c11 ?k11 ?a12 ?l12 ?c12 ?k12 ?a13 ?l13 ?c13 ?k13 ?a14 ?l14 ?c14 ?k14 ?z_len ?z_list ?z_min ?z_range ?z_repr ?z_set ?z_sorted ?z_tuple ?z_zip
    (case a0 => k_is); (case l0 => k_is); (case c0 => k_is); (case k0 => k_is); (case a1 => k_is); (case l1 => k_is); (case c1 => k_is); (case k1 => k_is); (case a2 => k_is); (case l2 => k_is); (case c2 => k_is); (case k2 => k_is); (case a3 => k_is); (case l3 => k_is); (case c3 => k_is); (case k3 => k_is); (case a4 => k_is); (case l4 => k_is); (case c4 => k_is); (case k4 => k_is); (case a5 => k_is); (case l5 => k_is); (case c5 => k_is); (case k5 => k_is); (case a6 => k_is); (case l6 => k_is); (case c6 => k_is); (case k6 => k_is); (case a7 => k_is); (case l7 => k_is); (case c7 => k_is); (case k7 => k_is); (case a8 => k_is); (case l8 => k_is); (case c8 => k_is); (case k8 => k_is); (case a9 => k_is); (case l9 => k_is); (case c9 => k_is); (case k9 => k_is); (case a10 => k_is); (case l10 => k_is); (case c10 => k_is); (case k10 => k_is); (case a11 => k_is); (case l11 => k_is); (case c11 => k_is); (case k11 => k_is); (case a12 => k_is); (case l12 => k_is); (case c12 => k_is); (case k12 => k_is); (case a13 => k_is); (case l13 => k_is); (case c13 => k_is); (case k13 => k_is); (case a14 => k_is); (case l14 => k_is); (case c14 => k_is); (case k14 => k_is); (case z_len => k_is); (case z_list => k_is); (case z_min => k_is); (case z_range => k_is); (case z_repr => k_is); (case z_set => k_is); (case z_sorted => k_is); (case z_tuple => k_is); (case z_zip => k_is)
end
