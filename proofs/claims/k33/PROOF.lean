import PyProof.Rows.All
import HandS.ForMost
import HandS.CallLocal
import HandS.Style
import HandS.TupAny
import HandS.Deep
import HandS.Text
import KE.LtData
import KE.SortData
import PyProof.Rows.IntBool
import HandS.IsInst
import HandS.Codes
import HandS.More
import HandS.Zip
import HandS.RaiseMore
import PyProof.ReprRoads
import HandS.Strs
import HandS.Conv
import KE.KDictKeyed
import KE.DataMinMax
import KE.KDictSum
import PyProof.CallFns
import PyProof.CallStr
import HandS.Words
import HandS.ExcInitHot
import HandS.TryOnly
import HandS.DictComp
import HandS.SortKw
import KE.SortKeyHeap
import HandS.TupSets
import KE.KDictDisplayH
import PyProof.ReprBulk
import PySem.Challenge.RW_chosenlast_k33_paths_told
section
/-! part CLBase -/
set_option Elab.async false
set_option linter.all false
set_option maxRecDepth 100000
/-! CLBase: plain values, a numbered store, and what it means that a heap bears them. -/
namespace CL
open PySem PySem.Spec PyProof.Rows L2

/-- an exception: its class's name, its fields -/
structure XV where
  cls : Str
  fs : List (Str × PyData)
/-- a value: data, an object of the store by its number, a def of the module by its name, the script; a pair of an object of the store and data; the exception that a suite holds -/
inductive W where
  | d (x : PyData)
  | r (n : Nat)
  | g (x : Str)
  | s (xs : List PyData)
  | p (n : Nat) (x : PyData)
  | x (e : XV)
/-- an object that may change -/
inductive O where
  | lst (xs : List PyData)
  | dk (kvs : List (Key × PyData))
  | dt (kvs : List (List Key × PyData))
  | lkK (kvs : List (Key × PyData))
  | lkT (kvs : List (List Key × PyData))

abbrev En := List (Option W)
abbrev So := List O
/-- a step's end -/
inductive RE (α : Type) where
  | ok (a : α) (S : So)
  | xc (x : XV) (S : So)
abbrev M (α : Type) := Option (RE α)
def bnd {α β : Type} (m : M α) (f : α → So → M β) : M β := match m with
  | none => none
  | some (.xc x S) => some (.xc x S)
  | some (.ok a S) => f a S
@[simp] theorem bnd_ok {α β : Type} (a : α) (S : So) (f : α → So → M β) : bnd (some (.ok a S)) f = f a S := rfl
@[simp] theorem bnd_xc {α β : Type} (x : XV) (S : So) (f : α → So → M β) : bnd (some (.xc x S)) f = some (.xc x S) := rfl
@[simp] theorem bnd_none {α β : Type} (f : α → So → M β) : bnd none f = none := rfl
/-- a pure value at the store as it is -/
def giv {α : Type} (o : Option α) (S : So) : M α := match o with
  | none => none
  | some a => some (.ok a S)
@[simp] theorem giv_some {α : Type} (a : α) (S : So) : giv (some a) S = some (.ok a S) := rfl
@[simp] theorem giv_none {α : Type} (S : So) : giv (none : Option α) S = none := rfl
abbrev DE := En → So → M W
abbrev DT := En → So → M Bool
abbrev DA := En → So → M (List W)
inductive Out where
  | nx (σ : En) (S : So)
  | rt (w : W) (S : So)
  | bk (σ : En) (S : So)
  | ct (σ : En) (S : So)
  | xc (x : XV) (σ : En) (S : So)
abbrev DS := En → So → Option Out
/-- a def: from its arguments and the store -/
abbrev DF := List W → So → M W

/-- a dict that is walked just now is locked -/
def notLk : Option O → Prop
  | some (.lkK _) => False
  | some (.lkT _) => False
  | _ => True
/-- where the store's objects stand (l), and lists that are being made just now (h) -/
structure Fi where
  l : List Addr
  h : List Addr
def Fi.push (φ : Fi) (p : Addr) : Fi := ⟨φ.l ++ [p], φ.h⟩
def Fi.hide (φ : Fi) (p : Addr) : Fi := ⟨φ.l, p :: φ.h⟩

/-! ### the relation -/
section
variable (K : PySem.W.Frag) (H : Hp) (φ : Fi)
/-- a list that nobody changes -/
def FL (a : Addr) (vs : List V) : Prop := Rd H a (.lst vs) ∧ a ∉ φ.l ∧ a ∉ φ.h
/-- a tuple that the walk made -/
def TP (_ : PySem.W.Frag) (H : Hp) (a : Addr) (vs : List V) : Prop := H a = some (.tup vs)
/-- a list of the written part -/
def KL (a : Addr) (vs : List V) : Prop :=
  ∃ (o : Obj) (its : Array Value) (n : Nat), K.lookup a = some o ∧ o.cls = .type "list" ∧ o.dict = none ∧ o.data = .seq its n ∧ its.size ≤ sizeLine ∧ Vals vs its.toList
mutual
def RD : PyData → V → Prop
  | .none, v => v = .non
  | .bool b, v => v = .bl b
  | .int i, v => v = .int i
  | .str s, v => v = .str s
  | .list ds, v => ∃ a vs, v = .ref a ∧ FL H φ a vs ∧ RDs ds vs
  | .tuple ds, v => ∃ a vs, v = .ref a ∧ TP K H a vs ∧ RDs ds vs
  | .dict _, _ => False
def RDs : List PyData → List V → Prop
  | [], vs => vs = []
  | d :: ds, vs => ∃ v r, vs = v :: r ∧ RD d v ∧ RDs ds r
end
def OR (a : Addr) : O → Prop
  | .lst xs => ∃ vs, H a = some (.lst vs) ∧ RDs K H φ xs vs
  | .dk kvs => ∃ es, H a = some (.dK es) ∧ es.map (·.1) = kvs.map (·.1) ∧ RDs K H φ (kvs.map (·.2)) (es.map (·.2))
  | .dt kvs => ∃ es, H a = some (.dT es) ∧ es.map (·.1) = kvs.map (·.1) ∧ RDs K H φ (kvs.map (·.2)) (es.map (·.2))
  | .lkK kvs => ∃ es, (∃ od, H a = some (.frz od (.dK es))) ∧ es.map (·.1) = kvs.map (·.1) ∧ RDs K H φ (kvs.map (·.2)) (es.map (·.2))
  | .lkT kvs => ∃ es, (∃ od, H a = some (.frz od (.dT es))) ∧ es.map (·.1) = kvs.map (·.1) ∧ RDs K H φ (kvs.map (·.2)) (es.map (·.2))
variable (mg : Str → Option Value)
/-- the exception's own names -/
def exA : Str := ⟨#[0, 1]⟩
def exC : Str := ⟨#[0, 2]⟩
def exD : Str := ⟨#[0, 3]⟩
/-- the caught exception, its class, its dict -/
def XO (e : XV) (v : V) : Prop := ∃ a C dd es, mg exA = some (.ref a) ∧ mg exC = some (.ref C) ∧ mg exD = some (.ref dd) ∧ v = .ref a ∧ mg e.cls = some (.ref C) ∧ H dd = some (.xd es) ∧ dd ∉ φ.l ∧ es.map (·.1) = e.fs.map (·.1) ∧ RDs K H φ (e.fs.map (·.2)) (es.map (·.2))
def RW : W → V → Prop
  | .d x, v => RD K H φ x v
  | .r n, v => ∃ a, φ.l[n]? = some a ∧ v = .ref a
  | .g x, v => ∃ f, mg x = some (.ref f) ∧ v = .ref f
  | .s xs, v => ∃ a vs, v = .ref a ∧ (FL H φ a vs ∨ KL K a vs) ∧ RDs K H φ xs vs
  | .p n x, v => ∃ a b u, v = .ref a ∧ TP K H a [.ref b, u] ∧ φ.l[n]? = some b ∧ RD K H φ x u
  | .x e, v => XO K H φ mg e v
def RWs : List W → List V → Prop
  | [], vs => vs = []
  | w :: ws, vs => ∃ v r, vs = v :: r ∧ RW K H φ mg w v ∧ RWs ws r
structure SR (S : So) : Prop where
  len : φ.l.length = S.length
  nd : φ.l.Nodup
  ob : ∀ (i : Nat) (a : Addr) (o : O), φ.l[i]? = some a → S[i]? = some o → OR K H φ a o
  hid : ∀ b ∈ φ.h, b ∉ φ.l ∧ ∃ vs, H b = some (.lst vs)
structure ER (σV : L2.St) (σ : En) : Prop where
  len : σV.length = σ.length
  at_ : ∀ (i : Nat) (w : W), σ[i]? = some (some w) → ∃ v, σV[i]? = some (some v) ∧ RW K H φ mg w v
end
/-- what a step leaves -/
structure Ext (φ : Fi) (H : Hp) (φ' : Fi) (H' : Hp) : Prop where
  pre : φ.l <+: φ'.l
  hid : ∃ l, φ'.h = l ++ φ.h ∧ ∀ b ∈ l, H b = none
  trk : ∀ b, H' b = none → H b = none
  kept : ∀ b o, H b = some o → b ∉ φ.l → H' b = some o ∧ b ∉ φ'.l
  tups : ∀ b vs, H b = some (.tup vs) → H' b = some (.tup vs)
  frz : ∀ b o u, H b = some (.frz o u) → H' b = some (.frz o u)

section
variable {K : PySem.W.Frag} {H H' H2 : Hp} {φ φ' φ2 : Fi} {mg : Str → Option Value}
theorem Ext.refl : Ext φ H φ H := ⟨List.prefix_refl _, ⟨[], rfl, fun _ h => by cases h⟩, fun _ h => h, fun _ _ h n => ⟨h, n⟩, fun _ _ h => h, fun _ _ _ h => h⟩
theorem Ext.hsub (a : Ext φ H φ' H') {b : Addr} (h : b ∈ φ.h) : b ∈ φ'.h := by
  obtain ⟨l, e, _⟩ := a.hid; rw [e]; exact List.mem_append_right _ h
theorem Ext.nhid (a : Ext φ H φ' H') {b : Addr} (h : b ∉ φ.h) {o : HO} (t : H b = some o) : b ∉ φ'.h := by
  obtain ⟨l, e, q⟩ := a.hid
  rw [e]
  intro hm
  rcases List.mem_append.mp hm with hm | hm
  · rw [q b hm] at t; cases t
  · exact h hm
theorem Ext.trans (a : Ext φ H φ' H') (b : Ext φ' H' φ2 H2) : Ext φ H φ2 H2 :=
  ⟨a.pre.trans b.pre, by
    obtain ⟨l1, e1, q1⟩ := a.hid
    obtain ⟨l2, e2, q2⟩ := b.hid
    refine ⟨l2 ++ l1, by rw [e2, e1, List.append_assoc], fun c hc => ?_⟩
    rcases List.mem_append.mp hc with hc | hc
    · exact a.trk c (q2 c hc)
    · exact q1 c hc, fun c h => a.trk c (b.trk c h), fun c o h n => let ⟨h1, n1⟩ := a.kept c o h n; b.kept c o h1 n1, fun c vs h => b.tups c vs (a.tups c vs h), fun c o u h => b.frz c o u (a.frz c o u h)⟩
theorem FL.mono (e : Ext φ H φ' H') {a : Addr} {vs : List V} (h : FL H φ a vs) : FL H' φ' a vs := by
  obtain ⟨h | ⟨o, h⟩, n, m⟩ := h
  · obtain ⟨h1, n1⟩ := e.kept a _ h n; exact ⟨.inl h1, n1, e.nhid m h⟩
  · obtain ⟨h1, n1⟩ := e.kept a _ h n; exact ⟨.inr ⟨o, h1⟩, n1, e.nhid m h⟩
theorem TP.mono (e : Ext φ H φ' H') {a : Addr} {vs : List V} (h : TP K H a vs) : TP K H' a vs := e.tups a vs h
theorem TP.sq {a : Addr} {vs : List V} (h : TP K H a vs) : SqT K H a vs := .inl (.inl h)
mutual
theorem RD.mono (e : Ext φ H φ' H') : ∀ (d : PyData) (v : V), RD K H φ d v → RD K H' φ' d v
  | .none, _, h => h
  | .bool _, _, h => h
  | .int _, _, h => h
  | .str _, _, h => h
  | .list ds, _, ⟨a, vs, e1, h1, h2⟩ => ⟨a, vs, e1, h1.mono e, RDs.mono e ds vs h2⟩
  | .tuple ds, _, ⟨a, vs, e1, h1, h2⟩ => ⟨a, vs, e1, TP.mono e h1, RDs.mono e ds vs h2⟩
  | .dict _, _, h => h
theorem RDs.mono (e : Ext φ H φ' H') : ∀ (ds : List PyData) (vs : List V), RDs K H φ ds vs → RDs K H' φ' ds vs
  | [], _, h => h
  | d :: ds, _, ⟨v, r, e1, h1, h2⟩ => ⟨v, r, e1, RD.mono e d v h1, RDs.mono e ds r h2⟩
end
theorem FL.sq {a : Addr} {vs : List V} (h : FL H φ a vs) : SqL K H a vs := .inl h.1
theorem RDs.length : ∀ {ds : List PyData} {vs : List V}, RDs K H φ ds vs → vs.length = ds.length
  | [], _, h => by cases h; rfl
  | _ :: _, _, ⟨_, _, e, _, h⟩ => by subst e; simp [RDs.length h]
theorem RDs.get : ∀ {ds : List PyData} {vs : List V} {i : Nat} {d : PyData}, RDs K H φ ds vs → ds[i]? = some d → ∃ v, vs[i]? = some v ∧ RD K H φ d v
  | [], _, _, _, _, e => by simp at e
  | _ :: _, _, 0, _, ⟨v, r, e, h, _⟩, e2 => by subst e; simp at e2; subst e2; exact ⟨v, rfl, h⟩
  | _ :: _, _, i + 1, d, ⟨v, r, e, _, h⟩, e2 => by
    subst e
    obtain ⟨u, h1, h2⟩ := RDs.get (i := i) (d := d) h (by simpa using e2)
    exact ⟨u, by simpa using h1, h2⟩
theorem RDs.append : ∀ {ds es : List PyData} {vs us : List V}, RDs K H φ ds vs → RDs K H φ es us → RDs K H φ (ds ++ es) (vs ++ us)
  | [], _, _, _, h, h2 => by cases h; exact h2
  | _ :: _, _, _, _, ⟨v, r, e, h, t⟩, h2 => by subst e; exact ⟨v, _, rfl, h, RDs.append t h2⟩
theorem RDs.one {d : PyData} {v : V} (h : RD K H φ d v) : RDs K H φ [d] [v] := ⟨v, [], rfl, h, rfl⟩
theorem RDs.take : ∀ {ds : List PyData} {vs : List V} (n : Nat), RDs K H φ ds vs → RDs K H φ (ds.take n) (vs.take n)
  | _, _, 0, _ => by simp [RDs]
  | [], _, n + 1, h => by cases h; simp [RDs]
  | _ :: _, _, n + 1, ⟨v, r, e, h, t⟩ => by subst e; exact ⟨v, _, rfl, h, RDs.take n t⟩
theorem RDs.drop : ∀ {ds : List PyData} {vs : List V} (n : Nat), RDs K H φ ds vs → RDs K H φ (ds.drop n) (vs.drop n)
  | _, _, 0, h => h
  | [], _, n + 1, h => by cases h; simp [RDs]
  | _ :: _, _, n + 1, ⟨v, r, e, h, t⟩ => by subst e; exact RDs.drop n t
theorem RDs.reverse : ∀ {ds : List PyData} {vs : List V}, RDs K H φ ds vs → RDs K H φ ds.reverse vs.reverse
  | [], _, h => by cases h; simp [RDs]
  | _ :: _, _, ⟨v, r, e, h, t⟩ => by subst e; rw [List.reverse_cons, List.reverse_cons]; exact RDs.append (RDs.reverse t) (RDs.one h)
theorem RDs.eraseIdx : ∀ {ds : List PyData} {vs : List V} (n : Nat), RDs K H φ ds vs → RDs K H φ (ds.eraseIdx n) (vs.eraseIdx n)
  | [], _, n, h => by cases h; simp [RDs]
  | _ :: _, _, 0, ⟨v, r, e, _, t⟩ => by subst e; exact t
  | _ :: _, _, n + 1, ⟨v, r, e, h, t⟩ => by subst e; exact ⟨v, _, rfl, h, RDs.eraseIdx n t⟩
theorem RDs.set : ∀ {ds : List PyData} {vs : List V} (n : Nat) {d : PyData} {v : V}, RDs K H φ ds vs → RD K H φ d v → RDs K H φ (ds.set n d) (vs.set n v)
  | [], _, n, _, _, h, _ => by cases h; simp [RDs]
  | _ :: _, _, 0, _, u, ⟨v, r, e, _, t⟩, h2 => by subst e; exact ⟨u, r, rfl, h2, t⟩
  | _ :: _, _, n + 1, _, _, ⟨v, r, e, h, t⟩, h2 => by subst e; exact ⟨v, _, rfl, h, RDs.set n t h2⟩
mutual
theorem RD.dp : ∀ (d : PyData) (v : V), RD K H φ d v → Dp K H v d
  | .none, _, h => by cases h; exact .non
  | .bool _, _, h => by cases h; exact .bl _
  | .int _, _, h => by cases h; exact .int _
  | .str _, _, h => by cases h; exact .str _
  | .list ds, _, ⟨a, vs, e1, h1, h2⟩ => by subst e1; exact .lst h1.sq (RDs.dp ds vs h2)
  | .tuple ds, _, ⟨a, vs, e1, h1, h2⟩ => by subst e1; exact .tup h1.sq (RDs.dp ds vs h2)
  | .dict _, _, h => h.elim
theorem RDs.dp : ∀ (ds : List PyData) (vs : List V), RDs K H φ ds vs → DpAll K H vs ds
  | [], _, h => by cases h; exact .nil
  | d :: ds, _, ⟨v, r, e1, h1, h2⟩ => by subst e1; exact .cons (RD.dp d v h1) (RDs.dp ds r h2)
end
theorem RW.mono (e : Ext φ H φ' H') : ∀ {w : W} {v : V}, RW K H φ mg w v → RW K H' φ' mg w v
  | .d x, v, h => RD.mono e x v h
  | .r n, v, ⟨a, h1, h2⟩ => ⟨a, by
      obtain ⟨t, ht⟩ := e.pre
      rw [← ht, List.getElem?_append_left (by rw [List.getElem?_eq_some_iff] at h1; exact h1.1)]; exact h1, h2⟩
  | .g x, v, h => h
  | .s xs, v, ⟨a, vs, e1, h1, h2⟩ => ⟨a, vs, e1, h1.imp (fun q => q.mono e) id, RDs.mono e _ _ h2⟩
  | .p n x, v, ⟨a, b, u, e1, h1, h2, h3⟩ => ⟨a, b, u, e1, h1.mono e, by
      obtain ⟨t, ht⟩ := e.pre
      rw [← ht, List.getElem?_append_left (by rw [List.getElem?_eq_some_iff] at h2; exact h2.1)]; exact h2, RD.mono e x u h3⟩
  | .x xv, v, ⟨a, C, dd, es, e1, e2, e3, e4, e5, h1, h2, h3, h4⟩ => ⟨a, C, dd, es, e1, e2, e3, e4, e5, (e.kept dd _ h1 h2).1, (e.kept dd _ h1 h2).2, h3, RDs.mono e _ _ h4⟩
theorem RWs.mono (e : Ext φ H φ' H') : ∀ {ws : List W} {vs : List V}, RWs K H φ mg ws vs → RWs K H' φ' mg ws vs
  | [], _, h => h
  | w :: ws, _, ⟨v, r, e1, h1, h2⟩ => ⟨v, r, e1, RW.mono e h1, RWs.mono e h2⟩
theorem ER.mono (e : Ext φ H φ' H') {σV : L2.St} {σ : En} (h : ER K H φ mg σV σ) : ER K H' φ' mg σV σ :=
  ⟨h.len, fun i w q => let ⟨v, h1, h2⟩ := h.at_ i w q; ⟨v, h1, RW.mono e h2⟩⟩
theorem ER.set {σV : L2.St} {σ : En} (h : ER K H φ mg σV σ) {i : Nat} {w : W} {v : V} (hw : RW K H φ mg w v) : ER K H φ mg (σV.set i (some v)) (σ.set i (some w)) := by
  refine ⟨by simp [h.len], fun j w' q => ?_⟩
  by_cases e : i = j
  · subst e
    by_cases hl : i < σ.length
    · rw [List.getElem?_set_self hl] at q
      cases q
      exact ⟨v, by rw [List.getElem?_set_self (by rw [h.len]; exact hl)], hw⟩
    · rw [List.getElem?_eq_none (by simp; omega)] at q; cases q
  · rw [List.getElem?_set_ne e] at q
    obtain ⟨u, h1, h2⟩ := h.at_ j w' q
    exact ⟨u, by rw [List.getElem?_set_ne e]; exact h1, h2⟩
theorem upd_trk {p : Addr} {o : HO} : ∀ b, upd H p o b = none → H b = none := fun b h => by
  unfold upd at h
  split at h
  · cases h
  · exact h
/-- a new object that nobody tracks by number -/
theorem Ext.new {p : Addr} {o : HO} (hp : H p = none) (hs : SR K H φ S) : Ext φ H φ (upd H p o) := by
  refine ⟨List.prefix_refl _, ⟨[], rfl, fun _ h => by cases h⟩, upd_trk, fun b u h n => ⟨?_, n⟩, fun b vs h => ?_, fun b o u h => ?_⟩
  · rw [upd_ne (ne_of_none h hp)]; exact h
  · rw [upd_ne (ne_of_none h hp)]; exact h
  · rw [upd_ne (ne_of_none h hp)]; exact h
theorem OR.there {a : Addr} {o : O} (h : OR K H φ a o) : ∃ u, H a = some u := by
  cases o with
  | lst _ => obtain ⟨_, h, _⟩ := h; exact ⟨_, h⟩
  | dk _ => obtain ⟨_, h, _⟩ := h; exact ⟨_, h⟩
  | dt _ => obtain ⟨_, h, _⟩ := h; exact ⟨_, h⟩
  | lkK _ => obtain ⟨_, ⟨_, h⟩, _⟩ := h; exact ⟨_, h⟩
  | lkT _ => obtain ⟨_, ⟨_, h⟩, _⟩ := h; exact ⟨_, h⟩
theorem SR.get {S : So} (hs : SR K H φ S) {i : Nat} {a : Addr} (h : φ.l[i]? = some a) : ∃ o, S[i]? = some o ∧ OR K H φ a o := by
  have hl : i < S.length := by rw [← hs.len]; exact (List.getElem?_eq_some_iff.mp h).1
  exact ⟨S[i], List.getElem?_eq_getElem hl, hs.ob i a _ h (List.getElem?_eq_getElem hl)⟩
theorem SR.mem {S : So} (hs : SR K H φ S) {a : Addr} (h : a ∈ φ.l) : ∃ u, H a = some u := by
  obtain ⟨i, hi, e⟩ := List.getElem_of_mem h
  obtain ⟨o, _, h2⟩ := hs.get (i := i) (a := a) (by rw [List.getElem?_eq_getElem hi, e])
  exact h2.there
theorem SR.notin {S : So} (hs : SR K H φ S) {a : Addr} (h : H a = none) : a ∉ φ.l := fun hm => by
  obtain ⟨u, e⟩ := hs.mem hm; rw [h] at e; cases e
/-- objects of the store where the store's own addresses stay -/
theorem OR.mono (e : Ext φ H φ' H') {a : Addr} (ha : H' a = H a) : ∀ {o : O}, OR K H φ a o → OR K H' φ' a o
  | .lst xs, ⟨vs, h1, h2⟩ => ⟨vs, ha.trans h1, RDs.mono e _ _ h2⟩
  | .dk kvs, ⟨es, h1, h2, h3⟩ => ⟨es, ha.trans h1, h2, RDs.mono e _ _ h3⟩
  | .dt kvs, ⟨es, h1, h2, h3⟩ => ⟨es, ha.trans h1, h2, RDs.mono e _ _ h3⟩
  | .lkK kvs, ⟨es, ⟨od, h1⟩, h2, h3⟩ => ⟨es, ⟨od, ha.trans h1⟩, h2, RDs.mono e _ _ h3⟩
  | .lkT kvs, ⟨es, ⟨od, h1⟩, h2, h3⟩ => ⟨es, ⟨od, ha.trans h1⟩, h2, RDs.mono e _ _ h3⟩
theorem SR.new {S : So} {p : Addr} {o : HO} (hs : SR K H φ S) (hp : H p = none) : SR K (upd H p o) φ S :=
  ⟨hs.len, hs.nd, fun i a ob h1 h2 => OR.mono (Ext.new hp hs) (by
    rw [upd_ne]
    intro e; subst e
    exact hs.notin hp (List.mem_of_getElem? h1)) (hs.ob i a ob h1 h2), fun b hb => by
      obtain ⟨h1, vs, h2⟩ := hs.hid b hb
      exact ⟨h1, vs, by rw [upd_ne (ne_of_none h2 hp)]; exact h2⟩⟩
theorem SR.notinh {S : So} (hs : SR K H φ S) {a : Addr} (h : H a = none) : a ∉ φ.h := fun hm => by
  obtain ⟨_, vs, e⟩ := hs.hid a hm; rw [h] at e; cases e
/-- a new object of the store -/
theorem Ext.push {p : Addr} {o : HO} {S : So} (hp : H p = none) (hs : SR K H φ S) : Ext φ H (φ.push p) (upd H p o) := by
  have e := Ext.new (o := o) hp hs
  refine ⟨List.prefix_append _ _, ⟨[], rfl, fun _ h => by cases h⟩, upd_trk, fun b u h n => ?_, e.tups, e.frz⟩
  obtain ⟨h1, n1⟩ := e.kept b u h n
  refine ⟨h1, fun hm => ?_⟩
  rcases List.mem_append.mp hm with hm | hm
  · exact n hm
  · rw [List.mem_singleton] at hm; subst hm; rw [hp] at h; cases h
theorem SR.push {S : So} {p : Addr} {o : HO} {ob : O} (hs : SR K H φ S) (hp : H p = none) (ho : OR K (upd H p o) (φ.push p) p ob) : SR K (upd H p o) (φ.push p) (S ++ [ob]) := by
  have ht := hs.new (o := o) hp
  refine ⟨by simp [Fi.push, hs.len], ?_, fun i a u h1 h2 => ?_, fun b hb => ?_⟩
  · show (φ.l ++ [p]).Nodup
    rw [List.nodup_append]
    refine ⟨hs.nd, by simp, fun a ha b hb => ?_⟩
    rw [List.mem_singleton] at hb; subst hb
    intro e; subst e; exact hs.notin hp ha
  · have g1 : (φ.l ++ [p])[i]? = some a := h1
    clear h1
    by_cases hi : i < φ.l.length
    · rw [List.getElem?_append_left hi] at g1
      rw [List.getElem?_append_left (by rw [← hs.len]; exact hi)] at h2
      refine OR.mono (Ext.push hp hs) ?_ (hs.ob i a u g1 h2)
      rw [upd_ne]
      intro e; subst e; exact hs.notin hp (List.mem_of_getElem? g1)
    · have hi1 : i < (φ.l ++ [p]).length := (List.getElem?_eq_some_iff.mp g1).1
      have hi2 : i = φ.l.length := by simp at hi1; omega
      subst hi2
      rw [List.getElem?_append_right (Nat.le_refl _)] at g1
      rw [List.getElem?_append_right (by rw [hs.len]; exact Nat.le_refl _)] at h2
      simp at g1
      rw [hs.len] at h2
      simp at h2
      subst g1; subst h2
      exact ho
  · obtain ⟨h1, vs, h2⟩ := ht.hid b hb
    refine ⟨fun hm => ?_, vs, h2⟩
    rcases List.mem_append.mp hm with hm | hm
    · exact h1 hm
    · rw [List.mem_singleton] at hm; subst hm; exact hs.notinh hp hb
/-- an object of the store changes -/
theorem Ext.wr {S : So} {n : Nat} {a : Addr} {o : HO} (hs : SR K H φ S) (ha : φ.l[n]? = some a) (hn : notLk S[n]?) : Ext φ H φ (upd H a o) := by
  obtain ⟨ob, ho, hob⟩ := hs.get ha
  refine ⟨List.prefix_refl _, ⟨[], rfl, fun _ h => by cases h⟩, upd_trk, fun b u h nb => ⟨?_, nb⟩, fun b vs h => ?_, fun b u0 vs h => ?_⟩
  · rw [upd_ne]; exact h
    intro e; subst e; exact nb (List.mem_of_getElem? ha)
  · have hne : b ≠ a := by
      intro e; subst e
      cases ob with
      | lst _ => obtain ⟨_, q, _⟩ := hob; rw [h] at q; cases q
      | dk _ => obtain ⟨_, q, _⟩ := hob; rw [h] at q; cases q
      | dt _ => obtain ⟨_, q, _⟩ := hob; rw [h] at q; cases q
      | lkK _ => rw [ho] at hn; exact hn
      | lkT _ => rw [ho] at hn; exact hn
    rw [upd_ne hne]; exact h
  · have hne : b ≠ a := by
      intro e; subst e
      cases ob with
      | lst _ => obtain ⟨_, q, _⟩ := hob; rw [h] at q; cases q
      | dk _ => obtain ⟨_, q, _⟩ := hob; rw [h] at q; cases q
      | dt _ => obtain ⟨_, q, _⟩ := hob; rw [h] at q; cases q
      | lkK _ => rw [ho] at hn; exact hn
      | lkT _ => rw [ho] at hn; exact hn
    rw [upd_ne hne]; exact h
theorem SR.wr {S : So} {n : Nat} {a : Addr} {o : HO} {ob : O} (hs : SR K H φ S) (ha : φ.l[n]? = some a) (hn : notLk S[n]?) (ho : OR K (upd H a o) φ a ob) : SR K (upd H a o) φ (S.set n ob) := by
  refine ⟨by simp [hs.len], hs.nd, fun i b u h1 h2 => ?_, fun b hb => ?_⟩
  · by_cases e : n = i
    · subst e
      rw [ha] at h1; cases h1
      have hl : n < S.length := by rw [← hs.len]; exact (List.getElem?_eq_some_iff.mp ha).1
      rw [List.getElem?_set_self hl] at h2; cases h2
      exact ho
    · rw [List.getElem?_set_ne e] at h2
      refine OR.mono (Ext.wr hs ha hn) ?_ (hs.ob i b u h1 h2)
      rw [upd_ne]
      intro q; subst q
      exact e ((List.getElem?_inj (List.getElem?_eq_some_iff.mp ha).1 hs.nd).mp (ha.trans h1.symm))
  · obtain ⟨h1, vs, h2⟩ := hs.hid b hb
    refine ⟨h1, vs, ?_⟩
    rw [upd_ne]; exact h2
    intro e; subst e; exact h1 (List.mem_of_getElem? ha)
/-- a list that is being made: it is hidden, grows, and stands at last as a value -/
theorem FL.hide {p : Addr} {o : HO} (hp : H p = none) {a : Addr} {vs : List V} (h : FL H φ a vs) : FL (upd H p o) (φ.hide p) a vs := by
  obtain ⟨h, n, m⟩ := h
  have hne : a ≠ p := by rcases h with h | ⟨_, h⟩ <;> exact ne_of_none h hp
  refine ⟨?_, n, fun z => ?_⟩
  · rcases h with h | ⟨u, h⟩
    · exact .inl (by rw [upd_ne hne]; exact h)
    · exact .inr ⟨u, by rw [upd_ne hne]; exact h⟩
  · rcases List.mem_cons.mp z with z | z
    · exact hne z
    · exact m z
theorem TP.hide {p : Addr} {o : HO} (hp : H p = none) {a : Addr} {vs : List V} (h : TP K H a vs) : TP K (upd H p o) a vs := (upd_ne (ne_of_none h hp)).trans h
mutual
theorem RD.hide {p : Addr} {o : HO} (hp : H p = none) : ∀ (d : PyData) (v : V), RD K H φ d v → RD K (upd H p o) (φ.hide p) d v
  | .none, _, h => h
  | .bool _, _, h => h
  | .int _, _, h => h
  | .str _, _, h => h
  | .list ds, _, ⟨a, vs, e1, h1, h2⟩ => ⟨a, vs, e1, h1.hide hp, RDs.hide hp ds vs h2⟩
  | .tuple ds, _, ⟨a, vs, e1, h1, h2⟩ => ⟨a, vs, e1, TP.hide hp h1, RDs.hide hp ds vs h2⟩
  | .dict _, _, h => h
theorem RDs.hide {p : Addr} {o : HO} (hp : H p = none) : ∀ (ds : List PyData) (vs : List V), RDs K H φ ds vs → RDs K (upd H p o) (φ.hide p) ds vs
  | [], _, h => h
  | d :: ds, _, ⟨v, r, e1, h1, h2⟩ => ⟨v, r, e1, RD.hide hp d v h1, RDs.hide hp ds r h2⟩
end
theorem OR.hide {p : Addr} {o : HO} (hp : H p = none) {a : Addr} : ∀ {ob : O}, OR K H φ a ob → OR K (upd H p o) (φ.hide p) a ob
  | .lst xs, ⟨vs, h1, h2⟩ => ⟨vs, by rw [upd_ne (ne_of_none h1 hp)]; exact h1, RDs.hide hp _ _ h2⟩
  | .dk kvs, ⟨es, h1, h2, h3⟩ => ⟨es, by rw [upd_ne (ne_of_none h1 hp)]; exact h1, h2, RDs.hide hp _ _ h3⟩
  | .dt kvs, ⟨es, h1, h2, h3⟩ => ⟨es, by rw [upd_ne (ne_of_none h1 hp)]; exact h1, h2, RDs.hide hp _ _ h3⟩
  | .lkK kvs, ⟨es, ⟨od, h1⟩, h2, h3⟩ => ⟨es, ⟨od, by rw [upd_ne (ne_of_none h1 hp)]; exact h1⟩, h2, RDs.hide hp _ _ h3⟩
  | .lkT kvs, ⟨es, ⟨od, h1⟩, h2, h3⟩ => ⟨es, ⟨od, by rw [upd_ne (ne_of_none h1 hp)]; exact h1⟩, h2, RDs.hide hp _ _ h3⟩
theorem Ext.hide {p : Addr} {o : HO} (hp : H p = none) : Ext φ H (φ.hide p) (upd H p o) :=
  ⟨List.prefix_refl _, ⟨[p], rfl, fun b hb => by rw [List.mem_singleton] at hb; subst hb; exact hp⟩, upd_trk, fun b u h n => ⟨by rw [upd_ne (ne_of_none h hp)]; exact h, n⟩, fun b vs h => by
    rw [upd_ne (ne_of_none h hp)]; exact h, fun b o u h => by
    rw [upd_ne (ne_of_none h hp)]; exact h⟩
theorem SR.hide {S : So} {p : Addr} {vs : List V} (hs : SR K H φ S) (hp : H p = none) : SR K (upd H p (.lst vs)) (φ.hide p) S :=
  ⟨hs.len, hs.nd, fun i a ob h1 h2 => OR.hide hp (hs.ob i a ob h1 h2), fun b hb => by
    rcases List.mem_cons.mp hb with e | hb
    · subst e; exact ⟨hs.notin hp, vs, upd_same⟩
    · obtain ⟨h1, us, h2⟩ := hs.hid b hb
      exact ⟨h1, us, by rw [upd_ne (ne_of_none h2 hp)]; exact h2⟩⟩
theorem RW.hide {p : Addr} {o : HO} (hp : H p = none) : ∀ {w : W} {v : V}, RW K H φ mg w v → RW K (upd H p o) (φ.hide p) mg w v
  | .d x, v, h => RD.hide hp x v h
  | .r n, v, h => h
  | .g x, v, h => h
  | .s xs, v, ⟨a, vs, e1, h1, h2⟩ => ⟨a, vs, e1, h1.imp (fun q => q.hide hp) id, RDs.hide hp _ _ h2⟩
  | .p n x, v, ⟨a, b, u, e1, h1, h2, h3⟩ => ⟨a, b, u, e1, TP.hide hp h1, h2, RD.hide hp x u h3⟩
  | .x xv, v, ⟨a, C, dd, es, e1, e2, e3, e4, e5, h1, h2, h3, h4⟩ => ⟨a, C, dd, es, e1, e2, e3, e4, e5, by rw [upd_ne (ne_of_none h1 hp)]; exact h1, h2, h3, RDs.hide hp _ _ h4⟩
theorem ER.hide {p : Addr} {o : HO} (hp : H p = none) {σV : L2.St} {σ : En} (h : ER K H φ mg σV σ) : ER K (upd H p o) (φ.hide p) mg σV σ :=
  ⟨h.len, fun i w q => let ⟨v, h1, h2⟩ := h.at_ i w q; ⟨v, h1, RW.hide hp h2⟩⟩

section
variable {p : Addr} {us : List V} (hh : p ∈ φ.h) (hp : H p = some (.lst us)) (hx : ∀ b, b ≠ p → H' b = H b)
include hh hp hx
theorem FL.grow {a : Addr} {vs : List V} (h : FL H φ a vs) : FL H' φ a vs := by
  obtain ⟨h, n, m⟩ := h
  have hne : a ≠ p := fun e => m (e ▸ hh)
  refine ⟨?_, n, m⟩
  rcases h with h | ⟨u, h⟩
  · exact .inl ((hx a hne).trans h)
  · exact .inr ⟨u, (hx a hne).trans h⟩
omit hh in
theorem TP.grow {a : Addr} {vs : List V} (h : TP K H a vs) : TP K H' a vs := by
  have hne : a ≠ p := by
    intro e; subst e
    rw [h] at hp; cases hp
  exact (hx a hne).trans h
theorem RD.grow : ∀ (d : PyData) (v : V), RD K H φ d v → RD K H' φ d v := fun d => PyData.rec (motive_1 := fun d => ∀ v, RD K H φ d v → RD K H' φ d v) (motive_2 := fun ds => ∀ vs, RDs K H φ ds vs → RDs K H' φ ds vs)
    (motive_3 := fun _ => True) (motive_4 := fun _ => True)
    (fun _ h => h) (fun _ _ h => h) (fun _ _ h => h) (fun _ _ h => h)
    (fun ds ih v ⟨a, vs, e1, h1, h2⟩ => ⟨a, vs, e1, FL.grow hh hp hx h1, ih vs h2⟩)
    (fun ds ih v ⟨a, vs, e1, h1, h2⟩ => ⟨a, vs, e1, TP.grow hp hx h1, ih vs h2⟩)
    (fun _ _ _ h => h) (fun _ h => h) (fun d ds h1 h2 vs ⟨v, r, e1, q1, q2⟩ => ⟨v, r, e1, h1 v q1, h2 r q2⟩) trivial (fun _ _ _ _ => trivial) (fun _ _ _ _ => trivial) d
theorem RDs.grow : ∀ (ds : List PyData) (vs : List V), RDs K H φ ds vs → RDs K H' φ ds vs
  | [], _, h => h
  | d :: ds, _, ⟨v, r, e1, h1, h2⟩ => ⟨v, r, e1, RD.grow hh hp hx d v h1, RDs.grow ds r h2⟩
theorem OR.grow {a : Addr} (hne : a ≠ p) : ∀ {ob : O}, OR K H φ a ob → OR K H' φ a ob
  | .lst xs, ⟨ws, q1, q2⟩ => ⟨ws, (hx a hne).trans q1, RDs.grow hh hp hx _ _ q2⟩
  | .dk xs, ⟨ws, q1, q2, q3⟩ => ⟨ws, (hx a hne).trans q1, q2, RDs.grow hh hp hx _ _ q3⟩
  | .dt xs, ⟨ws, q1, q2, q3⟩ => ⟨ws, (hx a hne).trans q1, q2, RDs.grow hh hp hx _ _ q3⟩
  | .lkK xs, ⟨ws, ⟨od, q1⟩, q2, q3⟩ => ⟨ws, ⟨od, (hx a hne).trans q1⟩, q2, RDs.grow hh hp hx _ _ q3⟩
  | .lkT xs, ⟨ws, ⟨od, q1⟩, q2, q3⟩ => ⟨ws, ⟨od, (hx a hne).trans q1⟩, q2, RDs.grow hh hp hx _ _ q3⟩
theorem RW.grow : ∀ {w : W} {v : V}, RW K H φ mg w v → RW K H' φ mg w v
  | .d x, v, h => RD.grow hh hp hx x v h
  | .r n, v, h => h
  | .g x, v, h => h
  | .s xs, v, ⟨a, vs, e1, h1, h2⟩ => ⟨a, vs, e1, h1.imp (fun q => FL.grow hh hp hx q) id, RDs.grow hh hp hx _ _ h2⟩
  | .p n x, v, ⟨a, b, u, e1, h1, h2, h3⟩ => ⟨a, b, u, e1, TP.grow hp hx h1, h2, RD.grow hh hp hx x u h3⟩
  | .x xv, v, ⟨a, C, dd, es, e1, e2, e3, e4, e5, h1, h2, h3, h4⟩ => ⟨a, C, dd, es, e1, e2, e3, e4, e5, (hx dd (fun z => by rw [z, hp] at h1; cases h1)).trans h1, h2, h3, RDs.grow hh hp hx _ _ h4⟩
theorem ER.grow {σV : L2.St} {σ : En} (h : ER K H φ mg σV σ) : ER K H' φ mg σV σ :=
  ⟨h.len, fun i w q => let ⟨v, h1, h2⟩ := h.at_ i w q; ⟨v, h1, RW.grow hh hp hx h2⟩⟩
end
theorem SR.grow {S : So} {p : Addr} {us vs : List V} (hs : SR K H φ S) (hh : p ∈ φ.h) (hp : H p = some (.lst us)) : SR K (upd H p (.lst vs)) φ S := by
  obtain ⟨np, _⟩ := hs.hid p hh
  refine ⟨hs.len, hs.nd, fun i a ob h1 h2 => OR.grow hh hp (fun b hb => upd_ne hb) (fun e => np (e ▸ List.mem_of_getElem? h1)) (hs.ob i a ob h1 h2), fun b hb => ?_⟩
  by_cases e : b = p
  · subst e; exact ⟨np, vs, upd_same⟩
  · obtain ⟨h1, ws, h2⟩ := hs.hid b hb
    exact ⟨h1, ws, by rw [upd_ne e]; exact h2⟩
mutual
theorem RD.sub (e : ∀ b, b ∉ φ'.l ∧ b ∉ φ'.h → b ∉ φ.l ∧ b ∉ φ.h) : ∀ (d : PyData) (v : V), RD K H φ' d v → RD K H φ d v
  | .none, _, h => h
  | .bool _, _, h => h
  | .int _, _, h => h
  | .str _, _, h => h
  | .list ds, _, ⟨a, vs, e1, h1, h2⟩ => ⟨a, vs, e1, ⟨h1.1, e a h1.2⟩, RDs.sub e ds vs h2⟩
  | .tuple ds, _, ⟨a, vs, e1, h1, h2⟩ => ⟨a, vs, e1, h1, RDs.sub e ds vs h2⟩
  | .dict _, _, h => h
theorem RDs.sub (e : ∀ b, b ∉ φ'.l ∧ b ∉ φ'.h → b ∉ φ.l ∧ b ∉ φ.h) : ∀ (ds : List PyData) (vs : List V), RDs K H φ' ds vs → RDs K H φ ds vs
  | [], _, h => h
  | d :: ds, _, ⟨v, r, e1, h1, h2⟩ => ⟨v, r, e1, RD.sub e d v h1, RDs.sub e ds r h2⟩
end
/-- the store cut back to what stood before -/
theorem SR.cut {S' : So} {k : Nat} (hs : SR K H' φ' S') (e : Ext φ H φ' H') (hk : φ.l.length = k) : SR K H' φ (S'.take k) := by
  obtain ⟨t, ht⟩ := e.pre
  have hle : k ≤ S'.length := by rw [← hs.len, ← ht]; simp [hk]
  refine ⟨by simp [hk]; omega, ?_, fun i a o h1 h2 => ?_, fun b hb => ?_⟩
  · have := hs.nd; rw [← ht, List.nodup_append] at this; exact this.1
  · have hi : i < φ.l.length := (List.getElem?_eq_some_iff.mp h1).1
    have h1' : φ'.l[i]? = some a := by rw [← ht, List.getElem?_append_left hi]; exact h1
    have h2' : S'[i]? = some o := by rw [List.getElem?_take_of_lt (by omega)] at h2; exact h2
    have := hs.ob i a o h1' h2'
    have cut : ∀ {ds vs}, RDs K H' φ' ds vs → RDs K H' φ ds vs := fun {ds vs} h => RDs.sub (fun b hb => ⟨fun hb' => hb.1 (by rw [← ht]; exact List.mem_append_left _ hb'), fun hb' => hb.2 (e.hsub hb')⟩) ds vs h
    cases o with
    | lst xs => obtain ⟨vs, q1, q2⟩ := this; exact ⟨vs, q1, cut q2⟩
    | dk xs => obtain ⟨vs, q1, q2, q3⟩ := this; exact ⟨vs, q1, q2, cut q3⟩
    | dt xs => obtain ⟨vs, q1, q2, q3⟩ := this; exact ⟨vs, q1, q2, cut q3⟩
    | lkK xs => obtain ⟨vs, q1, q2, q3⟩ := this; exact ⟨vs, q1, q2, cut q3⟩
    | lkT xs => obtain ⟨vs, q1, q2, q3⟩ := this; exact ⟨vs, q1, q2, cut q3⟩
  · obtain ⟨h1, vs, h2⟩ := hs.hid b (e.hsub hb)
    exact ⟨fun hm => h1 (by rw [← ht]; exact List.mem_append_left _ hm), vs, h2⟩
theorem RD.cut (e : Ext φ H φ' H') {d : PyData} {v : V} (h : RD K H' φ' d v) : RD K H' φ d v :=
  RD.sub (fun b hb => ⟨fun hb' => hb.1 (e.pre.subset hb'), fun hb' => hb.2 (e.hsub hb')⟩) d v h
theorem RDs.cut (e : Ext φ H φ' H') {d : List PyData} {v : List V} (h : RDs K H' φ' d v) : RDs K H' φ d v :=
  RDs.sub (fun b hb => ⟨fun hb' => hb.1 (e.pre.subset hb'), fun hb' => hb.2 (e.hsub hb')⟩) d v h
/-- .. back to an earlier store, nothing of it changed its place -/
theorem Ext.cut (e : Ext φ H φ' H') : Ext φ H φ H' := ⟨List.prefix_refl _, ⟨[], rfl, fun _ h => by cases h⟩, e.trk, fun b o h n => ⟨(e.kept b o h n).1, n⟩, e.tups, e.frz⟩
end
end CL
end

section
/-! part CLFn -/
set_option Elab.async false
set_option linter.all false
set_option maxRecDepth 100000
/-! CLFn: what a def promises where no repr runs around it; calls of such defs. -/
namespace CL
open PySem PySem.Spec PyProof.Rows L2

/-- as the layer's FnOk, and nothing guards a repr around -/
structure FnG (P : Program) (w : World) (K : PySem.W.Frag) (mg : Str → Option Value) (base : Heap) (CX : CXT) (k : Nat) (f : Addr) (fd : FuncData) (ps : List Str) (sp : Sp) : Prop where
  len : ∀ vs H Q E, sp vs H Q E → vs.length = ps.length
  run : ∀ (A : Around) (outer : List Env) (s : Shared) (H : Hp) (args : Args) (us : List Value) (vs : List V) (Q : VK) (E : XK), A.guards = some [] → Room k A → Env0 P w K mg base A outer s H →
    BindsTo s fd args (ps.zip us) → Vals vs us → sp vs H Q E → codeAny (model P w) A (.call (.ref f) args) (CR CX outer P w H s Q E) s
theorem FnG.mono {P : Program} {w : World} {K : PySem.W.Frag} {mg : Str → Option Value} {base : Heap} {CX : CXT} {j k : Nat} {f : Addr} {fd : FuncData} {ps : List Str} {sp : Sp} (F : FnG P w K mg base CX j f fd ps sp) (h : j ≤ k) : FnG P w K mg base CX k f fd ps sp :=
  { F with run := fun A o s H a us vs Q E g r => F.run A o s H a us vs Q E g (r.mono h) }
/-- an exception's wish, by the slots where it is raised -/
abbrev EK := L2.St → XK
abbrev EN : EK := fun _ => E0
/-- what a call at these slots lets out is taken -/
def PaAt (CX : CXT) (X : Cx) (E : EK) : Prop := ∀ (σ : L2.St) (pins : List (Addr × Obj)) (H : Hp) (s : Shared) (e : Value) (s' : Shared), Inv X pins σ H s → CX X.stack H s (E σ) e s' → X.xe e s'
theorem pa0 {X : Cx} {E : EK} : PaAt CX0 X E := fun _ _ _ _ _ _ _ h => h.elim
def tCallX (sp : Sp) (dvs : List V) (E : EK) (t : TA) : TE := fun σ H Q => t σ H fun vs H1 => sp (vs ++ dvs) H1 Q (E σ)
section
variable {X : Cx} {CX : CXT} {k i : Nat} {f : Addr} {fd : FuncData} {ps : List Str} {sp : Sp} {E : EK} {x : Str} {p pos : Pos} {e : Expr} {es : List Expr} {t : TA} {ds : List Value} {dvs : List V}
theorem runG {pins : List (Addr × Obj)} {σ : L2.St} {H : Hp} {s : Shared} {Q : VK} {us : List Value} {vs : List V} (F : FnG X.prog X.w X.K X.mg X.base CX k f fd ps sp) (hg : X.A.guards = some []) (hr : Room k X.A) (hb : Binds X.K fd ps ds) (hd : Vals dvs ds) (hx : PaAt CX X E)
    (I : Inv X pins σ H s) (r : Vals vs us) (h : sp (vs ++ dvs) H Q (E σ)) : wpAny (model X.prog X.w) X.A (call (.ref f) us) (EP X pins σ Q) X.xe s := by
  have ra := r.append hd
  have hl := F.len _ _ _ _ h
  rw [ra.length] at hl
  apply wpAny_call
  refine codeAny_mono (F.run X.A X.stack s H ⟨us, []⟩ _ _ Q (E σ) hg hr I.env0 (hb s us I.kIn hl) ra h) ?_
  intro r s' hq
  match r, hq with
  | .error e, hq => exact hx σ pins H s e s' I hq
  | .ok (.ret u), hq => exact I.after hq
/-- a def of the module, called by its name -/
theorem pe_fnG (F : FnG X.prog X.w X.K X.mg X.base CX k f fd ps sp) (hgd : X.A.guards = some []) (hr : Room k X.A) (hg : Gl X x) (hm : X.mg x = some (.ref f)) (hk : PySem.W.keepIn X.K (.ref f) = true) (hb : Binds X.K fd ps ds) (hd : Vals dvs ds) (hx : PaAt CX X E)
    (ha : PA X (e :: es) t) (hdb : (x == ("__debug__" : Str)) = false) (he : starEach (e :: es) X.env = (false, eval e X.env) :: starEach es X.env) (hpl : (backTo pos (starEach es X.env)).any (·.1) = false) :
    PE X (.Call (.Name x p) (e :: es) [] pos) (tCallX sp dvs E t) where
  run := fun pins s σ H Q I h => wpAny_Call_Name_kw (ld_glob I hg hm (PySem.W.callWith_K (h₀ := X.base) I.ok.mod.kin hk (thn (ha.run pos pins s σ H _ I h) fun us s1 ⟨vs, H1, I1, r, q⟩ => ⟨I1.kIn, runG F hgd hr hb hd hx I1 r q⟩) he hpl) hdb)
theorem pe_fnG0 (F : FnG X.prog X.w X.K X.mg X.base CX k f fd ps sp) (hgd : X.A.guards = some []) (hr : Room k X.A) (hg : Gl X x) (hm : X.mg x = some (.ref f)) (hk : PySem.W.keepIn X.K (.ref f) = true) (hb : Binds X.K fd ps ds) (hd : Vals dvs ds) (hx : PaAt CX X E)
    (hdb : (x == ("__debug__" : Str)) = false) : PE X (.Call (.Name x p) [] [] pos) (tCallX sp dvs E tNil) where
  run := fun pins s σ H Q I h => wpAny_Call_Name_kw (ld_glob I hg hm (PySem.W.callWith_K0 I.kIn hk (runG (us := []) (vs := []) F hgd hr hb hd hx I .nil h)) hdb)
/-- a def that a local name holds; which one is told by its address -/
def tHeld (i : Nat) (S : Addr → Option Sp) (E : EK) (t : TA) : TE := fun σ H Q => ∃ f sp, σ[i]? = some (some (.ref f)) ∧ S f = some sp ∧ t σ H fun vs H1 => sp vs H1 Q (E σ)
structure HeldG (X : Cx) (CX : CXT) (k : Nat) (f : Addr) (sp : Sp) : Prop where
  ex : ∃ (fd : FuncData) (ps : List Str), FnG X.prog X.w X.K X.mg X.base CX k f fd ps sp ∧ PySem.W.keepIn X.K (.ref f) = true ∧ Binds X.K fd ps []
theorem pe_heldG {S : Addr → Option Sp} (hS : ∀ f sp, S f = some sp → HeldG X CX k f sp) (hgd : X.A.guards = some []) (hr : Room k X.A) (hN : X.N[i]? = some x) (hv : Vis X.env.scope x) (hx : PaAt CX X E)
    (ha : PA X (e :: es) t) (hdb : (x == ("__debug__" : Str)) = false) (hcd : (x == ("__classdict__" : Str)) = false) (he : starEach (e :: es) X.env = (false, eval e X.env) :: starEach es X.env) (hpl : (backTo pos (starEach es X.env)).any (·.1) = false) :
    PE X (.Call (.Name x p) (e :: es) [] pos) (tHeld i S E t) where
  run := fun pins s σ H Q I h => by
    obtain ⟨f, sp, hs, hsp, ht⟩ := h
    obtain ⟨fd, ps, F, hk, hb⟩ := (hS f sp hsp).ex
    refine wpAny_Call_Name_kw (thn ((pe_var (pos := p) hN hv hdb hcd).run pins s σ H (fun v H1 => v = .ref f ∧ H1 = H) I ⟨.ref f, hs, rfl, rfl⟩) ?_)
    rintro u s1 ⟨v, H1, I1, r1, rfl, rfl⟩
    cases r1
    refine PySem.W.callWith_K (h₀ := X.base) I.ok.mod.kin hk (thn (ha.run pos pins s1 σ H1 _ I1 ht) fun us s2 ⟨vs, H2, I2, r, q⟩ => ⟨I2.kIn, ?_⟩) he hpl
    exact runG (dvs := []) F hgd hr hb .nil hx I2 r (by rw [List.append_nil]; exact q)
end
/-- a def of the text, by its body -/
theorem fnG_of {CX : CXT} {P : Program} {w : World} {K : PySem.W.Frag} {mg : Str → Option Value} {base : Heap} {k : Nat} {f : Addr} {x qual : Str} {st : Stmt} {fd : FuncData} {N ps : List Str} {sp : Sp} (F : Fun K x qual st f fd) (Sc : FnScope N ps (defScope st))
    (len : ∀ vs H Q E, sp vs H Q E → vs.length = ps.length)
    (hbody : ∀ (cdv : Value) (A : Around) (outer : List Env) (s : Shared) (H : Hp) (vs : List V) (Q : VK) (E : XK), A.guards = some [] → Room k (A.deeper (envOfC qual (defScope st) s.heap.objs.size f cdv)) → sp vs H Q E →
      ∃ t, PSs (cxOf CX P w K mg base N qual (defScope st) f cdv A outer s H E) (defBody st) t ∧ t { nx := fun _ H' => Q .non H', rt := Q } (L2.start N vs) H) : FnG P w K mg base CX (k + 1) f fd ps sp := by
  obtain ⟨oc, od, kV, doc, pm, an, cdv, ct, osl, rfl, lk, hcd⟩ := F.ex
  refine ⟨len, fun A outer s H args us vs Q E hgd hr e0 hb r hsp => ?_⟩
  have stay : ∀ b o, base.get? b = some o → s.heap.get? b = some o := fun b o e => (e0.bs b o e).1
  have KX : K.In s.heap := e0.mod.kin.keeps stay
  have kinds : ∀ y ∈ ps.zip us, (defScope st).names.lookup y.1 = some .local ∨ ((defScope st).names.lookup y.1 = some .cell ∧ ((cellsFrom (s.heap.objs.size + 1) (defScope st).names []).lookup y.1).isSome = true) := by
    rintro ⟨n, v⟩ hy
    exact (Sc.par n (List.of_mem_zip hy).1).imp id fun q => ⟨q, PySem.W.cellsFrom_some _ _ _ (.inl q)⟩
  refine codeAny_call_function hr.depth (KX _ _ lk) rfl Sc.co Sc.gen rfl (PySem.W.codeRec_of KX hcd) (hb _ _ _ _ (wpAny_newFunctionEnv_cells Sc.kind kinds fun env he s1 x => ?_))
  subst he
  have lim : s.heap.NoLimit := e0.mod.nolimit.keeps stay
  refine ⟨lim.keeps x.toInCall.keep, codeAny_func ?_⟩
  obtain ⟨t, ht, hq⟩ := hbody cdv A outer s H vs Q E hgd (hr.deeper _) hsp
  refine wpAny_mono (ht.run [] s1 _ H _ (inv_start Sc hr.hd e0 (len _ _ _ _ hsp) r x) hq) (fun fl s' hs => ?_) fun _ _ hs => hs
  match fl, hs with
  | .ret u, ⟨v, _, H', J, rv, q⟩ => exact ⟨v, H', J.os, J.bare, J.base, J.hok, rv, q⟩
  | .next, ⟨_, H', J, q⟩ => exact ⟨.non, H', J.os, J.bare, J.base, J.hok, rfl, q⟩
  | .brk, ⟨_, _, _, q⟩ => exact False.elim q
  | .cont, ⟨_, _, _, q⟩ => exact False.elim q
/-! ### the law's end -/
/-- the script's object, read and never written -/
def scriptH (a : Addr) (o : Obj) (xs : List V) : Hp := fun b => if b = a then some (.frz o (.lst xs)) else none
theorem law_callG {P : Program} {w : World} {K : PySem.W.Frag} {mg mb : Str → Option Value} {CX : CXT} {k : Nat} {fa a : Addr} {fd : FuncData} {x : Str} {sp : Sp} {s₁ : Shared} {vs : List Value} {ns : List Int}
    (KX : K.In s₁.heap) (hns : s₁.heap.Ns mainGlobals mg) (hb : s₁.heap.Ns builtinsNs mb) (hbb : ∀ x : Str, x ≠ "__name__" → mb x = bootBuiltins x) (hlim : s₁.heap.NoLimit) (hg : s₁.gens = #[])
    (ha : s₁.heap.get? a = some { cls := .type "list", data := .seq vs.toArray }) (hi : IntsAre vs ns) (hl : ns.length ≤ sizeLine) (hr : Room k callerA)
    (F : ∀ base : Heap, K.In base → base.Ns mainGlobals mg → FnG P w K mg base CX k fa fd [x] sp) (hbind : ∀ (s : Shared) (u : Value), BindsTo s fd ⟨[u], []⟩ [(x, u)])
    (hsp : ∀ H : Hp, ((∃ o, H = scriptH a o (ns.map V.int)) ∨ (H = (fun _ => none) ∧ KL K a (ns.map V.int))) → sp [.ref a] H (fun v _ => v = .bl true) fun _ _ _ => False)
    (hCX : ∀ H e s', CX [] H s₁ (fun _ _ _ => False) e s' → False) :
    codeAny (model P w) callerA (.call (.ref fa) ⟨[.ref a], []⟩) (fun r s' => r = .ok (.ret (.bool true)) ∧ OldK s₁.heap s'.heap ∧ s'.os = s₁.os ∧ AllBare s'.gens) s₁ := by
  have rv := vals_ints hi
  have lenV := hi.length
  generalize ho : ({ cls := .type "list", data := .seq vs.toArray } : Obj) = o at ha
  -- what is tracked at the entry: the script alone, or nothing
  suffices core : ∀ H : Hp, (∀ b u, H b = some u → b = a ∧ u = .frz o (.lst (ns.map V.int))) → (H a ≠ none → K.lookup a = none) → ((∃ o, H = scriptH a o (ns.map V.int)) ∨ (H = (fun _ => none) ∧ KL K a (ns.map V.int))) →
      codeAny (model P w) callerA (.call (.ref fa) ⟨[.ref a], []⟩) (fun r s' => r = .ok (.ret (.bool true)) ∧ OldK s₁.heap s'.heap ∧ s'.os = s₁.os ∧ AllBare s'.gens) s₁ by
    cases hk : K.lookup a with
    | none =>
      refine core (scriptH a o (ns.map V.int)) (fun b u e => ?_) (fun _ => hk) (.inl ⟨o, rfl⟩)
      by_cases hb : b = a
      · subst hb; exact ⟨rfl, (Option.some.inj ((if_pos rfl).symm.trans e)).symm⟩
      · exact absurd ((if_neg hb).symm.trans e) (by simp)
    | some ob =>
      have e := KX a ob hk
      rw [ha] at e
      cases e
      subst ho
      exact core (fun _ => none) (fun b u e => by cases e) (fun z => absurd rfl z) (.inr ⟨rfl, _, vs.toArray, _, hk, rfl, rfl, rfl, by rw [List.size_toArray, lenV]; exact hl, by simpa using rv⟩)
  intro H hH hka hcase
  have Hn : ∀ {b}, b ≠ a → H b = none := fun {b} hb => by
    cases q : H b with
    | none => rfl
    | some u => exact absurd (hH b u q).1 hb
  have hok : HOk P w H s₁.heap := fun b u z => by
    obtain ⟨rfl, rfl⟩ := hH b u z
    exact ⟨ha, by rw [List.length_map]; exact hl, vs, _, rv, by rw [ha, ← ho]⟩
  have away : ∀ {b : Addr} {ob : Obj} {es : Array DictEntry} {ep : Nat}, s₁.heap.get? b = some ob → ob.data = .dict es ep → H b = none := fun {b ob es ep} e d => Hn fun hb => by
    subst hb; rw [ha] at e; cases e; rw [← ho] at d; cases d
  have nsK : ∀ {b : Addr} {m : Str → Option Value}, s₁.heap.Ns b m → (hidT s₁.heap H).Ns b m := fun {b m} ⟨ob, es, ep, e, d, r⟩ => ⟨ob, es, ep, hidT_get e (away e d), d, r⟩
  have kb : K.In (hidT s₁.heap H) := fun b ob e => hidT_get (KX b ob e) (by
    cases q : H b with
    | none => rfl
    | some u =>
      obtain ⟨rfl, _⟩ := hH b u q
      rw [hka (by rw [q]; simp)] at e; cases e)
  have md : Mod K mg (hidT s₁.heap H) := ⟨kb, nsK hns, ⟨mb, nsK hb, hbb⟩, let ⟨mc, h1, h2⟩ := hlim; ⟨mc, nsK h1, h2⟩⟩
  have e0 : Env0 P w K mg (hidT s₁.heap H) callerA [] s₁ H := ⟨rfl, md, fun b ob e => of_hidT e, Nat.le_of_eq (hidT_size _ _), trivial, fun b hb => absurd (show b ∈ ([] : List Addr) from hb) (by simp), hok, AllBare.of_eq hg⟩
  refine codeAny_mono ((F _ kb (nsK hns)).run callerA [] s₁ H ⟨[.ref a], []⟩ [.ref a] [.ref a] _ _ rfl hr e0 (hbind s₁ (.ref a)) (.cons rfl .nil) (hsp H hcase)) fun r s' h => ?_
  match r, h with
  | .error e, h => exact (hCX H e s' h).elim
  | .ok (.ret u), ⟨v, H', os, bare, un, hok', r', q⟩ =>
    have q : v = .bl true := q
    subst q
    cases r'
    refine ⟨rfl, OldK.of_keep fun b ob e => ?_, os, bare⟩
    cases q : H b with
    | none => exact un.keep b ob e q (fun z => absurd (show b ∈ ([] : List Addr) from z) (by simp)) (by simp)
    | some u =>
      obtain ⟨rfl, rfl⟩ := hH b u q
      obtain ⟨e2, _⟩ := hok' b _ (un.frzs b o _ q)
      rw [ha] at e; cases e
      exact e2
/-- the walk of a law row: its def's promise, told once for the module's written part and names -/
theorem walkG {l : PySem.W.OpenLaw} {n k : Nat} {q : Program} {loose : List Str} {XP : (Str → Option Value) → Heap → Prop} {YP : World → Heap → Prop} {d : DefRec} {K : Params → PySem.W.Frag} {CX : World → CXT} {sp : World → (Str → Option Value) → Sp} {x : Str}
    (hn : l.most = some n) (hn2 : n ≤ sizeLine) (hdf : d.params.defaults = []) (hr : Room k callerA) (hY : ∀ (w : World) (h : Heap), YP w h → (K w.params).In h)
    (F : ∀ (w : World) (mg : Str → Option Value) (fa : Addr) (h : Heap), (K w.params).In h → h.Ns mainGlobals mg → mg d.name = some (.ref fa) →
      ∃ fd : FuncData, (∀ (s : Shared) (u : Value), BindsTo s fd ⟨[u], []⟩ [(x, u)]) ∧
        ∀ base : Heap, (K w.params).In base → base.Ns mainGlobals mg → FnG l.prog w (K w.params) mg base (CX w) k fa fd [x] (sp w mg))
    (hsp : ∀ (w : World) (mg : Str → Option Value) (H : Hp) (a : Addr) (ns : List Int), ns.length ≤ n → ((∃ o, H = scriptH a o (ns.map V.int)) ∨ (H = (fun _ => none) ∧ KL (K w.params) a (ns.map V.int))) → sp w mg [.ref a] H (fun v _ => v = .bl true) fun _ _ _ => False)
    (hCX : ∀ (w : World) (H : Hp) (s : Shared) (e : Value) (s' : Shared), CX w [] H s (fun _ _ _ => False) e s' → False) :
    PySem.W.WalkO q loose XP YP l.row.toRowW d [] (fun f vs => PySem.call f vs) :=
  Att.attach_call hn hdf fun w s₀ s₁ mg mb fa o pm cd doc a vs ns G Y ho hd hcd hmg hobj hints hlen hg => by
    have KX := hY w _ Y
    obtain ⟨fd, hb, hF⟩ := F w mg fa _ KX G.T.g hmg
    exact law_callG KX G.T.g G.T.b G.T.builtins G.T.nolimit hg hobj hints (Nat.le_trans hlen hn2) hr hF hb (fun H h => hsp w mg H a ns hlen h) fun H e s' => hCX w H s₁ e s'
end CL
end

section
/-! part CLCtl -/
set_option Elab.async false
set_option linter.all false
set_option maxRecDepth 100000
/-! CLCtl: readings by denotations; names, operators, tests, calls, statements, loops. -/
namespace CL
open PySem PySem.Spec PyProof.Rows L2

section
variable (K : PySem.W.Frag) (mg : Str → Option Value) (E : XK)
/-- what is wanted of an exception -/
def XR (x : XV) (H : Hp) (φ : Fi) : Prop :=
  ∀ (C : Addr), mg x.cls = some (.ref C) → (x.fs = [] → E (.ref C) none H) ∧
    ∀ (a : Addr) (vs : List V), H a = some (.xd ((x.fs.map (·.1)).zip vs)) → RDs K H φ (x.fs.map (·.2)) vs → E (.ref C) (some a) H
def oE (φ : Fi) (H : Hp) (Q : VK) : RE W → Prop
  | .ok w S' => ∀ φ' H' v, Ext φ H φ' H' → SR K H' φ' S' → RW K H' φ' mg w v → Q v H'
  | .xc x S' => ∀ φ' H', Ext φ H φ' H' → SR K H' φ' S' → XR K mg E x H' φ'
def oT (φ : Fi) (H : Hp) (Q : Bool → Hp → Prop) : RE Bool → Prop
  | .ok w S' => ∀ φ' H', Ext φ H φ' H' → SR K H' φ' S' → Q w H'
  | .xc x S' => ∀ φ' H', Ext φ H φ' H' → SR K H' φ' S' → XR K mg E x H' φ'
def oA (φ : Fi) (H : Hp) (Q : List V → Hp → Prop) : RE (List W) → Prop
  | .ok ws S' => ∀ φ' H' vs, Ext φ H φ' H' → SR K H' φ' S' → RWs K H' φ' mg ws vs → Q vs H'
  | .xc x S' => ∀ φ' H', Ext φ H φ' H' → SR K H' φ' S' → XR K mg E x H' φ'
def tE (E : EK) (d : DE) : TE := fun σV H Q => ∃ φ σ S r, SR K H φ S ∧ ER K H φ mg σV σ ∧ d σ S = some r ∧ oE K mg (E σV) φ H Q r
def tT (E : EK) (d : DT) : TT := fun σV H Q => ∃ φ σ S r, SR K H φ S ∧ ER K H φ mg σV σ ∧ d σ S = some r ∧ oT K mg (E σV) φ H Q r
def tA (E : EK) (d : DA) : TA := fun σV H Q => ∃ φ σ S r, SR K H φ S ∧ ER K H φ mg σV σ ∧ d σ S = some r ∧ oA K mg (E σV) φ H Q r
def oS (E : EK) (φ : Fi) (H : Hp) (D : Ends) : Out → Prop
  | .nx σ' S' => ∀ φ' H' σV', Ext φ H φ' H' → SR K H' φ' S' → ER K H' φ' mg σV' σ' → D.nx σV' H'
  | .rt w S' => ∀ φ' H' v, Ext φ H φ' H' → SR K H' φ' S' → RW K H' φ' mg w v → D.rt v H'
  | .bk σ' S' => ∀ φ' H' σV', Ext φ H φ' H' → SR K H' φ' S' → ER K H' φ' mg σV' σ' → D.bk σV' H'
  | .ct σ' S' => ∀ φ' H' σV', Ext φ H φ' H' → SR K H' φ' S' → ER K H' φ' mg σV' σ' → D.ct σV' H'
  | .xc x σ' S' => ∀ φ' H' σV', Ext φ H φ' H' → SR K H' φ' S' → ER K H' φ' mg σV' σ' → XR K mg (E σV') x H' φ'
def tS (E : EK) (d : DS) : TS := fun D σV H => ∃ φ σ S o, SR K H φ S ∧ ER K H φ mg σV σ ∧ d σ S = some o ∧ oS K mg E φ H D o
/-- a two-place operation -/
def rO (g : So → W → W → Option W) : R2 := fun v1 v2 H Q => ∃ φ S x y w, SR K H φ S ∧ RW K H φ mg x v1 ∧ RW K H φ mg y v2 ∧ g S x y = some w ∧
  ∀ φ' H' v, Ext φ H φ' H' → SR K H' φ' S → RW K H' φ' mg w v → Q v H'
def rU1 (g : So → W → Option W) : V → Hp → VK → Prop := fun v1 H Q => ∃ φ S x w, SR K H φ S ∧ RW K H φ mg x v1 ∧ g S x = some w ∧
  ∀ φ' H' v, Ext φ H φ' H' → SR K H' φ' S → RW K H' φ' mg w v → Q v H'
def rC (g : So → List W → Option W) : List V → Hp → VK → Prop := fun vs H Q => ∃ φ S ws w, SR K H φ S ∧ RWs K H φ mg ws vs ∧ g S ws = some w ∧
  ∀ φ' H' v, Ext φ H φ' H' → SR K H' φ' S → RW K H' φ' mg w v → Q v H'
/-- a method, which may write -/
def rM (g : So → W → List W → Option (W × So)) : V → List V → Hp → VK → Prop := fun v1 vs H Q => ∃ φ S x ws w S', SR K H φ S ∧ RW K H φ mg x v1 ∧ RWs K H φ mg ws vs ∧ g S x ws = some (w, S') ∧
  ∀ φ' H' v, Ext φ H φ' H' → SR K H' φ' S' → RW K H' φ' mg w v → Q v H'
/-- a def's promise -/
def spF (F : DF) : Sp := fun vs H Q E => ∃ φ S ws r, SR K H φ S ∧ RWs K H φ mg ws vs ∧ F ws S = some r ∧ oE K mg E φ H Q r
end
abbrev SE (X : Cx) (E : EK) (e : Expr) (d : DE) : Prop := PE X e (tE X.K X.mg E d)
abbrev ST (X : Cx) (E : EK) (e : Expr) (d : DT) : Prop := PT X e (tT X.K X.mg E d)
abbrev SA (X : Cx) (E : EK) (es : List Expr) (d : DA) : Prop := PA X es (tA X.K X.mg E d)
abbrev SS (X : Cx) (E : EK) (s : Stmt) (d : DS) : Prop := PS X s (tS X.K X.mg E d)
abbrev SSs (X : Cx) (E : EK) (ss : List Stmt) (d : DS) : Prop := PSs X ss (tS X.K X.mg E d)

section
variable {X : Cx} {E : EK} {pos p : Pos}
theorem PEw {e : Expr} {t t' : TE} (h : PE X e t) (k : ∀ σ H Q, t' σ H Q → t σ H Q) : PE X e t' := ⟨fun pins s σ H Q I q => h.run pins s σ H Q I (k σ H Q q)⟩
theorem PTw {e : Expr} {t t' : TT} (h : PT X e t) (k : ∀ σ H Q, t' σ H Q → t σ H Q) : PT X e t' := ⟨fun pins s σ H Q I q => h.run pins s σ H Q I (k σ H Q q)⟩
theorem PWw {e : Expr} {t t' : TT} (h : PW X e t) (k : ∀ σ H Q, t' σ H Q → t σ H Q) : PW X e t' := ⟨fun wh pins s σ H Q I q => h.run wh pins s σ H Q I (k σ H Q q)⟩
theorem PAw {e : List Expr} {t t' : TA} (h : PA X e t) (k : ∀ σ H Q, t' σ H Q → t σ H Q) : PA X e t' := ⟨fun ps pins s σ H Q I q => h.run ps pins s σ H Q I (k σ H Q q)⟩
theorem PSw {e : Stmt} {t t' : TS} (h : PS X e t) (k : ∀ D σ H, t' D σ H → t D σ H) : PS X e t' := ⟨fun pins s σ H D I q => h.run pins s σ H D I (k D σ H q)⟩
theorem PSsw {e : List Stmt} {t t' : TS} (h : PSs X e t) (k : ∀ D σ H, t' D σ H → t D σ H) : PSs X e t' := ⟨fun pins s σ H D I q => h.run pins s σ H D I (k D σ H q)⟩

/-! ### names, constants -/
def dVar (i : Nat) : DE := fun σ S => match σ[i]? with
  | some (some w) => some (.ok w S)
  | _ => none
def dC (x : PyData) : DE := fun _ S => some (.ok (.d x) S)
def dG (x : Str) : DE := fun _ S => some (.ok (.g x) S)
theorem e_var (i : Nat) {x : Str} (hN : X.N[i]? = some x := by rfl) (hv : Vis X.env.scope x := by first | exact Or.inl rfl | exact Or.inr (Or.inl rfl) | exact Or.inr (Or.inr rfl)) (hd : (x == ("__debug__" : Str)) = false := by decide)
    (hcd : (x == ("__classdict__" : Str)) = false := by decide) : SE X E (.Name x p) (dVar i) := by
  refine PEw (pe_var hN hv hd hcd) fun σV H Q h => ?_
  obtain ⟨φ, σ, S, r, hs, he, hd, hq⟩ := h
  unfold dVar at hd
  split at hd
  · rename_i w hw
    cases hd
    obtain ⟨v, h1, h2⟩ := he.at_ i w hw
    exact ⟨v, h1, hq φ H v .refl hs h2⟩
  · cases hd
theorem e_c {e : Expr} {v : V} {x : PyData} (h : PE X e (tC v)) (hx : ∀ H φ, RD X.K H φ x v) : SE X E e (dC x) :=
  PEw h fun σV H Q ⟨φ, σ, S, r, hs, he, hd, hq⟩ => by cases hd; exact hq φ H v .refl hs (hx H φ)
theorem e_int {i j} : SE X E (.Constant (.int i) j p) (dC (.int i)) := e_c pe_int fun _ _ => rfl
theorem e_bl {b j} : SE X E (.Constant (.bool b) j p) (dC (.bool b)) := e_c pe_bl fun _ _ => rfl
theorem e_non {j} : SE X E (.Constant .none j p) (dC .none) := e_c pe_non fun _ _ => rfl
theorem e_str {x j} : SE X E (.Constant (.str x) j p) (dC (.str x)) := e_c pe_str fun _ _ => rfl
/-- a constant of the module -/
theorem e_glob {x : Str} {v : V} {u : Value} {c : PyData} (hm : X.mg x = some u) (hr : RelV v u) (hx : ∀ H φ, RD X.K H φ c v) (hg : Gl X x := by rfl) (hd : (x == ("__debug__" : Str)) = false := by decide) : SE X E (.Name x p) (dC c) :=
  e_c (pe_glob hg hm hr hd) hx
/-- a def of the module, as a value -/
theorem e_def {x : Str} {f : Addr} (hm : X.mg x = some (.ref f)) (hg : Gl X x := by rfl) (hd : (x == ("__debug__" : Str)) = false := by decide) : SE X E (.Name x p) (dG x) :=
  PEw (pe_glob (v := .ref f) hg hm rfl hd) fun σV H Q ⟨φ, σ, S, r, hs, he, hd, hq⟩ => by cases hd; exact hq φ H _ .refl hs ⟨f, hm, rfl⟩

/-! ### operators -/
def dBin (g : So → W → W → Option W) (a b : DE) : DE := fun σ S => bnd (a σ S) fun x S1 => bnd (b σ S1) fun y S2 => giv (g S2 x y) S2
def dUn (g : So → W → Option W) (a : DE) : DE := fun σ S => bnd (a σ S) fun x S1 => giv (g S1 x) S1
variable {a b c : Expr} {da db dc : DE}
theorem XR.keep {E : XK} {x : XV} {H H1 : Hp} {φ φ1 : Fi} {S : So} (e : Ext φ H φ1 H1)
    (h : ∀ φ' H', Ext φ H φ' H' → SR X.K H' φ' S → XR X.K X.mg E x H' φ') : ∀ φ' H', Ext φ1 H1 φ' H' → SR X.K H' φ' S → XR X.K X.mg E x H' φ' := fun φ' H' e' s => h φ' H' (e.trans e') s
theorem bin_rd {g : So → W → W → Option W} {r : R2} (hr : ∀ v1 v2 H Q, rO X.K X.mg g v1 v2 H Q → r v1 v2 H Q) (σV : L2.St) (H : Hp) (Q : VK) (h : tE X.K X.mg E (dBin g da db) σV H Q) : tOp r (tE X.K X.mg E da) (tE X.K X.mg E db) σV H Q := by
  obtain ⟨φ, σ, S, r', hs, he, hd, hq⟩ := h
  unfold dBin at hd
  match ha : da σ S, hd with
  | none, hd => cases hd
  | some (.xc x S1), hd =>
    cases hd
    exact ⟨φ, σ, S, .xc x S1, hs, he, ha, hq⟩
  | some (.ok x S1), hd =>
    refine ⟨φ, σ, S, .ok x S1, hs, he, ha, fun φ1 H1 v1 e1 s1 x1 => ?_⟩
    rw [bnd_ok] at hd
    match hb : db σ S1, hd with
    | none, hd => cases hd
    | some (.xc y S2), hd =>
      cases hd
      exact ⟨φ1, σ, S1, .xc y S2, s1, he.mono e1, hb, XR.keep e1 hq⟩
    | some (.ok y S2), hd =>
      refine ⟨φ1, σ, S1, .ok y S2, s1, he.mono e1, hb, fun φ2 H2 v2 e2 s2 y2 => hr _ _ _ _ ?_⟩
      rw [bnd_ok] at hd
      match hg : g S2 x y, hd with
      | none, hd => cases hd
      | some w, hd =>
        cases hd
        exact ⟨φ2, S2, x, y, w, s2, x1.mono e2, y2, hg, fun φ' H' v e' => hq φ' H' v ((e1.trans e2).trans e')⟩
theorem e_bin {op : Operator} {g : So → W → W → Option W} (ho : OpR X (binaryOp op) (rO X.K X.mg g)) (ha : SE X E a da) (hb : SE X E b db) : SE X E (.BinOp a op b pos) (dBin g da db) :=
  PEw (pe_op ho ha hb) fun σV H Q h => bin_rd (fun _ _ _ _ q => q) σV H Q h
theorem e_cmp {op : CmpOp} {g : So → W → W → Option W} (ho : OpR X (compareOp op) (rO X.K X.mg g)) (ha : SE X E a da) (hb : SE X E b db) (hm : behindInMarks op b = false := by first | exact nomark _ | rfl) : SE X E (.Compare a [op] [b] pos) (dBin g da db) :=
  PEw (pe_cmpR ho ha hb hm) fun σV H Q h => bin_rd (fun _ _ _ _ q => q) σV H Q h
theorem un_rd {g : So → W → Option W} (σV : L2.St) (H : Hp) (Q : VK) (h : tE X.K X.mg E (dUn g da) σV H Q) : tUn (rU1 X.K X.mg g) (tE X.K X.mg E da) σV H Q := by
  obtain ⟨φ, σ, S, r', hs, he, hd, hq⟩ := h
  unfold dUn at hd
  match ha : da σ S, hd with
  | none, hd => cases hd
  | some (.xc x S1), hd =>
    cases hd
    exact ⟨φ, σ, S, .xc x S1, hs, he, ha, hq⟩
  | some (.ok x S1), hd =>
    refine ⟨φ, σ, S, .ok x S1, hs, he, ha, fun φ1 H1 v1 e1 s1 x1 => ?_⟩
    rw [bnd_ok] at hd
    match hg : g S1 x, hd with
    | none, hd => cases hd
    | some w, hd =>
      cases hd
      exact ⟨φ1, S1, x, w, s1, x1, hg, fun φ' H' v e' => hq φ' H' v (e1.trans e')⟩
theorem e_un {op : UnaryOp} {g : So → W → Option W} (ho : UnR X (unaryOp op) (rU1 X.K X.mg g)) (ha : SE X E a da) : SE X E (.UnaryOp op a pos) (dUn g da) :=
  PEw (pe_un ho ha) un_rd

/-! ### tests -/
def bOf : W → Option Bool
  | .d (.bool b) => some b
  | _ => none
@[simp] theorem bOf_b (b : Bool) : bOf (.d (.bool b)) = some b := rfl
/-- a value that is a bool, as a test -/
def dB (d : DE) : DT := fun σ S => bnd (d σ S) fun w S1 => giv (bOf w) S1
theorem bOf_eq {w : W} {b : Bool} (h : bOf w = some b) : w = .d (.bool b) := by
  unfold bOf at h; split at h
  · cases h; rfl
  · cases h
theorem b_rd (σV : L2.St) (H : Hp) (Q : Bool → Hp → Prop) (h : tT X.K X.mg E (dB da) σV H Q) : tE X.K X.mg E da σV H fun x H' => ∃ k, x = .bl k ∧ Q k H' := by
  obtain ⟨φ, σ, S, r', hs, he, hd, hq⟩ := h
  unfold dB at hd
  match ha : da σ S, hd with
  | none, hd => cases hd
  | some (.xc x S1), hd => cases hd; exact ⟨φ, σ, S, .xc x S1, hs, he, ha, hq⟩
  | some (.ok x S1), hd =>
    refine ⟨φ, σ, S, .ok x S1, hs, he, ha, fun φ1 H1 v1 e1 s1 x1 => ?_⟩
    rw [bnd_ok] at hd
    match hg : bOf x, hd with
    | none, hd => cases hd
    | some k, hd =>
      cases hd
      rw [bOf_eq hg] at x1
      exact ⟨k, x1, hq φ1 H1 e1 s1⟩
theorem t_cmp {op : CmpOp} {g : So → W → W → Option W} (ho : OpR X (compareOp op) (rO X.K X.mg g)) (ha : SE X E a da) (hb : SE X E b db) (hm : behindInMarks op b = false := by first | exact nomark _ | rfl) : ST X E (.Compare a [op] [b] pos) (dB (dBin g da db)) := by
  refine PTw (pt_cmpR ho ha hb hm) fun σV H Q h => ?_
  have h1 := b_rd σV H Q h
  exact bin_rd (fun _ _ _ _ q => q) σV H _ h1
theorem t_val {e : Expr} {d : DE} (h : SE X E e d) (he : ∀ whole, isTrue e X.env whole = (do let v ← whole; standAt e.pos; holding [v] (truthy v)) := by intro _; rfl) : ST X E e (dB d) :=
  PTw (pt_val h he) fun σV H Q q => b_rd σV H Q q
/-- the truth of any value -/
def rd (S : So) : W → Option PyData
  | .d x => some x
  | .r n => match S[n]? with
    | some (.lst xs) => some (.list xs)
    | _ => none
  | .g _ => none
  | .s xs => some (.list xs)
  | .p _ _ => none
  | .x _ => none
@[simp] theorem rd_d (S : So) (x : PyData) : rd S (.d x) = some x := rfl
def truD : PyData → Option Bool
  | .none => some false
  | .bool b => some b
  | .int i => some (i != 0)
  | .list xs => some (!xs.isEmpty)
  | .tuple xs => some (!xs.isEmpty)
  | _ => none
def dTr (d : DE) : DT := fun σ S => bnd (d σ S) fun w S1 => giv ((rd S1 w).bind truD) S1
theorem RDs.isEmpty {K : PySem.W.Frag} {H : Hp} {φ : Fi} {ds : List PyData} {vs : List V} (h : RDs K H φ ds vs) : ds.isEmpty = vs.isEmpty := by
  cases ds with
  | nil => cases h; rfl
  | cons d ds => obtain ⟨v, r, e, _⟩ := h; subst e; rfl
theorem seqL_of {K : PySem.W.Frag} {mg : Str → Option Value} {H : Hp} {φ : Fi} {S : So} {w : W} {v : V} {ds : List PyData} (hs : SR K H φ S) (h : RW K H φ mg w v) (e : rd S w = some (.list ds)) : ∃ a vs, v = .ref a ∧ SqL K H a vs ∧ RDs K H φ ds vs := by
  cases w with
  | d x => cases e; obtain ⟨a, vs, e1, h1, h2⟩ := h; exact ⟨a, vs, e1, h1.sq, h2⟩
  | r n =>
    obtain ⟨a, h1, e1⟩ := h
    obtain ⟨o, h2, h3⟩ := hs.get h1
    unfold rd at e
    simp only [h2] at e
    cases o with
    | lst xs => cases e; obtain ⟨vs, q1, q2⟩ := h3; exact ⟨a, vs, e1, .of q1, q2⟩
    | dk _ => cases e
    | dt _ => cases e
    | lkK _ => cases e
    | lkT _ => cases e
  | g x => cases e
  | s xs => cases e; obtain ⟨a, vs, e1, h1, h2⟩ := h; exact ⟨a, vs, e1, h1.elim (fun q => q.sq) fun q => .inr q, h2⟩
  | p _ _ => cases e
  | x _ => cases e
theorem tup_of {K : PySem.W.Frag} {mg : Str → Option Value} {H : Hp} {φ : Fi} {S : So} {w : W} {v : V} {ds : List PyData} (h : RW K H φ mg w v) (e : rd S w = some (.tuple ds)) : ∃ a vs, v = .ref a ∧ TP K H a vs ∧ RDs K H φ ds vs := by
  cases w with
  | d x => cases e; exact h
  | r n =>
    unfold rd at e
    dsimp only at e
    split at e <;> cases e
  | g x => cases e
  | s xs => cases e
  | p _ _ => cases e
  | x _ => cases e
theorem seqT_of {K : PySem.W.Frag} {mg : Str → Option Value} {H : Hp} {φ : Fi} {S : So} {w : W} {v : V} {ds : List PyData} (h : RW K H φ mg w v) (e : rd S w = some (.tuple ds)) : ∃ a vs, v = .ref a ∧ SqT K H a vs ∧ RDs K H φ ds vs := by
  obtain ⟨a, vs, e1, h1, h2⟩ := tup_of h e
  exact ⟨a, vs, e1, h1.sq, h2⟩
theorem dp_of {K : PySem.W.Frag} {mg : Str → Option Value} {H : Hp} {φ : Fi} {S : So} {w : W} {v : V} {d : PyData} (hs : SR K H φ S) (h : RW K H φ mg w v) (e : rd S w = some d) : Dp K H v d := by
  cases w with
  | d x => cases e; exact RD.dp _ _ h
  | r n =>
    cases d with
    | list ds =>
      obtain ⟨a, vs, e1, h1, h2⟩ := seqL_of hs h e
      subst e1
      exact .lst h1 (RDs.dp _ _ h2)
    | _ =>
      unfold rd at e
      dsimp only at e
      split at e <;> cases e
  | g x => cases e
  | s xs =>
    cases e
    obtain ⟨a, vs, e1, h1, h2⟩ := h
    subst e1
    exact .lst (h1.elim (fun q => q.sq) fun q => .inr q) (RDs.dp _ _ h2)
  | p _ _ => cases e
  | x _ => cases e
theorem rd_eq {S : So} {w : W} {x : PyData} (h : rd S w = some x) (hl : ∀ ds, x ≠ .list ds) : w = .d x := by
  cases w with
  | d y => cases h; rfl
  | r n =>
    unfold rd at h
    dsimp only at h
    split at h
    · cases h; exact absurd rfl (hl _)
    · cases h
  | g _ => cases h
  | s xs => cases h; exact absurd rfl (hl _)
  | p _ _ => cases h
  | x _ => cases h
theorem t_tru {e : Expr} {d : DE} (h : SE X E e d) (he : ∀ whole, isTrue e X.env whole = (do let v ← whole; standAt e.pos; holding [v] (truthy v)) := by intro _; rfl) : ST X E e (dTr d) := by
  refine PTw (pt_truth h he) fun σV H Q q => ?_
  obtain ⟨φ, σ, S, r', hs, hen, hd, hq⟩ := q
  unfold dTr at hd
  match ha : d σ S, hd with
  | none, hd => cases hd
  | some (.xc x S1), hd => cases hd; exact ⟨φ, σ, S, .xc x S1, hs, hen, ha, hq⟩
  | some (.ok x S1), hd =>
    refine ⟨φ, σ, S, .ok x S1, hs, hen, ha, fun φ1 H1 v1 e1 s1 x1 => ?_⟩
    rw [bnd_ok] at hd
    match hg : (rd S1 x).bind truD, hd with
    | none, hd => cases hd
    | some k, hd =>
      cases hd
      refine ⟨k, ?_, hq φ1 H1 e1 s1⟩
      obtain ⟨y, hy, ht⟩ := Option.bind_eq_some_iff.mp hg
      cases y with
      | none => rw [rd_eq hy (by simp)] at x1; cases x1; cases ht; rfl
      | bool b => rw [rd_eq hy (by simp)] at x1; cases x1; cases ht; rfl
      | int i => rw [rd_eq hy (by simp)] at x1; cases x1; cases ht; rfl
      | str _ => cases ht
      | list ds =>
        obtain ⟨a, vs, e2, h1, h2⟩ := seqL_of s1 x1 hy
        subst e2; cases ht
        exact .inl ⟨vs, h1, by rw [RDs.isEmpty h2]⟩
      | tuple ds =>
        obtain ⟨a, vs, e2, h1, h2⟩ := seqT_of x1 hy
        subst e2; cases ht
        exact .inr (.inl ⟨vs, h1, by rw [RDs.isEmpty h2]⟩)
      | dict _ => cases ht
def dAndT (a b : DT) : DT := fun σ S => bnd (a σ S) fun k S1 => if k = true then b σ S1 else some (.ok false S1)
def dOrT (a b : DT) : DT := fun σ S => bnd (a σ S) fun k S1 => if k = true then some (.ok true S1) else b σ S1
def dNotT (a : DT) : DT := fun σ S => bnd (a σ S) fun k S1 => some (.ok (!k) S1)
variable {ta tb : DT} {es : List Expr}
theorem t_and1 (ha : ST X E a ta) : PW X (.BoolOp .And [a] pos) (tT X.K X.mg E ta) := pw_and1 ha
theorem t_or1 (ha : ST X E a ta) : PW X (.BoolOp .Or [a] pos) (tT X.K X.mg E ta) := pw_or1 ha
theorem t_and (ha : ST X E a ta) (hb : PW X (.BoolOp .And (b :: es) pos) (tT X.K X.mg E tb)) : PW X (.BoolOp .And (a :: b :: es) pos) (tT X.K X.mg E (dAndT ta tb)) := by
  refine PWw (pw_and ha hb) fun σV H Q q => ?_
  obtain ⟨φ, σ, S, r', hs, he, hd, hq⟩ := q
  unfold dAndT at hd
  match ha : ta σ S, hd with
  | none, hd => cases hd
  | some (.xc x S1), hd => cases hd; exact ⟨φ, σ, S, .xc x S1, hs, he, ha, hq⟩
  | some (.ok true S1), hd =>
    refine ⟨φ, σ, S, .ok true S1, hs, he, ha, fun φ1 H1 e1 s1 => ?_⟩
    refine iteT ?_
    simp only [bnd_ok, if_true] at hd
    refine ⟨φ1, σ, S1, r', s1, he.mono e1, hd, ?_⟩
    cases r' with
    | ok k S2 => exact fun φ' H' e' => hq φ' H' (e1.trans e')
    | xc x S2 => exact XR.keep e1 hq
  | some (.ok false S1), hd =>
    refine ⟨φ, σ, S, .ok false S1, hs, he, ha, fun φ1 H1 e1 s1 => ?_⟩
    cases hd
    exact hq φ1 H1 e1 s1
theorem t_or (ha : ST X E a ta) (hb : PW X (.BoolOp .Or (b :: es) pos) (tT X.K X.mg E tb)) : PW X (.BoolOp .Or (a :: b :: es) pos) (tT X.K X.mg E (dOrT ta tb)) := by
  refine PWw (pw_or ha hb) fun σV H Q q => ?_
  obtain ⟨φ, σ, S, r', hs, he, hd, hq⟩ := q
  unfold dOrT at hd
  match ha : ta σ S, hd with
  | none, hd => cases hd
  | some (.xc x S1), hd => cases hd; exact ⟨φ, σ, S, .xc x S1, hs, he, ha, hq⟩
  | some (.ok false S1), hd =>
    refine ⟨φ, σ, S, .ok false S1, hs, he, ha, fun φ1 H1 e1 s1 => ?_⟩
    refine iteF ?_
    simp only [bnd_ok, if_neg Bool.false_ne_true] at hd
    refine ⟨φ1, σ, S1, r', s1, he.mono e1, hd, ?_⟩
    cases r' with
    | ok k S2 => exact fun φ' H' e' => hq φ' H' (e1.trans e')
    | xc x S2 => exact XR.keep e1 hq
  | some (.ok true S1), hd =>
    refine ⟨φ, σ, S, .ok true S1, hs, he, ha, fun φ1 H1 e1 s1 => ?_⟩
    cases hd
    exact hq φ1 H1 e1 s1
theorem t_not (ha : ST X E a ta) : ST X E (.UnaryOp .Not a pos) (dNotT ta) := by
  refine PTw (pt_not ha) fun σV H Q q => ?_
  obtain ⟨φ, σ, S, r', hs, he, hd, hq⟩ := q
  unfold dNotT at hd
  match ha : ta σ S, hd with
  | none, hd => cases hd
  | some (.xc x S1), hd => cases hd; exact ⟨φ, σ, S, .xc x S1, hs, he, ha, hq⟩
  | some (.ok k S1), hd =>
    cases hd
    exact ⟨φ, σ, S, .ok k S1, hs, he, ha, fun φ1 H1 e1 s1 => hq φ1 H1 e1 s1⟩
/-- and, or, not as values: all but the last are bools -/
def dAnd (a b : DE) : DE := fun σ S => bnd (a σ S) fun x S1 => match bOf x with
  | some true => b σ S1
  | some false => some (.ok (.d (.bool false)) S1)
  | none => none
def dOr (a b : DE) : DE := fun σ S => bnd (a σ S) fun x S1 => match bOf x with
  | some true => some (.ok (.d (.bool true)) S1)
  | some false => b σ S1
  | none => none
theorem tE_ext {d : DE} {φ φ1 : Fi} {H H1 : Hp} {σ : En} {σV : L2.St} {S1 : So} {r : RE W} {Q : VK} (e1 : Ext φ H φ1 H1) (s1 : SR X.K H1 φ1 S1) (he : ER X.K H φ X.mg σV σ) (hd : d σ S1 = some r)
    (hq : oE X.K X.mg (E σV) φ H Q r) : tE X.K X.mg E d σV H1 Q := by
  refine ⟨φ1, σ, S1, r, s1, he.mono e1, hd, ?_⟩
  cases r with
  | ok k S2 => exact fun φ' H' v e' => hq φ' H' v (e1.trans e')
  | xc x S2 => exact XR.keep e1 hq
theorem e_one {op} {d : DE} (h : SE X E a d) : SE X E (.BoolOp op [a] pos) d := pe_one h
theorem e_and (ha : SE X E a da) (hb : SE X E (.BoolOp .And (b :: es) pos) db) : SE X E (.BoolOp .And (a :: b :: es) pos) (dAnd da db) := by
  refine PEw (pe_and ha hb) fun σV H Q q => ?_
  obtain ⟨φ, σ, S, r', hs, he, hd, hq⟩ := q
  unfold dAnd at hd
  match ha : da σ S, hd with
  | none, hd => cases hd
  | some (.xc x S1), hd => cases hd; exact ⟨φ, σ, S, .xc x S1, hs, he, ha, hq⟩
  | some (.ok x S1), hd =>
    refine ⟨φ, σ, S, .ok x S1, hs, he, ha, fun φ1 H1 v1 e1 s1 x1 => ?_⟩
    rw [bnd_ok] at hd
    match hg : bOf x, hd with
    | none, hd => cases hd
    | some true, hd =>
      rw [bOf_eq hg] at x1
      refine ⟨true, x1, ?_⟩
      refine iteT ?_
      exact tE_ext e1 s1 he hd hq
    | some false, hd =>
      rw [bOf_eq hg] at x1
      refine ⟨false, x1, ?_⟩
      refine iteF ?_
      cases hd
      exact hq φ1 H1 _ e1 s1 rfl
theorem e_or (ha : SE X E a da) (hb : SE X E (.BoolOp .Or (b :: es) pos) db) : SE X E (.BoolOp .Or (a :: b :: es) pos) (dOr da db) := by
  refine PEw (pe_or ha hb) fun σV H Q q => ?_
  obtain ⟨φ, σ, S, r', hs, he, hd, hq⟩ := q
  unfold dOr at hd
  match ha : da σ S, hd with
  | none, hd => cases hd
  | some (.xc x S1), hd => cases hd; exact ⟨φ, σ, S, .xc x S1, hs, he, ha, hq⟩
  | some (.ok x S1), hd =>
    refine ⟨φ, σ, S, .ok x S1, hs, he, ha, fun φ1 H1 v1 e1 s1 x1 => ?_⟩
    rw [bnd_ok] at hd
    match hg : bOf x, hd with
    | none, hd => cases hd
    | some false, hd =>
      rw [bOf_eq hg] at x1
      refine ⟨false, x1, ?_⟩
      refine iteF ?_
      exact tE_ext e1 s1 he hd hq
    | some true, hd =>
      rw [bOf_eq hg] at x1
      refine ⟨true, x1, ?_⟩
      refine iteT ?_
      cases hd
      exact hq φ1 H1 _ e1 s1 rfl
def dNot (a : DE) : DE := fun σ S => bnd (a σ S) fun x S1 => giv ((bOf x).map fun b => .d (.bool (!b))) S1
theorem e_not (ha : SE X E a da) : SE X E (.UnaryOp .Not a pos) (dNot da) := by
  refine PEw (pe_not ha) fun σV H Q q => ?_
  obtain ⟨φ, σ, S, r', hs, he, hd, hq⟩ := q
  unfold dNot at hd
  match ha : da σ S, hd with
  | none, hd => cases hd
  | some (.xc x S1), hd => cases hd; exact ⟨φ, σ, S, .xc x S1, hs, he, ha, hq⟩
  | some (.ok x S1), hd =>
    refine ⟨φ, σ, S, .ok x S1, hs, he, ha, fun φ1 H1 v1 e1 s1 x1 => ?_⟩
    rw [bnd_ok] at hd
    match hg : bOf x, hd with
    | none, hd => cases hd
    | some k, hd =>
      rw [bOf_eq hg] at x1
      cases hd
      exact ⟨k, x1, hq φ1 H1 _ e1 s1 rfl⟩
def dIf (t : DT) (a b : DE) : DE := fun σ S => bnd (t σ S) fun k S1 => if k = true then a σ S1 else b σ S1
theorem e_if {t : Expr} (ht : ST X E t ta) (ha : SE X E a da) (hb : SE X E b db) : SE X E (.IfExp t a b pos) (dIf ta da db) := by
  refine PEw (pe_ifExp ht ha hb) fun σV H Q q => ?_
  obtain ⟨φ, σ, S, r', hs, he, hd, hq⟩ := q
  unfold dIf at hd
  match ha : ta σ S, hd with
  | none, hd => cases hd
  | some (.xc x S1), hd => cases hd; exact ⟨φ, σ, S, .xc x S1, hs, he, ha, hq⟩
  | some (.ok true S1), hd =>
    refine ⟨φ, σ, S, .ok true S1, hs, he, ha, fun φ1 H1 e1 s1 => ?_⟩
    refine iteT ?_
    exact tE_ext e1 s1 he (by simpa using hd) hq
  | some (.ok false S1), hd =>
    refine ⟨φ, σ, S, .ok false S1, hs, he, ha, fun φ1 H1 e1 s1 => ?_⟩
    refine iteF ?_
    exact tE_ext e1 s1 he (by simpa using hd) hq

/-! ### arguments -/
def dNil : DA := fun _ S => some (.ok [] S)
def dCons (a : DE) (r : DA) : DA := fun σ S => bnd (a σ S) fun x S1 => bnd (r σ S1) fun xs S2 => some (.ok (x :: xs) S2)
theorem a_nil : SA X E [] dNil := PAw pa_nil fun σV H Q ⟨φ, σ, S, r, hs, he, hd, hq⟩ => by cases hd; exact hq φ H [] .refl hs rfl
theorem a_cons {dr : DA} (ha : SE X E a da) (hr : SA X E es dr) (hs : starEach (a :: es) X.env = (false, eval a X.env) :: starEach es X.env := by rfl) : SA X E (a :: es) (dCons da dr) := by
  refine PAw (pa_cons ha hr hs) fun σV H Q q => ?_
  obtain ⟨φ, σ, S, r', hs, he, hd, hq⟩ := q
  unfold dCons at hd
  match ha : da σ S, hd with
  | none, hd => cases hd
  | some (.xc x S1), hd => cases hd; exact ⟨φ, σ, S, .xc x S1, hs, he, ha, hq⟩
  | some (.ok x S1), hd =>
    refine ⟨φ, σ, S, .ok x S1, hs, he, ha, fun φ1 H1 v1 e1 s1 x1 => ?_⟩
    rw [bnd_ok] at hd
    match hb : dr σ S1, hd with
    | none, hd => cases hd
    | some (.xc y S2), hd =>
      cases hd
      exact ⟨φ1, σ, S1, .xc y S2, s1, he.mono e1, hb, XR.keep e1 hq⟩
    | some (.ok xs S2), hd =>
      cases hd
      exact ⟨φ1, σ, S1, .ok xs S2, s1, he.mono e1, hb, fun φ2 H2 vs e2 s2 y2 => hq φ2 H2 (v1 :: vs) (e1.trans e2) s2 ⟨v1, vs, rfl, x1.mono e2, y2⟩⟩
/-- a call of a built-in -/
def dCall (g : So → List W → Option W) (as : DA) : DE := fun σ S => bnd (as σ S) fun ws S1 => giv (g S1 ws) S1
theorem call_rd {g : So → List W → Option W} {das : DA} (σV : L2.St) (H : Hp) (Q : VK) (h : tE X.K X.mg E (dCall g das) σV H Q) : tCB (rC X.K X.mg g) (tA X.K X.mg E das) σV H Q := by
  obtain ⟨φ, σ, S, r', hs, he, hd, hq⟩ := h
  unfold dCall at hd
  match ha : das σ S, hd with
  | none, hd => cases hd
  | some (.xc x S1), hd => cases hd; exact ⟨φ, σ, S, .xc x S1, hs, he, ha, hq⟩
  | some (.ok ws S1), hd =>
    refine ⟨φ, σ, S, .ok ws S1, hs, he, ha, fun φ1 H1 vs e1 s1 x1 => ?_⟩
    rw [bnd_ok] at hd
    match hg : g S1 ws, hd with
    | none, hd => cases hd
    | some w, hd =>
      cases hd
      exact ⟨φ1, S1, ws, w, s1, x1, hg, fun φ' H' v e' => hq φ' H' v (e1.trans e')⟩
variable {x : Str} {das : DA}
theorem e_callB {id : String} {g : So → List W → Option W} (hc : CallR X (.builtin id) (rC X.K X.mg g)) (hm : X.mg x = none) (ha : SA X E (a :: es) das) (hg : Gl X x := by rfl) (hv : bootBuiltins x = some (.builtin id) := by decide +kernel) (hn : x ≠ "__name__" := by decide) (hdb : (x == ("__debug__" : Str)) = false := by decide)
    (he : starEach (a :: es) X.env = (false, eval a X.env) :: starEach es X.env := by rfl) (hpl : (backTo pos (starEach es X.env)).any (·.1) = false := by rfl) : SE X E (.Call (.Name x p) (a :: es) [] pos) (dCall g das) :=
  PEw (pe_callB hc hg hm hv ha hn hdb he hpl) call_rd
theorem e_callTy {T : String} {g : So → List W → Option W} (hc : CallR X (.type T) (rC X.K X.mg g)) (hm : X.mg x = none) (ha : SA X E (a :: es) das) (hg : Gl X x := by rfl) (hv : bootBuiltins x = some (.type T) := by decide +kernel) (hn : x ≠ "__name__" := by decide) (hdb : (x == ("__debug__" : Str)) = false := by decide)
    (he : starEach (a :: es) X.env = (false, eval a X.env) :: starEach es X.env := by rfl) (hpl : (backTo pos (starEach es X.env)).any (·.1) = false := by rfl) : SE X E (.Call (.Name x p) (a :: es) [] pos) (dCall g das) :=
  PEw (pe_callTy hc hg hm hv ha hn hdb he hpl) call_rd
/-- a call of a def -/
def dFn (F : DF) (as : DA) : DE := fun σ S => bnd (as σ S) fun ws S1 => F ws S1
theorem fn_rd {F : DF} (σV : L2.St) (H : Hp) (Q : VK) (h : tE X.K X.mg E (dFn F das) σV H Q) : tCallX (spF X.K X.mg F) [] E (tA X.K X.mg E das) σV H Q := by
  obtain ⟨φ, σ, S, r', hs, he, hd, hq⟩ := h
  unfold dFn at hd
  match ha : das σ S, hd with
  | none, hd => cases hd
  | some (.xc x S1), hd => cases hd; exact ⟨φ, σ, S, .xc x S1, hs, he, ha, hq⟩
  | some (.ok ws S1), hd =>
    refine ⟨φ, σ, S, .ok ws S1, hs, he, ha, fun φ1 H1 vs e1 s1 x1 => ?_⟩
    rw [bnd_ok] at hd
    refine ⟨φ1, S1, ws, r', s1, by rw [List.append_nil]; exact x1, hd, ?_⟩
    cases r' with
    | ok w S2 => exact fun φ' H' v e' => hq φ' H' v (e1.trans e')
    | xc x S2 => exact XR.keep e1 hq
variable {CX : CXT} {k : Nat} {f : Addr} {fd : FuncData} {ps : List Str} {F : DF}
theorem e_fn (hF : FnG X.prog X.w X.K X.mg X.base CX k f fd ps (spF X.K X.mg F)) (hgd : X.A.guards = some []) (hr : Room k X.A) (hm : X.mg x = some (.ref f)) (hk : PySem.W.keepIn X.K (.ref f) = true) (hb : Binds X.K fd ps []) (hx : PaAt CX X E)
    (ha : SA X E (a :: es) das) (hg : Gl X x := by rfl) (hdb : (x == ("__debug__" : Str)) = false := by decide) (he : starEach (a :: es) X.env = (false, eval a X.env) :: starEach es X.env := by rfl) (hpl : (backTo pos (starEach es X.env)).any (·.1) = false := by rfl) :
    SE X E (.Call (.Name x p) (a :: es) [] pos) (dFn F das) := PEw (pe_fnG hF hgd hr hg hm hk hb .nil hx ha hdb he hpl) fn_rd
theorem e_fn0 (hF : FnG X.prog X.w X.K X.mg X.base CX k f fd ps (spF X.K X.mg F)) (hgd : X.A.guards = some []) (hr : Room k X.A) (hm : X.mg x = some (.ref f)) (hk : PySem.W.keepIn X.K (.ref f) = true) (hb : Binds X.K fd ps []) (hx : PaAt CX X E)
    (hg : Gl X x := by rfl) (hdb : (x == ("__debug__" : Str)) = false := by decide) : SE X E (.Call (.Name x p) [] [] pos) (dFn F dNil) :=
  PEw (pe_fnG0 hF hgd hr hg hm hk hb .nil hx hdb) fun σV H Q h => by
    obtain ⟨φ, σ, S, r', hs, he, hd, hq⟩ := h
    exact ⟨φ, S, [], r', hs, rfl, hd, hq⟩
/-- a def that a local name holds: its function is looked up by its name -/
def dHeld (i : Nat) (T : Str → Option DF) (as : DA) : DE := fun σ S => match σ[i]? with
  | some (some (.g x)) => match T x with
    | some F => bnd (as σ S) fun ws S1 => F ws S1
    | none => none
  | _ => none
theorem e_held (i : Nat) {T : Str → Option DF} (hT : ∀ x F, T x = some F → ∃ f, X.mg x = some (.ref f) ∧ HeldG X CX k f (spF X.K X.mg F)) (hinj : ∀ x y f, (T x).isSome = true → (T y).isSome = true → X.mg x = some (.ref f) → X.mg y = some (.ref f) → x = y)
    (hgd : X.A.guards = some []) (hr : Room k X.A) (hx : PaAt CX X E) (ha : SA X E (a :: es) das) (hN : X.N[i]? = some x := by rfl) (hv : Vis X.env.scope x := by first | exact Or.inl rfl | exact Or.inr (Or.inl rfl) | exact Or.inr (Or.inr rfl))
    (hdb : (x == ("__debug__" : Str)) = false := by decide) (hcd : (x == ("__classdict__" : Str)) = false := by decide) (he : starEach (a :: es) X.env = (false, eval a X.env) :: starEach es X.env := by rfl) (hpl : (backTo pos (starEach es X.env)).any (·.1) = false := by rfl) :
    SE X E (.Call (.Name x p) (a :: es) [] pos) (dHeld i T das) := by
  classical
  let S : Addr → Option Sp := fun f => if h : ∃ y F, T y = some F ∧ X.mg y = some (.ref f) then some (spF X.K X.mg (Classical.choose (Classical.choose_spec h))) else none
  have hS : ∀ f sp, S f = some sp → HeldG X CX k f sp := fun f sp h => by
    by_cases hh : ∃ y F, T y = some F ∧ X.mg y = some (.ref f)
    · simp only [S, dif_pos hh] at h
      cases h
      obtain ⟨h1, h2⟩ := Classical.choose_spec (Classical.choose_spec hh)
      obtain ⟨g, h3, h4⟩ := hT _ _ h1
      rw [h2] at h3
      cases h3
      exact h4
    · simp only [S, dif_neg hh] at h; cases h
  refine PEw (pe_heldG (S := S) (i := i) hS hgd hr hN hv hx ha hdb hcd he hpl) fun σV H Q q => ?_
  obtain ⟨φ, σ, S', r', hs, hen, hd, hq⟩ := q
  unfold dHeld at hd
  split at hd
  · rename_i y hy
    split at hd
    · rename_i F hF
      obtain ⟨v, h1, f, h2, h3⟩ := hen.at_ i _ hy
      subst h3
      have hh : ∃ y F, T y = some F ∧ X.mg y = some (.ref f) := ⟨y, F, hF, h2⟩
      have hSf : S f = some (spF X.K X.mg F) := by
        simp only [S, dif_pos hh]
        obtain ⟨q1, q2⟩ := Classical.choose_spec (Classical.choose_spec hh)
        have e := hinj _ y f (by rw [q1]; rfl) (by rw [hF]; rfl) q2 h2
        have e2 : T (Classical.choose hh) = some F := by rw [e]; exact hF
        rw [q1] at e2
        rw [Option.some.inj e2]
      refine ⟨f, _, h1, hSf, ?_⟩
      have := fn_rd (X := X) (E := E) (F := F) (das := das) σV H Q ⟨φ, σ, S', r', hs, hen, hd, hq⟩
      obtain ⟨φ0, σ0, S0, r0, a1, a2, a3, a4⟩ := this
      refine ⟨φ0, σ0, S0, r0, a1, a2, a3, ?_⟩
      cases r0 with
      | ok ws S2 =>
        intro φ' H' vs e s' x'
        have h : spF X.K X.mg F (vs ++ []) H' Q (E σV) := a4 φ' H' vs e s' x'
        rw [List.append_nil] at h
        exact h
      | xc y S2 => exact a4
    · cases hd
  · cases hd
/-- o.m(..) of a built-in type, which may write -/
def dMt (g : So → W → List W → Option (W × So)) (o : DE) (as : DA) : DE := fun σ S => bnd (o σ S) fun x S1 => bnd (as σ S1) fun ws S2 => match g S2 x ws with
  | some (w, S3) => some (.ok w S3)
  | none => none
end
end CL
end

section
/-! part CLStm -/
set_option Elab.async false
set_option linter.all false
set_option maxRecDepth 100000
/-! CLStm: statements, loops, comprehensions, new objects, defs. -/
namespace CL
open PySem PySem.Spec PyProof.Rows L2

def bndS {α : Type} (σ : En) (m : M α) (f : α → So → Option Out) : Option Out := match m with
  | none => none
  | some (.xc x S) => some (.xc x σ S)
  | some (.ok a S) => f a S
@[simp] theorem bndS_ok {α : Type} (σ : En) (a : α) (S : So) (f : α → So → Option Out) : bndS σ (some (.ok a S)) f = f a S := rfl
@[simp] theorem bndS_none {α : Type} (σ : En) (f : α → So → Option Out) : bndS σ none f = none := rfl
@[simp] theorem bndS_xc {α : Type} (σ : En) (x : XV) (S : So) (f : α → So → Option Out) : bndS σ (some (.xc x S)) f = some (.xc x σ S) := rfl

section
variable {X : Cx} {E : EK} {pos p : Pos} {e : Expr} {d : DE} {st : Stmt} {sts : List Stmt} {ds es : DS}
theorem oS_keep {φ φ1 : Fi} {H H1 : Hp} {D : Ends} {o : Out} (e1 : Ext φ H φ1 H1) (h : oS X.K X.mg E φ H D o) : oS X.K X.mg E φ1 H1 D o := by
  cases o with
  | nx σ S => exact fun φ' H' σV e' => h φ' H' σV (e1.trans e')
  | rt w S => exact fun φ' H' σV e' => h φ' H' σV (e1.trans e')
  | bk σ S => exact fun φ' H' σV e' => h φ' H' σV (e1.trans e')
  | ct σ S => exact fun φ' H' σV e' => h φ' H' σV (e1.trans e')
  | xc x σ S => exact fun φ' H' σV e' => h φ' H' σV (e1.trans e')
theorem tS_ext {φ φ1 : Fi} {H H1 : Hp} {σ : En} {σV : L2.St} {S1 : So} {o : Out} {D : Ends} (e1 : Ext φ H φ1 H1) (s1 : SR X.K H1 φ1 S1) (he : ER X.K H1 φ1 X.mg σV σ) (hd : ds σ S1 = some o)
    (hq : oS X.K X.mg E φ H D o) : tS X.K X.mg E ds D σV H1 := ⟨φ1, σ, S1, o, s1, he, hd, oS_keep e1 hq⟩

/-! ### blocks -/
def sNil : DS := fun σ S => some (.nx σ S)
def sCons (a b : DS) : DS := fun σ S => match a σ S with
  | some (.nx σ1 S1) => b σ1 S1
  | o => o
theorem ss_nil : SSs X E [] sNil := PSsw pss_nil fun D σV H ⟨φ, σ, S, o, hs, he, hd, hq⟩ => by cases hd; exact hq φ H σV .refl hs he
theorem ss_cons (h1 : SS X E st ds) (h2 : SSs X E sts es) : SSs X E (st :: sts) (sCons ds es) := by
  refine PSsw (pss_cons h1 h2) fun D σV H q => ?_
  obtain ⟨φ, σ, S, o, hs, he, hd, hq⟩ := q
  unfold sCons at hd
  match ha : ds σ S, hd with
  | none, hd => cases hd
  | some (.nx σ1 S1), hd => exact ⟨φ, σ, S, .nx σ1 S1, hs, he, ha, fun φ1 H1 σV1 e1 s1 r1 => tS_ext e1 s1 r1 hd hq⟩
  | some (.rt w S1), hd => cases hd; exact ⟨φ, σ, S, .rt w S1, hs, he, ha, hq⟩
  | some (.bk w S1), hd => cases hd; exact ⟨φ, σ, S, .bk w S1, hs, he, ha, hq⟩
  | some (.ct w S1), hd => cases hd; exact ⟨φ, σ, S, .ct w S1, hs, he, ha, hq⟩
  | some (.xc w σ1 S1), hd => cases hd; exact ⟨φ, σ, S, .xc w σ1 S1, hs, he, ha, hq⟩
theorem ss_one (h1 : SS X E st ds) : SSs X E [st] ds := pss_one h1
/-- x = e -/
def sSet (i : Nat) (d : DE) : DS := fun σ S => bndS σ (d σ S) fun w S1 => some (.nx (σ.set i (some w)) S1)
theorem s_set (i : Nat) {x : Str} {pos' : Pos} (hN : X.N.Nodup) (he : SE X E e d) (hi : X.N[i]? = some x := by rfl) (hx : Loc X.env.scope x := by first | exact Or.inl rfl | exact Or.inr rfl) (hs : swapsWith e (some (.Name x pos')) pos.line X.env = pure false := by rfl)
    (hf : X.fn x = true ∨ X.env.scope.names.lookup x = some .local := by first | exact .inl rfl | exact .inr rfl) : SS X E (.Assign [.Name x pos'] e pos) (sSet i d) := by
  refine PSw (ps_set hN hi hx he hs hf) fun D σV H q => ?_
  obtain ⟨φ, σ, S, o, hs, hen, hd, hq⟩ := q
  unfold sSet at hd
  match ha : d σ S, hd with
  | none, hd => cases hd
  | some (.xc x S1), hd => cases hd; exact ⟨φ, σ, S, .xc x S1, hs, hen, ha, fun φ' H' e s => hq φ' H' σV e s (hen.mono e)⟩
  | some (.ok w S1), hd =>
    cases hd
    exact ⟨φ, σ, S, .ok w S1, hs, hen, ha, fun φ1 H1 v e1 s1 x1 => hq φ1 H1 _ e1 s1 ((hen.mono e1).set x1)⟩
def sDrop (d : DE) : DS := fun σ S => bndS σ (d σ S) fun _ S1 => some (.nx σ S1)
theorem s_expr (he : SE X E e d) (hs : swapsWith e none pos.line X.env = pure false := by rfl) : SS X E (.Expr e pos) (sDrop d) := by
  refine PSw (ps_expr he hs) fun D σV H q => ?_
  obtain ⟨φ, σ, S, o, hs, hen, hd, hq⟩ := q
  unfold sDrop at hd
  match ha : d σ S, hd with
  | none, hd => cases hd
  | some (.xc x S1), hd => cases hd; exact ⟨φ, σ, S, .xc x S1, hs, hen, ha, fun φ' H' e s => hq φ' H' σV e s (hen.mono e)⟩
  | some (.ok w S1), hd =>
    cases hd
    exact ⟨φ, σ, S, .ok w S1, hs, hen, ha, fun φ1 H1 v e1 s1 x1 => hq φ1 H1 _ e1 s1 (hen.mono e1)⟩
def sRet (d : DE) : DS := fun σ S => bndS σ (d σ S) fun w S1 => some (.rt w S1)
theorem s_ret (he : SE X E e d) : SS X E (.Return (some e) pos) (sRet d) := by
  refine PSw (ps_ret he) fun D σV H q => ?_
  obtain ⟨φ, σ, S, o, hs, hen, hd, hq⟩ := q
  unfold sRet at hd
  match ha : d σ S, hd with
  | none, hd => cases hd
  | some (.xc x S1), hd => cases hd; exact ⟨φ, σ, S, .xc x S1, hs, hen, ha, fun φ' H' e s => hq φ' H' σV e s (hen.mono e)⟩
  | some (.ok w S1), hd => cases hd; exact ⟨φ, σ, S, .ok w S1, hs, hen, ha, hq⟩
def sIf (t : DT) (a b : DS) : DS := fun σ S => bndS σ (t σ S) fun k S1 => if k = true then a σ S1 else b σ S1
theorem s_if {c : Expr} {a b : List Stmt} {dt : DT} {da db : DS} (ht : ST X E c dt) (ha : SSs X E a da) (hb : SSs X E b db) : SS X E (.If c a b pos) (sIf dt da db) := by
  refine PSw (ps_if ht ha hb) fun D σV H q => ?_
  obtain ⟨φ, σ, S, o, hs, hen, hd, hq⟩ := q
  unfold sIf at hd
  match ha : dt σ S, hd with
  | none, hd => cases hd
  | some (.xc x S1), hd => cases hd; exact ⟨φ, σ, S, .xc x S1, hs, hen, ha, fun φ' H' e s => hq φ' H' σV e s (hen.mono e)⟩
  | some (.ok true S1), hd =>
    exact ⟨φ, σ, S, .ok true S1, hs, hen, ha, fun φ1 H1 e1 s1 => iteT (tS_ext e1 s1 (hen.mono e1) (by simpa using hd) hq)⟩
  | some (.ok false S1), hd =>
    exact ⟨φ, σ, S, .ok false S1, hs, hen, ha, fun φ1 H1 e1 s1 => iteF (tS_ext e1 s1 (hen.mono e1) (by simpa using hd) hq)⟩
def sNever : DS := fun _ _ => none
theorem s_never : SS X E st sNever := PSw ps_never fun D σV H ⟨φ, σ, S, o, hs, he, hd, hq⟩ => by cases hd
def sPass : DS := fun σ S => some (.nx σ S)
theorem s_pass : SS X E (.Pass pos) sPass := PSw ps_pass fun D σV H ⟨φ, σ, S, o, hs, he, hd, hq⟩ => by cases hd; exact hq φ H σV .refl hs he
def sBreak : DS := fun σ S => some (.bk σ S)
theorem s_break : SS X E (.Break pos) sBreak := PSw ps_break fun D σV H ⟨φ, σ, S, o, hs, he, hd, hq⟩ => by cases hd; exact hq φ H σV .refl hs he
def sCont : DS := fun σ S => some (.ct σ S)
theorem s_continue : SS X E (.Continue pos) sCont := PSw ps_continue fun D σV H ⟨φ, σ, S, o, hs, he, hd, hq⟩ => by cases hd; exact hq φ H σV .refl hs he

/-! ### targets -/
/-- a name in slot i, or a tuple of names -/
inductive Tg where
  | nm (i : Nat)
  | tp (is : List Nat)
def setW : En → List Nat → List W → Option En
  | σ, [], [] => some σ
  | σ, i :: is, w :: ws => setW (σ.set i (some w)) is ws
  | _, _, _ => none
def setV : L2.St → List Nat → List V → L2.St
  | σ, i :: is, v :: vs => setV (σ.set i (some v)) is vs
  | σ, _, _ => σ
def bindT : Tg → W → En → Option En
  | .nm i, w, σ => some (σ.set i (some w))
  | .tp is, .d (.tuple ds), σ => setW σ is (ds.map W.d)
  | _, _, _ => none
/-- a target's reading: how the slots change is told -/
def gT (K : PySem.W.Frag) : Tg → TG
  | .nm i => gName i
  | .tp is => fun v σ H Q => ∃ a xs, v = .ref a ∧ SqT K H a xs ∧ xs.length = is.length ∧ Q (setV σ is xs) H
theorem g_nm (i : Nat) {x : Str} (hN : X.N.Nodup) (hi : X.N[i]? = some x := by rfl) (hx : Loc X.env.scope x := by first | exact Or.inl rfl | exact Or.inr rfl) (hf : X.fn x = true ∨ X.env.scope.names.lookup x = some .local := by first | exact .inl rfl | exact .inr rfl) : PG X (.Name x pos) (gT X.K (.nm i)) := pg_name hN hi hx hf
structure PGw (X : Cx) (ts : List Expr) (is : List Nat) : Prop where
  run : ∃ t, PGs X ts t ∧ ∀ vs σ H Q, vs.length = is.length → Q (setV σ is vs) H → t vs σ H Q
theorem g_nil : PGw X [] [] := ⟨_, pgs_nil, fun vs σ H Q hl h => by cases vs with
  | nil => exact ⟨rfl, h⟩
  | cons _ _ => cases hl⟩
theorem g_cons {ts : List Expr} {is : List Nat} (i : Nat) {x : Str} (hN : X.N.Nodup) (h : PGw X ts is) (hi : X.N[i]? = some x := by rfl) (hx : Loc X.env.scope x := by first | exact Or.inl rfl | exact Or.inr rfl)
    (hf : X.fn x = true ∨ X.env.scope.names.lookup x = some .local := by first | exact .inl rfl | exact .inr rfl) (hs : (assignEach (.Name x pos :: ts) X.env).map (·.2) = assign (.Name x pos) X.env :: (assignEach ts X.env).map (·.2) := by rfl) : PGw X (.Name x pos :: ts) (i :: is) := by
  obtain ⟨t, h1, h2⟩ := h.run
  refine ⟨_, pgs_cons (pg_name hN hi hx hf) h1 hs, fun vs σ H Q hl q => ?_⟩
  cases vs with
  | nil => cases hl
  | cons v vs => exact ⟨v, vs, rfl, h2 vs _ H Q (by simpa using hl) q⟩
theorem PGweak {tg : Expr} {t t' : TG} (h : PG X tg t) (k : ∀ v σ H Q, t' v σ H Q → t v σ H Q) : PG X tg t' := ⟨fun pins s σ H v u Q I r q => h.run pins s σ H v u Q I r (k v σ H Q q)⟩
theorem g_tp {ts : List Expr} {is : List Nat} {k : Nat} (h : PGw X ts is) (hc : X.calm = true := by rfl) (hn : (assignEach ts X.env).length = is.length := by rfl) (hst : (assignEach ts X.env).findIdx? (·.1) = none := by rfl) : PG X (.Tuple ts k pos) (gT X.K (.tp is)) := by
  obtain ⟨t, h1, h2⟩ := h.run
  refine PGweak (pg_tup hc h1 hn hst) fun v σ H Q q => ?_
  obtain ⟨a, xs, e1, hq, hl, q⟩ := q
  exact ⟨a, xs, e1, hq, hl, h2 xs σ H Q hl q⟩
section
variable {K : PySem.W.Frag} {mg : Str → Option Value} {H : Hp} {φ : Fi}
theorem setW_er : ∀ {is : List Nat} {ds : List PyData} {vs : List V} {σ σ' : En} {σV : L2.St}, ER K H φ mg σV σ → RDs K H φ ds vs → setW σ is (ds.map W.d) = some σ' → ER K H φ mg (setV σV is vs) σ' ∧ vs.length = is.length
  | [], [], _, _, _, _, he, h, q => by cases h; cases q; exact ⟨he, rfl⟩
  | [], _ :: _, _, _, _, _, _, _, q => by cases q
  | _ :: _, [], _, _, _, _, _, _, q => by cases q
  | i :: is, d :: ds, _, σ, σ', σV, he, ⟨v, r, e, h, t⟩, q => by
    subst e
    obtain ⟨h1, h2⟩ := setW_er (he.set (w := .d d) h) t q
    exact ⟨h1, by simp [h2]⟩
theorem gT_ok {tg : Tg} {w : W} {v : V} {σ σ' : En} {σV : L2.St} {Q : L2.St → Hp → Prop} (he : ER K H φ mg σV σ) (hw : RW K H φ mg w v) (hb : bindT tg w σ = some σ')
    (q : ∀ σV', ER K H φ mg σV' σ' → Q σV' H) : gT K tg v σV H Q := by
  cases tg with
  | nm i => cases hb; exact q _ (he.set hw)
  | tp is =>
    cases w with
    | d x =>
      cases x with
      | tuple ds =>
        obtain ⟨a, vs, e1, h1, h2⟩ := hw
        obtain ⟨h3, h4⟩ := setW_er he h2 hb
        exact ⟨a, vs, e1, h1.sq, h4, q _ h3⟩
      | _ => cases hb
    | _ => cases hb
end
/-- target = e -/
def sAsg (tg : Tg) (d : DE) : DS := fun σ S => bndS σ (d σ S) fun w S1 => (bindT tg w σ).map fun σ1 => .nx σ1 S1
theorem s_asg {tg : Tg} {t : Expr} (he : SE X E e d) (hg : PG X t (gT X.K tg)) (hs : swapsWithSole [t] e pos.line X.env = pure false := by rfl) (hw : swappedStores [t] e X.env = pure none := by rfl)
    (h1 : (assignEach [t] X.env).map (·.2) = [assign t X.env] := by rfl) : SS X E (.Assign [t] e pos) (sAsg tg d) := by
  refine PSw (ps_asg he hg hs hw h1) fun D σV H q => ?_
  obtain ⟨φ, σ, S, o, hs, hen, hd, hq⟩ := q
  unfold sAsg at hd
  match ha : d σ S, hd with
  | none, hd => cases hd
  | some (.xc x S1), hd => cases hd; exact ⟨φ, σ, S, .xc x S1, hs, hen, ha, fun φ' H' e s => hq φ' H' σV e s (hen.mono e)⟩
  | some (.ok w S1), hd =>
    rw [bndS_ok] at hd
    match hb : bindT tg w σ, hd with
    | none, hd => cases hd
    | some σ1, hd =>
      cases hd
      exact ⟨φ, σ, S, .ok w S1, hs, hen, ha, fun φ1 H1 v e1 s1 x1 => gT_ok (hen.mono e1) x1 hb fun σV' h => hq φ1 H1 σV' e1 s1 h⟩
/-- a, b = x, y: both sides written -/
def sPar (is : List Nat) (as : DA) : DS := fun σ S => bndS σ (as σ S) fun ws S1 => (setW σ is ws).map fun σ1 => .nx σ1 S1
theorem setW_erW : ∀ {K : PySem.W.Frag} {mg : Str → Option Value} {H : Hp} {φ : Fi} {is : List Nat} {ws : List W} {vs : List V} {σ σ' : En} {σV : L2.St}, ER K H φ mg σV σ → RWs K H φ mg ws vs → setW σ is ws = some σ' → ER K H φ mg (setV σV is vs) σ' ∧ vs.length = is.length
  | _, _, _, _, [], [], _, _, _, _, he, h, q => by cases h; cases q; exact ⟨he, rfl⟩
  | _, _, _, _, [], _ :: _, _, _, _, _, _, _, q => by cases q
  | _, _, _, _, _ :: _, [], _, _, _, _, _, _, q => by cases q
  | _, _, _, _, i :: is, w :: ws, _, σ, σ', σV, he, ⟨v, r, e, h, t⟩, q => by
    subst e
    obtain ⟨h1, h2⟩ := setW_erW (he.set h) t q
    exact ⟨h1, by simp [h2]⟩
/-- .. by the model's swap of two plain local names -/
theorem s_par2 (i j : Nat) {x y : Str} {a b : Expr} {das : DA} {px py pt : Pos} {kt k2 pt2} (hN : X.N.Nodup) (ha : SA X E [a, b] das) (hi : X.N[i]? = some x := by rfl) (hj : X.N[j]? = some y := by rfl) (hij : i ≠ j := by decide)
    (hx : X.env.scope.names.lookup x = some .local := by rfl) (hy : X.env.scope.names.lookup y = some .local := by rfl) (hc : X.calm = true := by rfl)
    (hw : swappedStores [.Tuple [.Name x px, .Name y py] kt pt] (.Tuple [a, b] k2 pt2) X.env = pure (some [x, y]) := by rfl)
    (hs : swapsWithSole [.Tuple [.Name x px, .Name y py] kt pt] (.Tuple [a, b] k2 pt2) pos.line X.env = pure false := by rfl) :
    SS X E (.Assign [.Tuple [.Name x px, .Name y py] kt pt] (.Tuple [a, b] k2 pt2) pos) (sPar [i, j] das) := by
  refine PSw (ps_par hc hN hi hj hij hx hy ha hw hs) fun D σV H q => ?_
  obtain ⟨φ, σ, S, o, hs, hen, hd, hq⟩ := q
  unfold sPar at hd
  match ha : das σ S, hd with
  | none, hd => cases hd
  | some (.xc x S1), hd => cases hd; exact ⟨φ, σ, S, .xc x S1, hs, hen, ha, fun φ' H' e s => hq φ' H' σV e s (hen.mono e)⟩
  | some (.ok ws S1), hd =>
    rw [bndS_ok] at hd
    match hb : setW σ [i, j] ws, hd with
    | none, hd => cases hd
    | some σ1, hd =>
      cases hd
      refine ⟨φ, σ, S, .ok ws S1, hs, hen, ha, fun φ1 H1 vs e1 s1 x1 => ?_⟩
      obtain ⟨h1, h2⟩ := setW_erW (hen.mono e1) x1 hb
      match vs, h2 with
      | [v, w], _ => exact ⟨v, w, rfl, hq φ1 H1 _ e1 s1 h1⟩
/-- .. by a tuple made and taken apart -/
theorem s_parT {ts as : List Expr} {is : List Nat} {das : DA} {kt k2 : Nat} {pt pt2 : Pos} (hg : PGw X ts is) (ha : SA X E as das) (hsz : is.length ≤ 1000 := by decide) (hc : X.calm = true := by rfl) (hn : (assignEach ts X.env).length = is.length := by rfl) (hst : (assignEach ts X.env).findIdx? (·.1) = none := by rfl)
    (hs : swapsWithSole [.Tuple ts kt pt] (.Tuple as k2 pt2) pos.line X.env = pure false := by rfl) (hw : swappedStores [.Tuple ts kt pt] (.Tuple as k2 pt2) X.env = pure none := by rfl)
    (h1 : (assignEach [.Tuple ts kt pt] X.env).map (·.2) = [assign (.Tuple ts kt pt) X.env] := by rfl) : SS X E (.Assign [.Tuple ts kt pt] (.Tuple as k2 pt2) pos) (sPar is das) := by
  refine PSw (ps_asg (pe_tup ha) (g_tp hg hc hn hst) hs hw h1) fun D σV H q => ?_
  obtain ⟨φ, σ, S, o, hs, hen, hd, hq⟩ := q
  unfold sPar at hd
  match ha : das σ S, hd with
  | none, hd => cases hd
  | some (.xc x S1), hd => cases hd; exact ⟨φ, σ, S, .xc x S1, hs, hen, ha, fun φ' H' e s => hq φ' H' σV e s (hen.mono e)⟩
  | some (.ok ws S1), hd =>
    rw [bndS_ok] at hd
    match hb : setW σ is ws, hd with
    | none, hd => cases hd
    | some σ1, hd =>
      cases hd
      refine ⟨φ, σ, S, .ok ws S1, hs, hen, ha, fun φ1 H1 vs e1 s1 x1 => ?_⟩
      obtain ⟨h1, h2⟩ := setW_erW (hen.mono e1) x1 hb
      refine ⟨?_, fun p hp => ⟨p, vs, rfl, .of upd_same, h2, ?_⟩⟩
      · rw [h2, sizeLine_eq]; omega
      · have e2 := Ext.new (o := .tup vs) hp s1
        exact hq φ1 _ _ (e1.trans e2) (s1.new hp) (h1.mono e2)

/-! ### what is walked -/
mutual
def eqD : PyData → PyData → Bool
  | .none, .none => true
  | .bool a, .bool b => a == b
  | .int a, .int b => a == b
  | .str a, .str b => a == b
  | .list xs, .list ys => eqDs xs ys
  | .tuple xs, .tuple ys => eqDs xs ys
  | _, _ => false
def eqDs : List PyData → List PyData → Bool
  | [], [] => true
  | x :: xs, y :: ys => eqD x y && eqDs xs ys
  | _, _ => false
end
mutual
theorem eqD_eq : ∀ (x y : PyData), eqD x y = true → x = y
  | .none, .none, _ => rfl
  | .bool a, .bool b, h => by simp [eqD] at h; rw [h]
  | .int a, .int b, h => by simp [eqD] at h; rw [h]
  | .str a, .str b, h => by simp [eqD] at h; rw [h]
  | .list xs, .list ys, h => by rw [eqDs_eq xs ys (by simpa [eqD] using h)]
  | .tuple xs, .tuple ys, h => by rw [eqDs_eq xs ys (by simpa [eqD] using h)]
  | .none, .bool _, h | .none, .int _, h | .none, .str _, h | .none, .list _, h | .none, .tuple _, h | .none, .dict _, h => by simp [eqD] at h
  | .bool _, .none, h | .bool _, .int _, h | .bool _, .str _, h | .bool _, .list _, h | .bool _, .tuple _, h | .bool _, .dict _, h => by simp [eqD] at h
  | .int _, .none, h | .int _, .bool _, h | .int _, .str _, h | .int _, .list _, h | .int _, .tuple _, h | .int _, .dict _, h => by simp [eqD] at h
  | .str _, .none, h | .str _, .bool _, h | .str _, .int _, h | .str _, .list _, h | .str _, .tuple _, h | .str _, .dict _, h => by simp [eqD] at h
  | .list _, .none, h | .list _, .bool _, h | .list _, .int _, h | .list _, .str _, h | .list _, .tuple _, h | .list _, .dict _, h => by simp [eqD] at h
  | .tuple _, .none, h | .tuple _, .bool _, h | .tuple _, .int _, h | .tuple _, .str _, h | .tuple _, .list _, h | .tuple _, .dict _, h => by simp [eqD] at h
  | .dict _, .none, h | .dict _, .bool _, h | .dict _, .int _, h | .dict _, .str _, h | .dict _, .list _, h | .dict _, .tuple _, h | .dict _, .dict _, h => by simp [eqD] at h
theorem eqDs_eq : ∀ (x y : List PyData), eqDs x y = true → x = y
  | [], [], _ => rfl
  | x :: xs, y :: ys, h => by
    simp [eqDs] at h
    rw [eqD_eq x y h.1, eqDs_eq xs ys h.2]
  | [], _ :: _, h => by simp [eqDs] at h
  | _ :: _, [], h => by simp [eqDs] at h
end
mutual
def plD : PyData → Bool
  | .dict _ => false
  | .list xs => plDs xs
  | .tuple xs => plDs xs
  | _ => true
def plDs : List PyData → Bool
  | [] => true
  | x :: xs => plD x && plDs xs
end
mutual
theorem eqD_refl : ∀ x : PyData, plD x = true → eqD x x = true
  | .none, _ => rfl
  | .bool _, _ => by simp [eqD]
  | .int _, _ => by simp [eqD]
  | .str _, _ => by simp [eqD]
  | .list xs, h => eqDs_refl xs h
  | .tuple xs, h => eqDs_refl xs h
  | .dict _, h => by cases h
theorem eqDs_refl : ∀ xs : List PyData, plDs xs = true → eqDs xs xs = true
  | [], _ => rfl
  | x :: xs, h => by
    simp [plDs] at h
    simp [eqDs, eqD_refl x h.1, eqDs_refl xs h.2]
end
/-- the items, and the object of the store that is walked, if it is one -/
abbrev DI := En → So → M (List PyData × Option Nat)
def keepB (o : Option Nat) (ds : List PyData) (S : So) : Bool := match o with
  | none => true
  | some n => match S[n]? with
    | some (.lst ys) => eqDs ds ys
    | _ => false
structure ItD (K : PySem.W.Frag) (J : It) (ds : List PyData) (o : Option Nat) (φ0 : Fi) (H0 : Hp) : Prop where
  go : ∀ φ H S i d, Ext φ0 H0 φ H → SR K H φ S → keepB o ds S = true → ds[i]? = some d → J.go i H ∧ ∀ x H', J.yld i H x H' → Ext φ H φ H' ∧ SR K H' φ S ∧ RD K H' φ d x
  stop : ∀ φ H S, Ext φ0 H0 φ H → SR K H φ S → keepB o ds S = true → J.stop ds.length H
def oI (K : PySem.W.Frag) (mg : Str → Option Value) (E : XK) (φ : Fi) (H : Hp) (R : It → Hp → Prop) : RE (List PyData × Option Nat) → Prop
  | .ok ds S' => ∀ φ' H' J, Ext φ H φ' H' → SR K H' φ' S' → ItD K J ds.1 ds.2 φ' H' → ds.1.length ≤ sizeLine → R J H'
  | .xc x S' => ∀ φ' H', Ext φ H φ' H' → SR K H' φ' S' → XR K mg E x H' φ'
def iD (K : PySem.W.Frag) (mg : Str → Option Value) (E : EK) (d : DI) : TI := fun σV H R => ∃ φ σ S r, SR K H φ S ∧ ER K H φ mg σV σ ∧ d σ S = some r ∧ oI K mg (E σV) φ H R r
abbrev SI (X : Cx) (E : EK) (tg e : Expr) (d : DI) : Prop := PI X tg e (iD X.K X.mg E d)
theorem PIw {tg e : Expr} {t t' : TI} (h : PI X tg e t) (k : ∀ σ H R, t' σ H R → t σ H R) : PI X tg e t' := ⟨fun pins s σ H R I q => h.run pins s σ H R I (k σ H R q)⟩
/-- a list or a tuple is walked; its size is told -/
theorem pi_seqZ {tg l : Expr} {tl : TE} (hl : PE X l tl) : PI X tg l (fun σ H R => tl σ H fun x H1 => ∃ a xs, x = .ref a ∧
    ((SqL X.K H1 a xs ∧ (xs.length ≤ sizeLine → R (Itl X.K a) H1)) ∨ (SqT X.K H1 a xs ∧ (xs.length ≤ sizeLine → R (Itt X.K a) H1)))) := by
  refine ⟨fun pins s σ H R I h => ?_⟩
  refine thn (hl.run pins s σ H _ I h) fun v s1 ⟨x, H1, I1, r1, q1⟩ => ?_
  obtain ⟨a, xs, e, q⟩ := q1
  subst e
  cases r1
  have fresh : ∀ b ∈ [s1.heap.objs.size], FpOk X pins H1 b := fun b hb => by
    have e : b = s1.heap.objs.size := by simpa using hb
    rw [e]; exact I1.fpOk (Nat.le_refl _) (I1.hok.fresh (Nat.le_refl _))
  rcases q with ⟨hq, q⟩ | ⟨hq, q⟩
  · obtain ⟨its, rv, pl, hz⟩ := I1.list hq
    refine wpAny_pyIter_list pl.isList ?_
    exact ⟨_, _, _, _, H1, rfl, I1.kept (t' := s1.toks) fun b o e => Heap.get?_push_of_some _ e, turn_list a _, ⟨_, Heap.get?_push_size _ rfl, rfl, rfl⟩, fresh, q hz⟩
  · obtain ⟨its, rv, pl, hz⟩ := I1.tuple hq
    refine wpAny_pyIter_tuple (show s1.heap.IsTuple a its.toArray from pl) ?_
    exact ⟨_, _, _, _, H1, rfl, I1.kept (t' := s1.toks) fun b o e => Heap.get?_push_of_some _ e, turn_tuple a _, ⟨_, Heap.get?_push_size _ rfl, rfl, rfl⟩, fresh, q hz⟩
def dSeq (d : DE) : DI := fun σ S => bnd (d σ S) fun w S1 => match w with
  | .d (.list xs) => some (.ok (xs, none) S1)
  | .d (.tuple xs) => some (.ok (xs, none) S1)
  | .r n => match S1[n]? with
    | some (.lst xs) => some (.ok (xs, some n) S1)
    | _ => none
  | _ => none
theorem itl_it {K : PySem.W.Frag} {a : Addr} {vs : List V} {ds : List PyData} {φ : Fi} {H : Hp} (h : FL H φ a vs) (hd : RDs K H φ ds vs) : ItD K (Itl K a) ds none φ H where
  go := fun φ2 H2 S i d e s _ hi => by
    have hf := FL.sq (K := K) (h.mono e)
    have hr := RDs.mono e _ _ hd
    obtain ⟨v, hv, hw⟩ := hr.get hi
    exact ⟨⟨vs, v, hf, hv⟩, fun x H' ⟨e1, y⟩ => by subst e1; rw [Option.some.inj ((y vs hf).symm.trans hv)]; exact ⟨.refl, s, hw⟩⟩
  stop := fun φ2 H2 S e s _ => ⟨vs, (h.mono e).sq, by rw [hd.length]; exact Nat.le_refl _⟩
theorem itt_it {K : PySem.W.Frag} {a : Addr} {vs : List V} {ds : List PyData} {φ : Fi} {H : Hp} (h : TP K H a vs) (hd : RDs K H φ ds vs) : ItD K (Itt K a) ds none φ H where
  go := fun φ2 H2 S i d e s _ hi => by
    have hf := TP.sq (K := K) (TP.mono e h)
    have hr := RDs.mono e _ _ hd
    obtain ⟨v, hv, hw⟩ := hr.get hi
    exact ⟨⟨vs, v, hf, hv⟩, fun x H' ⟨e1, y⟩ => by subst e1; rw [Option.some.inj ((y vs hf).symm.trans hv)]; exact ⟨.refl, s, hw⟩⟩
  stop := fun φ2 H2 S e s _ => ⟨vs, (TP.mono e h).sq, by rw [hd.length]; exact Nat.le_refl _⟩
theorem itr_it {K : PySem.W.Frag} {a : Addr} {n : Nat} {ds : List PyData} {φ : Fi} {H : Hp} (h : φ.l[n]? = some a) : ItD K (Itl K a) ds (some n) φ H := by
  have key : ∀ φ2 H2 S, Ext φ H φ2 H2 → SR K H2 φ2 S → keepB (some n) ds S = true → ∃ vs, SqL K H2 a vs ∧ RDs K H2 φ2 ds vs := fun φ2 H2 S e s hk => by
    unfold keepB at hk
    dsimp only at hk
    split at hk
    · rename_i ys hy
      have e1 := eqDs_eq _ _ hk
      subst e1
      obtain ⟨t, ht⟩ := e.pre
      have h2 : φ2.l[n]? = some a := by rw [← ht, List.getElem?_append_left (List.getElem?_eq_some_iff.mp h).1]; exact h
      obtain ⟨vs, q1, q2⟩ := s.ob n a _ h2 hy
      exact ⟨vs, .of q1, q2⟩
    · cases hk
  refine ⟨fun φ2 H2 S i d e s hk hi => ?_, fun φ2 H2 S e s hk => ?_⟩
  · obtain ⟨vs, hf, hr⟩ := key φ2 H2 S e s hk
    obtain ⟨v, hv, hw⟩ := hr.get hi
    exact ⟨⟨vs, v, hf, hv⟩, fun x H' ⟨e1, y⟩ => by subst e1; rw [Option.some.inj ((y vs hf).symm.trans hv)]; exact ⟨.refl, s, hw⟩⟩
  · obtain ⟨vs, hf, hr⟩ := key φ2 H2 S e s hk
    exact ⟨vs, hf, by rw [hr.length]; exact Nat.le_refl _⟩
theorem i_seq {tg : Expr} (he : SE X E e d) : SI X E tg e (dSeq d) := by
  refine PIw (pi_seqZ he) fun σV H R q => ?_
  obtain ⟨φ, σ, S, r', hs, hen, hd, hq⟩ := q
  unfold dSeq at hd
  match ha : d σ S, hd with
  | none, hd => cases hd
  | some (.xc x S1), hd => cases hd; exact ⟨φ, σ, S, .xc x S1, hs, hen, ha, hq⟩
  | some (.ok w S1), hd =>
    refine ⟨φ, σ, S, .ok w S1, hs, hen, ha, fun φ1 H1 v e1 s1 x1 => ?_⟩
    rw [bnd_ok] at hd
    match w, hd, x1 with
    | .d (.list xs), hd, ⟨a, vs, e2, h1, h2⟩ =>
      cases hd
      exact ⟨a, vs, e2, .inl ⟨h1.sq, fun hz => hq φ1 H1 _ e1 s1 (itl_it h1 h2) (by rw [← h2.length]; exact hz)⟩⟩
    | .d (.tuple xs), hd, ⟨a, vs, e2, h1, h2⟩ =>
      cases hd
      exact ⟨a, vs, e2, .inr ⟨h1.sq, fun hz => hq φ1 H1 _ e1 s1 (itt_it h1 h2) (by rw [← h2.length]; exact hz)⟩⟩
    | .r n, hd, ⟨a, h1, e2⟩ =>
      dsimp only at hd
      split at hd
      · rename_i xs hx
        cases hd
        obtain ⟨vs, q1, q2⟩ := s1.ob n a _ h1 hx
        exact ⟨a, vs, e2, .inl ⟨.of q1, fun hz => hq φ1 H1 _ e1 s1 (itr_it h1) (by rw [← q2.length]; exact hz)⟩⟩
      · cases hd
/-- range(n), range(a, b) -/
def rng (a b : Int) : List PyData := (List.range (b - a).toNat).map fun (i : Nat) => .int (a + (i : Int))
def dRng1 (as : DA) : DI := fun σ S => bnd (as σ S) fun ws S1 => match ws with
  | [.d (.int n)] => if n < 16777216 ∧ -16777216 < n then some (.ok (rng 0 n, none) S1) else none
  | _ => none
def dRng2 (as : DA) : DI := fun σ S => bnd (as σ S) fun ws S1 => match ws with
  | [.d (.int m), .d (.int n)] => if n < 8000000 ∧ -8000000 < n ∧ m < 8000000 ∧ -8000000 < m then some (.ok (rng m n, none) S1) else none
  | _ => none
theorem rng_it {K : PySem.W.Frag} {a b : Int} {φ : Fi} {H : Hp} : ItD K (Itr a (b - a).toNat) (rng a b) none φ H where
  go := fun φ2 H2 S i d e s _ hi => by
    unfold rng at hi
    have hl : i < (b - a).toNat := by
      have := (List.getElem?_eq_some_iff.mp hi).1
      simpa using this
    simp [List.getElem?_range, hl] at hi
    exact ⟨hl, fun x H' ⟨e1, e2⟩ => by subst e1; subst hi; exact ⟨.refl, s, e2⟩⟩
  stop := fun φ2 H2 S e s _ => by show (b - a).toNat ≤ _; simp [rng]
theorem rng_len (a b : Int) : (rng a b).length = (b - a).toNat := by simp [rng]
theorem i_rng1 {tg a : Expr} {das : DA} (hm : X.mg "range" = none) (ha : SA X E [a] das) (hg : Gl X "range" := by rfl) (hs : starEach [a] X.env = [(false, eval a X.env)] := by rfl) : SI X E tg (.Call (.Name "range" p) [a] [] pos) (dRng1 das) := by
  refine PIw (pi_range1 hg hm ha hs) fun σV H R q => ?_
  obtain ⟨φ, σ, S, r', hs, hen, hd, hq⟩ := q
  unfold dRng1 at hd
  match ha : das σ S, hd with
  | none, hd => cases hd
  | some (.xc x S1), hd => cases hd; exact ⟨φ, σ, S, .xc x S1, hs, hen, ha, hq⟩
  | some (.ok ws S1), hd =>
    refine ⟨φ, σ, S, .ok ws S1, hs, hen, ha, fun φ1 H1 vs e1 s1 x1 => ?_⟩
    rw [bnd_ok] at hd
    split at hd
    · rename_i n
      split at hd
      · rename_i hn
        cases hd
        obtain ⟨v, r, e2, h1, h2⟩ := x1
        cases h1; cases h2
        refine ⟨n, e2, by omega, by omega, ?_⟩
        have := hq φ1 H1 (Itr 0 (n - 0).toNat) e1 s1 rng_it (by rw [rng_len, sizeLine_eq]; omega)
        simpa using this
      · cases hd
    · cases hd
theorem i_rng2 {tg a b : Expr} {das : DA} (hm : X.mg "range" = none) (ha : SA X E [a, b] das) (hg : Gl X "range" := by rfl) (hs : starEach [a, b] X.env = [(false, eval a X.env), (false, eval b X.env)] := by rfl) (hs2 : starEach [b] X.env = [(false, eval b X.env)] := by rfl) : SI X E tg (.Call (.Name "range" p) [a, b] [] pos) (dRng2 das) := by
  refine PIw (pi_range2 hg hm ha hs hs2) fun σV H R q => ?_
  obtain ⟨φ, σ, S, r', hs, hen, hd, hq⟩ := q
  unfold dRng2 at hd
  match ha : das σ S, hd with
  | none, hd => cases hd
  | some (.xc x S1), hd => cases hd; exact ⟨φ, σ, S, .xc x S1, hs, hen, ha, hq⟩
  | some (.ok ws S1), hd =>
    refine ⟨φ, σ, S, .ok ws S1, hs, hen, ha, fun φ1 H1 vs e1 s1 x1 => ?_⟩
    rw [bnd_ok] at hd
    split at hd
    · rename_i m n
      split at hd
      · rename_i hn
        cases hd
        obtain ⟨v, r, e2, h1, v2, r2, e3, h2, h3⟩ := x1
        cases h1; cases h2; cases h3
        subst e3
        exact ⟨m, n, e2, ⟨by omega, by omega, by omega, by omega⟩, hq φ1 H1 _ e1 s1 rng_it (by rw [rng_len, sizeLine_eq]; omega)⟩
      · cases hd
    · cases hd

/-! ### for -/
def forGo (o : Option Nat) (all : List PyData) (tg : Tg) (body : DS) : List PyData → DS
  | [], σ, S => if keepB o all S = true then some (.nx σ S) else none
  | x :: xs, σ, S => if keepB o all S = true then
      match bindT tg (.d x) σ with
      | none => none
      | some σ1 => match body σ1 S with
        | some (.nx σ2 S2) => forGo o all tg body xs σ2 S2
        | some (.ct σ2 S2) => forGo o all tg body xs σ2 S2
        | some (.bk σ2 S2) => some (.nx σ2 S2)
        | r => r
    else none
def sFor (tg : Tg) (it : DI) (body : DS) : DS := fun σ S => bndS σ (it σ S) fun p S1 => forGo p.2 p.1 tg body p.1 σ S1
theorem s_for {tg : Tg} {t iter : Expr} {body : List Stmt} {di : DI} {db : DS} (hi : SI X E t iter di) (hg : PG X t (gT X.K tg)) (hb : SSs X E body db) (hp : PassesOwn (model X.prog X.w) X.A X.env X.xe := by first | exact PassesOwn.never | assumption) (hc : X.calm = true := by rfl)
    (hs : ∀ x, foldedSetIterable iter X.env x = pure x := by intro _; rfl) : SS X E (.For t iter body [] pos) (sFor tg di db) := by
  refine PSw (ps_for hp hc hi hg hb hs) fun D σV H q => ?_
  obtain ⟨φ, σ, S, r, hs, hen, hd, hq⟩ := q
  unfold sFor at hd
  match ha : di σ S, hd with
  | none, hd => cases hd
  | some (.xc x S1), hd => cases hd; exact ⟨φ, σ, S, .xc x S1, hs, hen, ha, fun φ' H' e s => hq φ' H' σV e s (hen.mono e)⟩
  | some (.ok (ds, o) S1), hd =>
    rw [bndS_ok] at hd
    dsimp only at hd
    refine ⟨φ, σ, S, .ok (ds, o) S1, hs, hen, ha, fun φ1 H1 J e1 s1 it hz => ?_⟩
    have hq1 := oS_keep e1 hq
    refine ⟨fun i m σV2 H2 => ∃ φ2 σ2 S2, i + m = ds.length ∧ Ext φ1 H1 φ2 H2 ∧ SR X.K H2 φ2 S2 ∧ ER X.K H2 φ2 X.mg σV2 σ2 ∧ forGo o ds tg db (ds.drop i) σ2 S2 = some r,
      ⟨ds.length, φ1, σ, S1, by omega, .refl, s1, hen.mono e1, hd⟩, fun i m σV2 H2 hW => ?_⟩
    obtain ⟨φ2, σ2, S2, hm, e2, s2, en2, hf⟩ := hW
    by_cases hlt : i < ds.length
    · have hdr : ds.drop i = ds[i] :: ds.drop (i + 1) := List.drop_eq_getElem_cons hlt
      rw [hdr] at hf
      unfold forGo at hf
      split at hf
      · rename_i hk
        obtain ⟨go, yl⟩ := it.go φ2 H2 S2 i ds[i] e2 s2 hk (List.getElem?_eq_getElem hlt)
        refine .inr ⟨go, fun σ' H' => ∃ φ3 σ3 S3, i + 1 + (m - 1) = ds.length ∧ Ext φ1 H1 φ3 H' ∧ SR X.K H' φ3 S3 ∧ ER X.K H' φ3 X.mg σ' σ3 ∧ forGo o ds tg db (ds.drop (i + 1)) σ3 S3 = some r,
          fun σ' H' hN => ⟨m - 1, by omega, hN⟩, fun x H' hy => ?_⟩
        obtain ⟨e3, s3, x3⟩ := yl x H' hy
        match hbd : bindT tg (.d ds[i]) σ2, hf with
        | none, hf => cases hf
        | some σ3, hf =>
          refine gT_ok (en2.mono e3) (w := .d ds[i]) x3 hbd fun σV3 en3 => ?_
          have e13 := e2.trans e3
          dsimp only at hf
          match hbody : db σ3 S2, hf with
          | none, hf => cases hf
          | some (.nx σ4 S4), hf => exact ⟨φ2, σ3, S2, _, s3, en3, hbody, fun φ5 H5 σV5 e5 s5 en5 => ⟨φ5, σ4, S4, by omega, e13.trans e5, s5, en5, hf⟩⟩
          | some (.ct σ4 S4), hf => exact ⟨φ2, σ3, S2, _, s3, en3, hbody, fun φ5 H5 σV5 e5 s5 en5 => ⟨φ5, σ4, S4, by omega, e13.trans e5, s5, en5, hf⟩⟩
          | some (.bk σ4 S4), hf => cases hf; exact ⟨φ2, σ3, S2, _, s3, en3, hbody, oS_keep (o := .nx σ4 S4) e13 hq1⟩
          | some (.rt w S4), hf => cases hf; exact ⟨φ2, σ3, S2, _, s3, en3, hbody, oS_keep (o := .rt w S4) e13 hq1⟩
          | some (.xc w σ4 S4), hf => cases hf; exact ⟨φ2, σ3, S2, _, s3, en3, hbody, oS_keep (o := .xc w σ4 S4) e13 hq1⟩
      · cases hf
    · have hi : i = ds.length := by omega
      subst hi
      rw [List.drop_length] at hf
      unfold forGo at hf
      split at hf
      · rename_i hk
        cases hf
        exact .inl ⟨it.stop φ2 H2 S2 e2 s2 hk, oS_keep e2 hq1 φ2 H2 σV2 .refl s2 en2⟩
      · cases hf
end
end CL
end

section
/-! part CLNew -/
set_option Elab.async false
set_option linter.all false
set_option maxRecDepth 100000
/-! CLNew: lists that are made (as values, as objects), comprehensions, defs by their bodies. -/
namespace CL
open PySem PySem.Spec PyProof.Rows L2

abbrev DN := En → So → M (List PyData)
section
variable (K : PySem.W.Frag) (mg : Str → Option Value) (E : XK)
/-- a new list stands at a free place -/
def oN (φ : Fi) (H : Hp) (Q : VK) : RE (List PyData) → Prop
  | .ok xs S' => ∀ φ' H' p vs, Ext φ H φ' H' → SR K H' φ' S' → H' p = none → RDs K H' φ' xs vs → Q (.ref p) (upd H' p (.lst vs))
  | .xc x S' => ∀ φ' H', Ext φ H φ' H' → SR K H' φ' S' → XR K mg E x H' φ'
def tN (E : EK) (d : DN) : TE := fun σV H Q => ∃ φ σ S r, SR K H φ S ∧ ER K H φ mg σV σ ∧ d σ S = some r ∧ oN K mg (E σV) φ H Q r
end
abbrev SN (X : Cx) (E : EK) (e : Expr) (d : DN) : Prop := PE X e (tN X.K X.mg E d)
def dFz (d : DN) : DE := fun σ S => bnd (d σ S) fun xs S1 => some (.ok (.d (.list xs)) S1)
def dNew (d : DN) : DE := fun σ S => bnd (d σ S) fun xs S1 => some (.ok (.r S1.length) (S1 ++ [.lst xs]))
section
variable {X : Cx} {E : EK} {pos p : Pos} {e a : Expr} {d : DE} {dn : DN} {es : List Expr} {das : DA}
theorem newFL {K : PySem.W.Frag} {H : Hp} {φ : Fi} {S : So} {p : Addr} {vs : List V} (hs : SR K H φ S) (hp : H p = none) : FL (upd H p (.lst vs)) φ p vs := ⟨.inl upd_same, hs.notin hp, hs.notinh hp⟩
theorem fz_rd (σV : L2.St) (H : Hp) (Q : VK) (q : tE X.K X.mg E (dFz dn) σV H Q) : tN X.K X.mg E dn σV H Q := by
  obtain ⟨φ, σ, S, r, hs, hen, hd, hq⟩ := q
  unfold dFz at hd
  match ha : dn σ S, hd with
  | none, hd => cases hd
  | some (.xc x S1), hd => cases hd; exact ⟨φ, σ, S, .xc x S1, hs, hen, ha, hq⟩
  | some (.ok xs S1), hd =>
    cases hd
    refine ⟨φ, σ, S, .ok xs S1, hs, hen, ha, fun φ1 H1 p vs e1 s1 hp x1 => ?_⟩
    have e2 := Ext.new (o := .lst vs) hp s1
    exact hq φ1 _ _ (e1.trans e2) (s1.new hp) ⟨p, vs, rfl, newFL s1 hp, RDs.mono e2 _ _ x1⟩
theorem e_fz (h : SN X E e dn) : SE X E e (dFz dn) := PEw h fz_rd
theorem e_new (h : SN X E e dn) : SE X E e (dNew dn) := by
  refine PEw h fun σV H Q q => ?_
  obtain ⟨φ, σ, S, r, hs, hen, hd, hq⟩ := q
  unfold dNew at hd
  match ha : dn σ S, hd with
  | none, hd => cases hd
  | some (.xc x S1), hd => cases hd; exact ⟨φ, σ, S, .xc x S1, hs, hen, ha, hq⟩
  | some (.ok xs S1), hd =>
    cases hd
    refine ⟨φ, σ, S, .ok xs S1, hs, hen, ha, fun φ1 H1 p vs e1 s1 hp x1 => ?_⟩
    have e2 := Ext.push (o := .lst vs) hp s1
    refine hq (φ1.push p) _ _ (e1.trans e2) (s1.push hp ⟨vs, upd_same, RDs.mono e2 _ _ x1⟩) ⟨p, ?_, rfl⟩
    show (φ1.l ++ [p])[S1.length]? = some p
    rw [← s1.len]; simp
/-! ### displays -/
def dats : List W → Option (List PyData)
  | [] => some []
  | .d x :: ws => (dats ws).map (x :: ·)
  | _ :: _ => none
theorem dats_rd {K : PySem.W.Frag} {mg : Str → Option Value} {H : Hp} {φ : Fi} : ∀ {ws : List W} {vs : List V} {xs : List PyData}, RWs K H φ mg ws vs → dats ws = some xs → RDs K H φ xs vs
  | [], _, _, h, e => by cases e; exact h
  | .d x :: ws, _, _, ⟨v, r, e1, h1, h2⟩, e => by
    obtain ⟨ys, e2, e3⟩ := Option.map_eq_some_iff.mp e
    subst e3
    exact ⟨v, r, e1, h1, dats_rd h2 e2⟩
  | .r _ :: _, _, _, _, e => by cases e
  | .g _ :: _, _, _, _, e => by cases e
  | .s _ :: _, _, _, _, e => by cases e
  | .p _ _ :: _, _, _, _, e => by cases e
  | .x _ :: _, _, _, _, e => by cases e
def small (n : Nat) : Bool := decide (n ≤ 16777216)
theorem small_le {n : Nat} (h : small n = true) : n ≤ sizeLine := by rw [sizeLine_eq]; exact of_decide_eq_true h
def datz (ws : List W) : Option (List PyData) := if small ws.length = true then dats ws else none
def dLst (as : DA) : DN := fun σ S => bnd (as σ S) fun ws S1 => giv (datz ws) S1
theorem datz_of {ws : List W} {xs : List PyData} (h : datz ws = some xs) : ws.length ≤ sizeLine ∧ dats ws = some xs := by
  unfold datz at h
  split at h
  · rename_i hs; exact ⟨small_le hs, h⟩
  · cases h
theorem RWs.length {K : PySem.W.Frag} {mg : Str → Option Value} {H : Hp} {φ : Fi} : ∀ {ws : List W} {vs : List V}, RWs K H φ mg ws vs → vs.length = ws.length
  | [], _, h => by cases h; rfl
  | _ :: _, _, ⟨_, _, e, _, h⟩ => by subst e; simp [RWs.length h]
theorem n_lst (ha : SA X E es das) : SN X E (.List es pos) (dLst das) := by
  refine PEw (pe_lst ha) fun σV H Q q => ?_
  obtain ⟨φ, σ, S, r, hs, hen, hd, hq⟩ := q
  unfold dLst at hd
  match ha : das σ S, hd with
  | none, hd => cases hd
  | some (.xc x S1), hd => cases hd; exact ⟨φ, σ, S, .xc x S1, hs, hen, ha, hq⟩
  | some (.ok ws S1), hd =>
    rw [bnd_ok] at hd
    match hg : datz ws, hd with
    | none, hd => cases hd
    | some xs, hd =>
      cases hd
      obtain ⟨z, hg⟩ := datz_of hg
      exact ⟨φ, σ, S, .ok ws S1, hs, hen, ha, fun φ1 H1 vs e1 s1 x1 => ⟨by rw [x1.length]; exact z, fun p hp => hq φ1 H1 p vs e1 s1 hp (dats_rd x1 hg)⟩⟩
def dTup (as : DA) : DE := fun σ S => bnd (as σ S) fun ws S1 => giv ((datz ws).map fun xs => .d (.tuple xs)) S1
theorem e_tup {k : Nat} (ha : SA X E es das) : SE X E (.Tuple es k pos) (dTup das) := by
  refine PEw (pe_tup ha) fun σV H Q q => ?_
  obtain ⟨φ, σ, S, r, hs, hen, hd, hq⟩ := q
  unfold dTup at hd
  match ha : das σ S, hd with
  | none, hd => cases hd
  | some (.xc x S1), hd => cases hd; exact ⟨φ, σ, S, .xc x S1, hs, hen, ha, hq⟩
  | some (.ok ws S1), hd =>
    rw [bnd_ok] at hd
    match hg : datz ws, hd with
    | none, hd => cases hd
    | some xs, hd =>
      cases hd
      obtain ⟨z, hg⟩ := datz_of hg
      refine ⟨φ, σ, S, .ok ws S1, hs, hen, ha, fun φ1 H1 vs e1 s1 x1 => ⟨by rw [x1.length]; exact z, fun p hp => ?_⟩⟩
      have e2 := Ext.new (o := .tup vs) hp s1
      exact hq φ1 _ _ (e1.trans e2) (s1.new hp) ⟨p, vs, rfl, upd_same, RDs.mono e2 _ _ (dats_rd x1 hg)⟩

/-! ### comprehensions -/
def wipeW (σ : En) : List Nat → En
  | [] => σ
  | v :: vs => (wipeW σ vs).set v none
theorem wipe_er {K : PySem.W.Frag} {mg : Str → Option Value} {H : Hp} {φ : Fi} {σV : L2.St} {σ : En} (h : ER K H φ mg σV σ) : ∀ vs : List Nat, ER K H φ mg (wipe σV vs) (wipeW σ vs)
  | [] => h
  | v :: vs => by
    have ih := wipe_er h vs
    refine ⟨by unfold wipe wipeW; simp [ih.len], fun i w q => ?_⟩
    unfold wipeW at q
    unfold wipe
    by_cases e : v = i
    · subst e
      by_cases hl : v < (wipeW σ vs).length
      · rw [List.getElem?_set_self hl] at q; cases q
      · rw [List.getElem?_eq_none (by simp; omega)] at q; cases q
    · rw [List.getElem?_set_ne e] at q
      obtain ⟨u, h1, h2⟩ := ih.at_ i w q
      exact ⟨u, by rw [List.getElem?_set_ne e]; exact h1, h2⟩
def subT (tg : Tg) (vs : List Nat) : Bool := match tg with
  | .nm i => vs.contains i
  | .tp is => is.all vs.contains
theorem wipe_at {σV : L2.St} : ∀ {vs : List Nat} {i : Nat}, (wipe σV vs)[i]? = if i ∈ vs then (if i < σV.length then some none else none) else σV[i]?
  | [], i => by simp [wipe]
  | v :: vs, i => by
    unfold wipe
    by_cases e : v = i
    · subst e
      rw [List.getElem?_set_self']
      rw [wipe_at]
      by_cases h1 : v ∈ vs <;> by_cases h2 : v < σV.length <;> simp [h1, h2]
    · rw [List.getElem?_set_ne e, wipe_at]
      by_cases h1 : i ∈ vs
      · simp [h1]
      · simp [h1, Ne.symm e]
theorem wipe_ext {σV σW : L2.St} {vs : List Nat} (hl : σV.length = σW.length) (h : ∀ i, i ∉ vs → σV[i]? = σW[i]?) : wipe σV vs = wipe σW vs := by
  refine List.ext_getElem? fun i => ?_
  rw [wipe_at, wipe_at, hl]
  by_cases hi : i ∈ vs
  · rw [if_pos hi, if_pos hi]
  · rw [if_neg hi, if_neg hi, h i hi]
theorem setV_out : ∀ {is : List Nat} {xs : List V} {σV : L2.St} {i : Nat}, i ∉ is → (setV σV is xs)[i]? = σV[i]?
  | [], _, _, _, _ => rfl
  | _ :: _, [], _, _, _ => rfl
  | j :: is, x :: xs, σV, i, h => by
    unfold setV
    rw [setV_out (fun z => h (List.mem_cons_of_mem _ z)), List.getElem?_set_ne fun z => h (by subst z; exact List.mem_cons_self)]
theorem setV_len : ∀ {is : List Nat} {xs : List V} {σV : L2.St}, (setV σV is xs).length = σV.length
  | [], _, _ => rfl
  | _ :: _, [], _ => rfl
  | j :: is, x :: xs, σV => by unfold setV; rw [setV_len]; simp
theorem wipe_len {σV : L2.St} {vs : List Nat} : (wipe σV vs).length = σV.length := wipe_length _ _
theorem wipe_in {σV : L2.St} {vs : List Nat} : wipe (wipe σV vs) vs = wipe σV vs := wipe_ext wipe_len fun i hi => by rw [wipe_at, if_neg hi]
theorem gT_wipe {K : PySem.W.Frag} {mg : Str → Option Value} {H : Hp} {φ : Fi} {tg : Tg} {w : W} {v : V} {σ σ' : En} {σV : L2.St} {vs : List Nat} {Q : L2.St → Hp → Prop} (he : ER K H φ mg (wipe σV vs) σ) (hw : RW K H φ mg w v) (hb : bindT tg w σ = some σ')
    (hsub : subT tg vs = true) (q : ∀ σV', ER K H φ mg σV' σ' → wipe σV' vs = wipe σV vs → Q σV' H) : gT K tg v (wipe σV vs) H Q := by
  cases tg with
  | nm i =>
    cases hb
    refine q _ (he.set hw) (Eq.trans (wipe_ext (by simp) fun j hj => ?_) wipe_in)
    rw [List.getElem?_set_ne]
    intro e; subst e
    exact hj (by simpa [subT] using hsub)
  | tp is =>
    cases w with
    | d x =>
      cases x with
      | tuple ds =>
        obtain ⟨a, us, e1, h1, h2⟩ := hw
        obtain ⟨h3, h4⟩ := setW_er he h2 hb
        refine ⟨a, us, e1, h1.sq, h4, q _ h3 (Eq.trans (wipe_ext setV_len fun j hj => setV_out fun hm => hj ?_) wipe_in)⟩
        have := List.all_eq_true.mp hsub j hm
        simpa using this
      | _ => cases hb
    | _ => cases hb
def dYes : DT := fun _ S => some (.ok true S)
abbrev STs (X : Cx) (E : EK) (ifs : List Expr) (d : DT) : Prop := PTs X ifs (tT X.K X.mg E d)
theorem ts_nil : STs X E [] dYes := ⟨fun pins s σ H Q I ⟨φ, σ', S, r, hs, he, hd, hq⟩ => by cases hd; exact pts_nil.run pins s σ H Q I (hq φ H .refl hs)⟩
theorem ts_one {c : Expr} {dt : DT} (h : ST X E c dt) : STs X E [c] dt := pts_one h
def lcGo (o : Option Nat) (all : List PyData) (vs : List Nat) (σ : En) (tg : Tg) (cond : DT) (elt : DE) : List PyData → List PyData → So → M (List PyData)
  | [], acc, S => if keepB o all S = true then some (.ok acc S) else none
  | x :: xs, acc, S => if keepB o all S = true then
      match bindT tg (.d x) (wipeW σ vs) with
      | none => none
      | some σ1 => match cond σ1 S with
        | some (.ok true S1) => match elt σ1 S1 with
          | some (.ok (.d y) S2) => lcGo o all vs σ tg cond elt xs (acc ++ [y]) S2
          | _ => none
        | some (.ok false S1) => lcGo o all vs σ tg cond elt xs acc S1
        | _ => none
    else none
def dLc (vs : List Nat) (it : DI) (tg : Tg) (cond : DT) (elt : DE) : DN := fun σ S => bnd (it σ S) fun p S1 => lcGo p.2 p.1 vs σ tg cond elt p.1 [] S1
theorem RDs.unhide {K : PySem.W.Frag} {H : Hp} {φ2 : Fi} {h : List Addr} (hs : ∀ b ∈ h, b ∈ φ2.h) {ds : List PyData} {vs : List V} (q : RDs K H φ2 ds vs) : RDs K H ⟨φ2.l, h⟩ ds vs := RDs.sub (φ := ⟨φ2.l, h⟩) (φ' := φ2) (fun b hb => ⟨hb.1, fun z => hb.2 (hs b z)⟩) ds vs q
theorem SR.unhide {K : PySem.W.Frag} {H : Hp} {φ2 : Fi} {h : List Addr} {S : So} (hs : ∀ b ∈ h, b ∈ φ2.h) (q : SR K H φ2 S) : SR K H ⟨φ2.l, h⟩ S :=
  ⟨q.len, q.nd, fun i a o h1 h2 => by
    have := q.ob i a o h1 h2
    cases o with
    | lst xs => obtain ⟨vs, q1, q2⟩ := this; exact ⟨vs, q1, RDs.unhide hs q2⟩
    | dk xs => obtain ⟨vs, q1, q2, q3⟩ := this; exact ⟨vs, q1, q2, RDs.unhide hs q3⟩
    | dt xs => obtain ⟨vs, q1, q2, q3⟩ := this; exact ⟨vs, q1, q2, RDs.unhide hs q3⟩
    | lkK xs => obtain ⟨vs, q1, q2, q3⟩ := this; exact ⟨vs, q1, q2, RDs.unhide hs q3⟩
    | lkT xs => obtain ⟨vs, q1, q2, q3⟩ := this; exact ⟨vs, q1, q2, RDs.unhide hs q3⟩, fun b hb => q.hid b (hs b hb)⟩
/-- what stands between two turns: the list at D is hidden -/
structure LcSt (X : Cx) (φ1 : Fi) (H1 : Hp) (D : Addr) (σV : L2.St) (σ : En) (φ2 : Fi) (H2 : Hp) (S2 : So) (acc : List PyData) : Prop where
  hD : H1 D = none
  ext : Ext φ1 H1 φ2 H2
  hh : D ∈ φ2.h
  sr : SR X.K H2 φ2 S2
  er : ER X.K H2 φ2 X.mg σV σ
  at_ : ∃ vs, H2 D = some (.lst vs) ∧ RDs X.K H2 φ2 acc vs
theorem LcSt.step {φ1 φ2 φ3 : Fi} {H1 H2 H3 : Hp} {D : Addr} {σV : L2.St} {σ : En} {S2 S3 : So} {acc : List PyData} (L : LcSt X φ1 H1 D σV σ φ2 H2 S2 acc) (e : Ext φ2 H2 φ3 H3) (s : SR X.K H3 φ3 S3) : LcSt X φ1 H1 D σV σ φ3 H3 S3 acc := by
  obtain ⟨vs, h1, h2⟩ := L.at_
  have nD : D ∉ φ2.l := (L.sr.hid D L.hh).1
  exact ⟨L.hD, L.ext.trans e, e.hsub L.hh, s, L.er.mono e, vs, (e.kept D _ h1 nD).1, RDs.mono e _ _ h2⟩
theorem LcSt.add {φ1 φ2 : Fi} {H1 H2 : Hp} {D : Addr} {σV : L2.St} {σ : En} {S2 : So} {acc : List PyData} {vs : List V} {y : PyData} {v : V} (L : LcSt X φ1 H1 D σV σ φ2 H2 S2 acc) (hv : H2 D = some (.lst vs)) (hy : RD X.K H2 φ2 y v) :
    LcSt X φ1 H1 D σV σ φ2 (upd H2 D (.lst (vs ++ [v]))) S2 (acc ++ [y]) := by
  obtain ⟨us, h1, h2⟩ := L.at_
  rw [hv] at h1; cases h1
  have hx : ∀ b, b ≠ D → upd H2 D (.lst (vs ++ [v])) b = H2 b := fun b hb => upd_ne hb
  refine ⟨L.hD, ⟨L.ext.pre, L.ext.hid, fun b h => L.ext.trk b (upd_trk b h), fun b o h n => ?_, fun b ws h => TP.grow (K := X.K) hv hx (L.ext.tups b ws h), fun b o u h => (upd_ne (ne_of_none h L.hD)).trans (L.ext.frz b o u h)⟩, L.hh, L.sr.grow L.hh hv, L.er.grow L.hh hv hx, _, upd_same, RDs.append (RDs.grow L.hh hv hx _ _ h2) (RDs.one (RD.grow L.hh hv hx _ _ hy))⟩
  obtain ⟨a1, a2⟩ := L.ext.kept b o h n
  exact ⟨by rw [upd_ne (ne_of_none h L.hD)]; exact a1, a2⟩
theorem lc_rd {vs : List Nat} {di : DI} {tgd : Tg} {dt : DT} {de : DE} (hsub : subT tgd vs = true) (σV : L2.St) (H : Hp) (Q : VK) (q : tN X.K X.mg E (dLc vs di tgd dt de) σV H Q) :
    tLc (iD X.K X.mg E di) (gT X.K tgd) (tT X.K X.mg EN dt) (tE X.K X.mg EN de) vs σV H Q := by
  obtain ⟨φ, σ, S, r, hs, hen, hd, hq⟩ := q
  unfold dLc at hd
  match ha : di σ S, hd with
  | none, hd => cases hd
  | some (.xc x S1), hd => cases hd; exact ⟨φ, σ, S, .xc x S1, hs, hen, ha, hq⟩
  | some (.ok (ds, o) S1), hd =>
    rw [bnd_ok] at hd
    refine ⟨φ, σ, S, .ok (ds, o) S1, hs, hen, ha, fun φ1 H1 J e1 s1 itd hz D hD => ?_⟩
    have hz : ds.length ≤ sizeLine := hz
    refine ⟨fun i m H2 => ∃ φ2 S2 acc, i + m = ds.length ∧ acc.length ≤ i ∧ LcSt X φ1 H1 D σV σ φ2 H2 S2 acc ∧ lcGo o ds vs σ tgd dt de (ds.drop i) acc S2 = some r,
      ⟨ds.length, φ1.hide D, S1, [], by omega, Nat.le_refl _, ⟨hD, Ext.hide hD, List.mem_cons_self, s1.hide hD, (hen.mono e1).hide hD, [], upd_same, rfl⟩, hd⟩, fun i m H2 hW => ?_⟩
    obtain ⟨φ2, S2, acc, hm, hal, L, hf⟩ := hW
    by_cases hlt : i < ds.length
    · have hdr : ds.drop i = ds[i] :: ds.drop (i + 1) := List.drop_eq_getElem_cons hlt
      rw [hdr] at hf
      unfold lcGo at hf
      split at hf
      · rename_i hk
        obtain ⟨go, yl⟩ := itd.go φ2 H2 S2 i ds[i] L.ext L.sr hk (List.getElem?_eq_getElem hlt)
        refine .inr ⟨go, fun H' => ∃ φ3 S3 acc, i + 1 + (m - 1) = ds.length ∧ acc.length ≤ i + 1 ∧ LcSt X φ1 H1 D σV σ φ3 H' S3 acc ∧ lcGo o ds vs σ tgd dt de (ds.drop (i + 1)) acc S3 = some r,
          fun H' hN => ⟨m - 1, by omega, hN⟩, fun x H3 hy => ?_⟩
        obtain ⟨e3, s3, x3⟩ := yl x H3 hy
        have L3 := L.step e3 s3
        match hbd : bindT tgd (.d ds[i]) (wipeW σ vs), hf with
        | none, hf => cases hf
        | some σ3, hf =>
          refine gT_wipe (wipe_er L3.er vs) (w := .d ds[i]) x3 hbd hsub fun σV3 en3 hw => ⟨hw, ?_⟩
          dsimp only at hf
          match hct : dt σ3 S2, hf with
          | none, hf => cases hf
          | some (.xc x S4), hf => cases hf
          | some (.ok true S4), hf =>
            refine ⟨φ2, σ3, S2, _, s3, en3, hct, fun φ5 H5 e5 s5 => iteT ?_⟩
            have L5 := L3.step e5 s5
            dsimp only at hf
            match hce : de σ3 S4, hf with
            | none, hf => cases hf
            | some (.xc x S6), hf => cases hf
            | some (.ok (.r _) S6), hf => cases hf
            | some (.ok (.g _) S6), hf => cases hf
            | some (.ok (.s _) S6), hf => cases hf
            | some (.ok (.p _ _) S6), hf => cases hf
            | some (.ok (.x _) S6), hf => cases hf
            | some (.ok (.d y) S6), hf =>
              refine ⟨φ5, σ3, S4, _, s5, en3.mono e5, hce, fun φ7 H7 v e7 s7 x7 => ?_⟩
              have L7 := L5.step e7 s7
              obtain ⟨us, h1, h2⟩ := L7.at_
              refine ⟨us, h1, ?_, φ7, S6, acc ++ [y], by omega, by simp; omega, L7.add h1 x7, hf⟩
              rw [h2.length]
              omega
          | some (.ok false S4), hf =>
            refine ⟨φ2, σ3, S2, _, s3, en3, hct, fun φ5 H5 e5 s5 => iteF ?_⟩
            exact ⟨φ5, S4, acc, by omega, by omega, L3.step e5 s5, hf⟩
      · cases hf
    · have hi : i = ds.length := by omega
      subst hi
      rw [List.drop_length] at hf
      unfold lcGo at hf
      split at hf
      · rename_i hk
        cases hf
        refine .inl ⟨itd.stop φ2 H2 S2 L.ext L.sr hk, ?_⟩
        obtain ⟨us, h1, h2⟩ := L.at_
        have hx : ∀ b, b ≠ D → (fun b => if b = D then none else H2 b : Hp) b = H2 b := fun b hb => if_neg hb
        have nD : D ∉ φ2.l := (L.sr.hid D L.hh).1
        have hsub2 : ∀ b ∈ φ1.h, b ∈ φ2.h := fun b hb => L.ext.hsub hb
        have back : upd (fun b => if b = D then none else H2 b) D (.lst us) = H2 := by
          funext b
          by_cases e : b = D
          · subst e; rw [upd_same, h1]
          · rw [upd_ne e]; exact if_neg e
        have ext2 : Ext φ1 H1 ⟨φ2.l, φ1.h⟩ (fun b => if b = D then none else H2 b) := by
          refine ⟨L.ext.pre, ⟨[], rfl, fun _ h => by cases h⟩, fun b h => ?_, fun b u h n => ?_, fun b ws h => TP.grow (K := X.K) h1 hx (L.ext.tups b ws h), fun b o u h => (hx b (ne_of_none h hD)).trans (L.ext.frz b o u h)⟩
          · by_cases e : b = D
            · subst e; exact hD
            · exact L.ext.trk b (by rw [← hx b e]; exact h)
          · obtain ⟨a1, a2⟩ := L.ext.kept b u h n
            exact ⟨(hx b (ne_of_none h hD)).trans a1, a2⟩
        have sr2 : SR X.K (fun b => if b = D then none else H2 b) ⟨φ2.l, φ1.h⟩ S2 := by
          refine ⟨L.sr.len, L.sr.nd, fun j a ob q1 q2 => ?_, fun b hb => ?_⟩
          · have hne : a ≠ D := fun e => nD (e ▸ List.mem_of_getElem? q1)
            have w := OR.grow L.hh h1 hx hne (L.sr.ob j a ob q1 q2)
            cases ob with
            | lst xs => obtain ⟨vs, w1, w2⟩ := w; exact ⟨vs, w1, RDs.unhide hsub2 w2⟩
            | dk xs => obtain ⟨vs, w1, w2, w3⟩ := w; exact ⟨vs, w1, w2, RDs.unhide hsub2 w3⟩
            | dt xs => obtain ⟨vs, w1, w2, w3⟩ := w; exact ⟨vs, w1, w2, RDs.unhide hsub2 w3⟩
            | lkK xs => obtain ⟨vs, w1, w2, w3⟩ := w; exact ⟨vs, w1, w2, RDs.unhide hsub2 w3⟩
            | lkT xs => obtain ⟨vs, w1, w2, w3⟩ := w; exact ⟨vs, w1, w2, RDs.unhide hsub2 w3⟩
          · obtain ⟨w1, ws, w2⟩ := L.sr.hid b (hsub2 b hb)
            have hne : b ≠ D := fun e => s1.notinh hD (e ▸ hb)
            exact ⟨w1, ws, (hx b hne).trans w2⟩
        have := hq ⟨φ2.l, φ1.h⟩ _ D us (e1.trans ext2) sr2 (if_pos rfl) (RDs.unhide hsub2 (RDs.grow L.hh h1 hx _ _ h2))
        rw [back] at this
        exact this
      · cases hf
theorem n_lc {elt tg iter : Expr} {ifs : List Expr} {scope : Scope} (own : List (Str × Nat)) {di : DI} {tgd : Tg} {dt : DT} {de : DE} (hN : X.N.Nodup) (hi : SI X E tg iter di) (ok : BlkOk X.N X.env.scope scope own)
    (hg : ∀ (s : Shared) (H : Hp) (C : Addr) (cl : List (Str × Addr)) (fp : List Addr), PG (X.blk s H scope (compEnvC scope cl C X.env) fp) tg (gT X.K tgd)) (ht : ∀ (s : Shared) (H : Hp) (C : Addr) (cl : List (Str × Addr)) (fp : List Addr), STs (X.blk s H scope (compEnvC scope cl C X.env) fp) EN ifs dt)
    (he : ∀ (s : Shared) (H : Hp) (C : Addr) (cl : List (Str × Addr)) (fp : List Addr), SE (X.blk s H scope (compEnvC scope cl C X.env) fp) EN elt de) (hsub : subT tgd (own.map (·.2)) = true := by rfl) (hc : X.calm = true := by rfl) (hs : ∀ x, foldedSetIterable iter X.env x = pure x := by intro _; rfl) :
    SN X E (elt.ListComp [⟨tg, iter, ifs, 0⟩] scope pos) (dLc (own.map (·.2)) di tgd dt de) :=
  PEw (pe_lc (g := gT X.K tgd) (tt := tT X.K X.mg EN dt) (te := tE X.K X.mg EN de) hc hN hi ok hg ht he hs) (lc_rd hsub)
theorem set_rd {i : Nat} {d : DE} (D : Ends) (σV : L2.St) (H : Hp) (q : tS X.K X.mg E (sSet i d) D σV H) : tE X.K X.mg E d σV H fun x H1 => gName i x σV H1 D.nx := by
  obtain ⟨φ, σ, S, o, hs, hen, hd, hq⟩ := q
  unfold sSet at hd
  match ha : d σ S, hd with
  | none, hd => cases hd
  | some (.xc x S1), hd => cases hd; exact ⟨φ, σ, S, .xc x S1, hs, hen, ha, fun φ' H' e s => hq φ' H' σV e s (hen.mono e)⟩
  | some (.ok w S1), hd =>
    cases hd
    exact ⟨φ, σ, S, .ok w S1, hs, hen, ha, fun φ1 H1 v e1 s1 x1 => hq φ1 H1 _ e1 s1 ((hen.mono e1).set x1)⟩
/-- y = [..]: the model's own road where y is a plain local -/
theorem s_setLc (i : Nat) {y : Str} {py spos : Pos} {elt tg iter : Expr} {ifs : List Expr} {scope : Scope} (own : List (Str × Nat)) {di : DI} {tgd : Tg} {dt : DT} {de : DE} (hN : X.N.Nodup) (hi : SI X E tg iter di) (ok : BlkOk X.N X.env.scope scope own)
    (hg : ∀ (s : Shared) (H : Hp) (C : Addr) (cl : List (Str × Addr)) (fp : List Addr), PG (X.blk s H scope (compEnvC scope cl C X.env) fp) tg (gT X.K tgd)) (ht : ∀ (s : Shared) (H : Hp) (C : Addr) (cl : List (Str × Addr)) (fp : List Addr), STs (X.blk s H scope (compEnvC scope cl C X.env) fp) EN ifs dt)
    (he : ∀ (s : Shared) (H : Hp) (C : Addr) (cl : List (Str × Addr)) (fp : List Addr), SE (X.blk s H scope (compEnvC scope cl C X.env) fp) EN elt de)
    (hsw : swapsWith (.ListComp elt [⟨tg, iter, ifs, 0⟩] scope pos) (some (.Name y py)) spos.line X.env = pure true) (hy : X.N[i]? = some y := by rfl) (hyl : X.env.scope.names.lookup y = some .local := by rfl)
    (hsub : subT tgd (own.map (·.2)) = true := by rfl) (hc : X.calm = true := by rfl) (hs : ∀ x, foldedSetIterable iter X.env x = pure x := by intro _; rfl) :
    SS X E (.Assign [.Name y py] (elt.ListComp [⟨tg, iter, ifs, 0⟩] scope pos) spos) (sSet i (dFz (dLc (own.map (·.2)) di tgd dt de))) := by
  refine PSw (ps_setLc (g := gT X.K tgd) (tt := tT X.K X.mg EN dt) (te := tE X.K X.mg EN de) hc hN hy hyl hsw hi ok hg ht he hs) fun D σV H q => ?_
  exact lc_rd hsub _ _ _ (fz_rd _ _ _ (set_rd D σV H q))

/-! ### a def by its body -/
def startW (n : Nat) (ws : List W) : En := ws.map some ++ List.replicate (n - ws.length) none
/-- the objects that the def made are given up; a list that is handed back stands as a value -/
def gc (k : Nat) (w : W) (S' : So) : M W := match w with
  | .d x => some (.ok (.d x) (S'.take k))
  | .g x => some (.ok (.g x) (S'.take k))
  | .s _ => none
  | .p _ _ => none
  | .x _ => none
  | .r n => if n < k then some (.ok (.r n) (S'.take k)) else match S'[n]? with
    | some (.lst xs) => some (.ok (.d (.list xs)) (S'.take k))
    | _ => none
/-- .. but for the object that is handed back -/
def gcNew (k : Nat) (w : W) (S' : So) : M W := match w with
  | .d x => some (.ok (.d x) (S'.take k))
  | .g x => some (.ok (.g x) (S'.take k))
  | .s _ => none
  | .x _ => none
  | .p n x => if n < k then some (.ok (.p n x) (S'.take k)) else match S'[n]? with
    | some o => some (.ok (.p k x) (S'.take k ++ [o]))
    | _ => none
  | .r n => if n < k then some (.ok (.r n) (S'.take k)) else match S'[n]? with
    | some o => some (.ok (.r k) (S'.take k ++ [o]))
    | _ => none
def fnB (G : Nat → W → So → M W) (np nN : Nat) (body : DS) : DF := fun ws S => if ws.length = np then
    match body (startW nN ws) S with
    | some (.nx _ S') => some (.ok (.d .none) (S'.take S.length))
    | some (.rt w S') => G S.length w S'
    | some (.xc x _ S') => some (.xc x (S'.take S.length))
    | _ => none
  else none
def GcOk (G : Nat → W → So → M W) : Prop := ∀ (K : PySem.W.Frag) (mg : Str → Option Value) (φ φ' : Fi) (H H' : Hp) (S' : So) (w : W) (v : V) (r : RE W), Ext φ H φ' H' → SR K H' φ' S' → RW K H' φ' mg w v → G φ.l.length w S' = some r →
  ∃ w2 S2 φ2, r = .ok w2 S2 ∧ Ext φ H φ2 H' ∧ SR K H' φ2 S2 ∧ RW K H' φ2 mg w2 v
theorem gc_ok : GcOk gc := by
  intro K mg φ φ' H H' S' w v r e s x h
  cases w with
  | d y => cases h; exact ⟨_, _, φ, rfl, e.cut, s.cut e rfl, RD.cut e x⟩
  | g y => cases h; exact ⟨_, _, φ, rfl, e.cut, s.cut e rfl, x⟩
  | s y => cases h
  | p _ _ => cases h
  | x _ => cases h
  | r n =>
    obtain ⟨a, h1, e1⟩ := x
    obtain ⟨t, ht⟩ := e.pre
    unfold gc at h
    dsimp only at h
    split at h
    · rename_i hn
      cases h
      exact ⟨_, _, φ, rfl, e.cut, s.cut e rfl, a, by rw [← ht, List.getElem?_append_left hn] at h1; exact h1, e1⟩
    · rename_i hn
      split at h
      · rename_i xs hx
        cases h
        obtain ⟨vs, q1, q2⟩ := s.ob n a _ h1 hx
        refine ⟨_, _, φ, rfl, e.cut, s.cut e rfl, a, vs, e1, ⟨.inl q1, fun hm => ?_, fun hm => (s.hid a (e.hsub hm)).1 (List.mem_of_getElem? h1)⟩, RDs.cut e q2⟩
        obtain ⟨i, hi, ei⟩ := List.getElem_of_mem hm
        have h2 : φ'.l[i]? = some a := by rw [← ht, List.getElem?_append_left hi, List.getElem?_eq_getElem hi, ei]
        have : i = n := (List.getElem?_inj (List.getElem?_eq_some_iff.mp h2).1 s.nd).mp (h2.trans h1.symm)
        omega
      · cases h
/-- one object is kept -/
theorem keep_one {K : PySem.W.Frag} {φ φ' : Fi} {H H' : Hp} {S' : So} {n : Nat} {a : Addr} {o : O} (e : Ext φ H φ' H') (s : SR K H' φ' S') (h1 : φ'.l[n]? = some a) (hn : ¬ n < φ.l.length) (hx : S'[n]? = some o) :
    Ext φ H (φ.push a) H' ∧ SR K H' (φ.push a) (S'.take φ.l.length ++ [o]) ∧ (φ.push a).l[φ.l.length]? = some a ∧ ∀ b, b ∉ φ'.l ∧ b ∉ φ'.h → b ∉ (φ.push a).l ∧ b ∉ (φ.push a).h := by
  obtain ⟨t, ht⟩ := e.pre
  have hm' : a ∈ φ'.l := List.mem_of_getElem? h1
  have na : a ∉ φ.l := fun hm => by
    obtain ⟨i, hi, ei⟩ := List.getElem_of_mem hm
    have h2 : φ'.l[i]? = some a := by rw [← ht, List.getElem?_append_left hi, List.getElem?_eq_getElem hi, ei]
    have : i = n := (List.getElem?_inj (List.getElem?_eq_some_iff.mp h2).1 s.nd).mp (h2.trans h1.symm)
    omega
  have sc := s.cut e rfl
  have hsub : ∀ b, b ∉ φ'.l ∧ b ∉ φ'.h → b ∉ (φ.push a).l ∧ b ∉ (φ.push a).h := fun b hb => ⟨fun hm => by
    rcases List.mem_append.mp hm with hm | hm
    · exact hb.1 (e.pre.subset hm)
    · rw [List.mem_singleton] at hm; subst hm; exact hb.1 hm', fun hm => hb.2 (e.hsub hm)⟩
  have orx : ∀ {b : Addr} {ob : O}, OR K H' φ' b ob → OR K H' (φ.push a) b ob := fun {b ob} w => by
    cases ob with
    | lst xs => obtain ⟨vs, w1, w2⟩ := w; exact ⟨vs, w1, RDs.sub hsub _ _ w2⟩
    | dk xs => obtain ⟨vs, w1, w2, w3⟩ := w; exact ⟨vs, w1, w2, RDs.sub hsub _ _ w3⟩
    | dt xs => obtain ⟨vs, w1, w2, w3⟩ := w; exact ⟨vs, w1, w2, RDs.sub hsub _ _ w3⟩
    | lkK xs => obtain ⟨vs, w1, w2, w3⟩ := w; exact ⟨vs, w1, w2, RDs.sub hsub _ _ w3⟩
    | lkT xs => obtain ⟨vs, w1, w2, w3⟩ := w; exact ⟨vs, w1, w2, RDs.sub hsub _ _ w3⟩
  have hle : φ.l.length ≤ S'.length := by rw [← s.len, ← ht]; simp
  have htk : (S'.take φ.l.length).length = φ.l.length := by simp; omega
  refine ⟨⟨List.prefix_append _ _, ⟨[], rfl, fun _ h => by cases h⟩, e.trk, fun b u h nb => ⟨(e.kept b u h nb).1, fun hm => ?_⟩, e.tups, e.frz⟩, ⟨?_, ?_, fun i b ob q1 q2 => ?_, fun b hb => ?_⟩, ?_, hsub⟩
  · rcases List.mem_append.mp hm with hm | hm
    · exact nb hm
    · rw [List.mem_singleton] at hm; subst hm; exact (e.kept b u h nb).2 hm'
  · show (φ.l ++ [a]).length = _
    rw [List.length_append, List.length_append, htk]; rfl
  · show (φ.l ++ [a]).Nodup
    rw [List.nodup_append]
    refine ⟨sc.nd, by simp, fun c hc d hd => ?_⟩
    rw [List.mem_singleton] at hd; subst hd
    intro z; subst z; exact na hc
  · have q1 : (φ.l ++ [a])[i]? = some b := q1
    by_cases hi : i < φ.l.length
    · rw [List.getElem?_append_left hi] at q1
      rw [List.getElem?_append_left (by rw [htk]; exact hi), List.getElem?_take_of_lt hi] at q2
      exact orx (s.ob i b ob (by rw [← ht, List.getElem?_append_left hi]; exact q1) q2)
    · have hi2 : i = φ.l.length := by
        have := (List.getElem?_eq_some_iff.mp q1).1
        simp at this; omega
      subst hi2
      rw [List.getElem?_append_right (Nat.le_refl _)] at q1
      rw [List.getElem?_append_right (by rw [htk]; exact Nat.le_refl _), htk] at q2
      simp at q1 q2
      subst q1; subst q2
      exact orx (s.ob n a _ h1 hx)
  · obtain ⟨w1, us, w2⟩ := s.hid b (e.hsub hb)
    refine ⟨fun hm => ?_, us, w2⟩
    rcases List.mem_append.mp hm with hm | hm
    · exact w1 (e.pre.subset hm)
    · rw [List.mem_singleton] at hm; subst hm; exact w1 hm'
  · show (φ.l ++ [a])[φ.l.length]? = some a
    simp
theorem gcNew_ok : GcOk gcNew := by
  intro K mg φ φ' H H' S' w v r e s x h
  cases w with
  | d y => cases h; exact ⟨_, _, φ, rfl, e.cut, s.cut e rfl, RD.cut e x⟩
  | g y => cases h; exact ⟨_, _, φ, rfl, e.cut, s.cut e rfl, x⟩
  | s y => cases h
  | x _ => cases h
  | r n =>
    obtain ⟨a, h1, e1⟩ := x
    obtain ⟨t, ht⟩ := e.pre
    unfold gcNew at h
    dsimp only at h
    split at h
    · rename_i hn
      cases h
      exact ⟨_, _, φ, rfl, e.cut, s.cut e rfl, a, by rw [← ht, List.getElem?_append_left hn] at h1; exact h1, e1⟩
    · rename_i hn
      split at h
      · rename_i o hx
        cases h
        obtain ⟨k1, k2, k3, _⟩ := keep_one e s h1 hn hx
        exact ⟨_, _, φ.push a, rfl, k1, k2, a, k3, e1⟩
      · cases h
  | p n y =>
    obtain ⟨c, b, u, e1, h0, h1, h2⟩ := x
    obtain ⟨t, ht⟩ := e.pre
    unfold gcNew at h
    dsimp only at h
    split at h
    · rename_i hn
      cases h
      exact ⟨_, _, φ, rfl, e.cut, s.cut e rfl, c, b, u, e1, h0, by rw [← ht, List.getElem?_append_left hn] at h1; exact h1, RD.cut e h2⟩
    · rename_i hn
      split at h
      · rename_i o hx
        cases h
        obtain ⟨k1, k2, k3, k4⟩ := keep_one e s h1 hn hx
        exact ⟨_, _, φ.push b, rfl, k1, k2, c, b, u, e1, h0, k3, RD.sub k4 _ _ h2⟩
      · cases h
theorem RWs.get {K : PySem.W.Frag} {mg : Str → Option Value} {H : Hp} {φ : Fi} : ∀ {ws : List W} {vs : List V} {i : Nat} {w : W}, RWs K H φ mg ws vs → ws[i]? = some w → ∃ v, vs[i]? = some v ∧ RW K H φ mg w v
  | [], _, _, _, _, e => by simp at e
  | _ :: _, _, 0, _, ⟨v, r, e, h, _⟩, e2 => by subst e; simp at e2; subst e2; exact ⟨v, rfl, h⟩
  | _ :: _, _, i + 1, d, ⟨v, r, e, _, h⟩, e2 => by
    subst e
    obtain ⟨u, h1, h2⟩ := RWs.get (i := i) (w := d) h (by simpa using e2)
    exact ⟨u, by simpa using h1, h2⟩
theorem start_er {K : PySem.W.Frag} {mg : Str → Option Value} {H : Hp} {φ : Fi} {ws : List W} {vs : List V} {N : List Str} (h : RWs K H φ mg ws vs) : ER K H φ mg (L2.start N vs) (startW N.length ws) := by
  have hl := h.length
  refine ⟨by simp [L2.start, startW, hl], fun i w q => ?_⟩
  unfold startW at q
  by_cases hi : i < ws.length
  · rw [List.getElem?_append_left (by simpa using hi), List.getElem?_map] at q
    obtain ⟨w', e1, e2⟩ := Option.map_eq_some_iff.mp q
    cases e2
    obtain ⟨v, h1, h2⟩ := h.get e1
    refine ⟨v, ?_, h2⟩
    unfold L2.start
    rw [List.getElem?_append_left (by simpa [hl] using hi), List.getElem?_map, h1]; rfl
  · rw [List.getElem?_append_right (by simpa using Nat.le_of_not_lt hi)] at q
    have := List.mem_of_getElem? q
    rw [List.mem_replicate] at this
    cases this.2
theorem mk_fn {P : Program} {w : World} {K : PySem.W.Frag} {mg : Str → Option Value} {base : Heap} {x qual : Str} {st : Stmt} {f : Addr} {fd : FuncData} {N ps : List Str} {k : Nat} {G : Nat → W → So → M W} {d : DS} (hG : GcOk G) (F : Fun K x qual st f fd) (Sc : FnScope N ps (defScope st))
    (hbody : ∀ (cdv : Value) (A : Around) (outer : List Env) (s : Shared) (H : Hp) (E : XK), A.guards = some [] → Room k (A.deeper (envOfC qual (defScope st) s.heap.objs.size f cdv)) → SSs (cxOf CX0 P w K mg base N qual (defScope st) f cdv A outer s H E).nox (fun _ => E) (defBody st) d) :
    FnG P w K mg base CX0 (k + 1) f fd ps (spF K mg (fnB G ps.length N.length d)) := by
  refine fnG_of F Sc (fun vs H Q E h => ?_) (fun cdv A outer s H vs Q E hgd hr h => ?_)
  · obtain ⟨φ, S, ws, r, hs, hw, hF, hq⟩ := h
    unfold fnB at hF
    split at hF
    · rename_i hl; rw [hw.length, hl]
    · cases hF
  · refine ⟨_, (hbody cdv A outer s H E hgd hr).nox, ?_⟩
    obtain ⟨φ, S, ws, r, hs, hw, hF, hq⟩ := h
    unfold fnB at hF
    split at hF
    · have en := start_er (N := N) hw
      match hb : d (startW N.length ws) S, hF with
      | none, hF => cases hF
      | some (.nx σ' S'), hF =>
        cases hF
        exact ⟨φ, _, S, _, hs, en, hb, fun φ' H' σV' e s' _ => hq φ H' .non e.cut (s'.cut e hs.len) rfl⟩
      | some (.rt w S'), hF =>
        refine ⟨φ, _, S, _, hs, en, hb, fun φ' H' v e s' xw => ?_⟩
        dsimp only at hF
        rw [← hs.len] at hF
        obtain ⟨w2, S2, φ2, rfl, e2, s2, x2⟩ := hG K mg φ φ' H H' S' w v r e s' xw hF
        exact hq φ2 H' v e2 s2 x2
      | some (.xc y σ' S'), hF =>
        cases hF
        refine ⟨φ, _, S, _, hs, en, hb, fun φ' H' _ e s' _ C hC => ?_⟩
        have := hq φ H' e.cut (s'.cut e hs.len) C hC
        exact ⟨this.1, fun a us h1 h2 => this.2 a us h1 (RDs.cut e h2)⟩
      | some (.bk _ _), hF => cases hF
      | some (.ct _ _), hF => cases hF
    · cases hF
end
end CL
end

section
/-! part CLOpA -/
set_option Elab.async false
set_option linter.all false
set_option maxRecDepth 100000
/-! CLOpA: numbers, comparisons, joins. -/
namespace CL
open PySem PySem.Spec PyProof.Rows L2

section
variable {X : Cx} {E : EK} {pos p : Pos}
theorem opw {f : Value → Value → Sem Value} {r r' : R2} (h : OpR X f r) (k : ∀ v1 v2 H Q, r' v1 v2 H Q → r v1 v2 H Q) : OpR X f r' :=
  fun pins s σ H x y v u Q I rx ry q => h pins s σ H x y v u Q I rx ry (k x y H Q q)
theorem callw {f : Value} {r r' : List V → Hp → VK → Prop} (h : CallR X f r) (k : ∀ vs H Q, r' vs H Q → r vs H Q) : CallR X f r' :=
  fun pins s σ H xs us Q I rx q => h pins s σ H xs us Q I rx (k xs H Q q)
/-- an operation on data as it is read -/
def on2 (f : PyData → PyData → Option PyData) : So → W → W → Option W := fun S x y => match rd S x, rd S y with
  | some a, some b => (f a b).map W.d
  | _, _ => none
@[simp] theorem on2_d (f : PyData → PyData → Option PyData) (S : So) (a b : PyData) : on2 f S (.d a) (.d b) = (f a b).map W.d := rfl
def on1 (f : PyData → Option PyData) : So → W → Option W := fun S x => match rd S x with
  | some a => (f a).map W.d
  | _ => none
@[simp] theorem on1_d (f : PyData → Option PyData) (S : So) (a : PyData) : on1 f S (.d a) = (f a).map W.d := rfl
theorem on2_of {f : PyData → PyData → Option PyData} {S : So} {x y w : W} (h : on2 f S x y = some w) : ∃ a b c, rd S x = some a ∧ rd S y = some b ∧ f a b = some c ∧ w = .d c := by
  unfold on2 at h
  split at h
  · rename_i a b h1 h2
    obtain ⟨c, h3, h4⟩ := Option.map_eq_some_iff.mp h
    exact ⟨a, b, c, h1, h2, h3, h4.symm⟩
  · cases h
theorem on1_of {f : PyData → Option PyData} {S : So} {x w : W} (h : on1 f S x = some w) : ∃ a c, rd S x = some a ∧ f a = some c ∧ w = .d c := by
  unfold on1 at h
  split at h
  · rename_i a h1
    obtain ⟨c, h3, h4⟩ := Option.map_eq_some_iff.mp h
    exact ⟨a, c, h1, h3, h4.symm⟩
  · cases h
section
variable {K : PySem.W.Frag} {mg : Str → Option Value} {H : Hp} {φ : Fi} {S : So}
theorem int_of {x : W} {v : V} {i : Int} (h : RW K H φ mg x v) (e : rd S x = some (.int i)) : v = .int i := by
  rw [rd_eq e (by simp)] at h; exact h
theorem bl_of {x : W} {v : V} {i : Bool} (h : RW K H φ mg x v) (e : rd S x = some (.bool i)) : v = .bl i := by
  rw [rd_eq e (by simp)] at h; exact h
theorem str_of {x : W} {v : V} {i : Str} (h : RW K H φ mg x v) (e : rd S x = some (.str i)) : v = .str i := by
  rw [rd_eq e (by simp)] at h; exact h
end
/-! ### whole numbers -/
def i2 (f : Int → Int → Option PyData) : PyData → PyData → Option PyData
  | .int a, .int b => f a b
  | _, _ => none
@[simp] theorem i2_ii (f : Int → Int → Option PyData) (a b : Int) : i2 f (.int a) (.int b) = f a b := rfl
theorem i2_of {f : Int → Int → Option PyData} {x y c : PyData} (h : i2 f x y = some c) : ∃ a b, x = .int a ∧ y = .int b ∧ f a b = some c := by
  unfold i2 at h
  split at h
  · exact ⟨_, _, rfl, rfl, h⟩
  · cases h
/-- an operator on two ints, from the layer's rule -/
theorem int_op {g : Value → Value → Sem Value} {C : Int → Int → Prop} {r : Int → Int → V} {f : Int → Int → Option PyData} (h : OpR X g (rI C r)) (k : ∀ a b c, f a b = some c → C a b ∧ ∀ H φ, RD X.K H φ c (r a b)) : OpR X g (rO X.K X.mg (on2 (i2 f))) :=
  opw h fun v1 v2 H Q ⟨φ, S, x, y, w, hs, hx, hy, hg, hq⟩ => by
    obtain ⟨a, b, c, h1, h2, h3, rfl⟩ := on2_of hg
    obtain ⟨i, j, rfl, rfl, h4⟩ := i2_of h3
    obtain ⟨q1, q2⟩ := k i j c h4
    exact ⟨i, j, int_of hx h1, int_of hy h2, q1, hq φ H _ .refl hs (q2 H φ)⟩
theorem int_op0 {g : Value → Value → Sem Value} {r : Int → Int → V} {f : Int → Int → Option PyData} (h : OpR X g (rI0 r)) (k : ∀ a b c, f a b = some c → ∀ H φ, RD X.K H φ c (r a b)) : OpR X g (rO X.K X.mg (on2 (i2 f))) :=
  opw h fun v1 v2 H Q ⟨φ, S, x, y, w, hs, hx, hy, hg, hq⟩ => by
    obtain ⟨a, b, c, h1, h2, h3, rfl⟩ := on2_of hg
    obtain ⟨i, j, rfl, rfl, h4⟩ := i2_of h3
    exact ⟨i, j, int_of hx h1, int_of hy h2, hq φ H _ .refl hs (k i j c h4 H φ)⟩
def mulI (a b : Int) : Option PyData := if (-18446744073709551616 < a ∧ a < 18446744073709551616) ∨ (-18446744073709551616 < b ∧ b < 18446744073709551616) then some (.int (a * b)) else none
theorem o_mul : OpR X (binaryOp .Mult) (rO X.K X.mg (on2 (i2 mulI))) := int_op op_mul fun a b c h => by
  unfold mulI at h
  split at h
  · rename_i hc
    cases h
    exact ⟨hc.imp (fun q => by constructor <;> omega) (fun q => by constructor <;> omega), fun _ _ => rfl⟩
  · cases h
def modI (a b : Int) : Option PyData := if 0 < b then some (.int (a % b)) else none
theorem o_mod : OpR X (binaryOp .Mod) (rO X.K X.mg (on2 (i2 modI))) := int_op op_mod fun a b c h => by
  unfold modI at h
  split at h
  · rename_i hc; cases h; exact ⟨hc, fun _ _ => rfl⟩
  · cases h
def divI (a b : Int) : Option PyData := if 0 < b ∧ b < 1073741824 then some (.int (a / b)) else none
theorem o_div : OpR X (binaryOp .FloorDiv) (rO X.K X.mg (on2 (i2 divI))) := int_op op_fdiv fun a b c h => by
  unfold divI at h
  split at h
  · rename_i hc; cases h; exact ⟨hc, fun _ _ => rfl⟩
  · cases h
def powI (a b : Int) : Option PyData := if 0 ≤ b ∧ b ≤ 1000 ∧ 0 ≤ a ∧ a < 1000000 then some (.int (a ^ b.toNat)) else none
theorem o_pow : OpR X (binaryOp .Pow) (rO X.K X.mg (on2 (i2 powI))) := int_op op_pow fun a b c h => by
  unfold powI at h
  split at h
  · rename_i hc; cases h; exact ⟨⟨hc.1, by omega, by omega⟩, fun _ _ => rfl⟩
  · cases h
def negI : PyData → Option PyData
  | .int a => some (.int (-a))
  | _ => none
theorem o_neg : UnR X (unaryOp .USub) (rU1 X.K X.mg (on1 negI)) := fun pins s σ H x v Q I rx ⟨φ, S, w0, w, hs, hx, hg, hq⟩ => by
  obtain ⟨a, c, h1, h2, rfl⟩ := on1_of hg
  cases a with
  | int i => cases h2; exact un_neg pins s σ H x v Q I rx ⟨i, int_of hx h1, hq φ H _ .refl hs rfl⟩
  | _ => cases h2
/-! ### order -/
mutual
def ltD : PyData → PyData → Bool
  | .bool a, .bool b => !a && b
  | .int a, .int b => decide (a < b)
  | .str a, .str b => decide (a.cps.toList < b.cps.toList)
  | .list xs, .list ys => ltDs xs ys
  | .tuple xs, .tuple ys => ltDs xs ys
  | _, _ => false
def ltDs : List PyData → List PyData → Bool
  | [], [] => false
  | [], _ :: _ => true
  | _ :: _, [] => false
  | x :: xs, y :: ys => if PyData.eqv x y = true then ltDs xs ys else ltD x y
end
mutual
theorem dataLt_eq : ∀ (x y : PyData), PySem.W.alike x y = true → PySem.W.dataLt x y = ltD x y
  | .none, .none, _ => by simp [PySem.W.dataLt, PySem.W.keyToks, ltD, PyProof.Rows.lexLt]
  | .bool a, .bool b, _ => by rw [PySem.W.dataLt_bool]; cases a <;> cases b <;> simp [ltD, b2i]
  | .int a, .int b, _ => by rw [PySem.W.dataLt_int]; rfl
  | .str a, .str b, _ => by rw [PySem.W.dataLt_str]; rfl
  | .list xs, .list ys, h => dataLts_eq xs ys (by simpa [PySem.W.alike] using h)
  | .tuple xs, .tuple ys, h => dataLts_eq xs ys (by simpa [PySem.W.alike] using h)
  | .none, .bool _, h | .none, .int _, h | .none, .str _, h | .none, .list _, h | .none, .tuple _, h | .none, .dict _, h => by simp [PySem.W.alike] at h
  | .bool _, .none, h | .bool _, .int _, h | .bool _, .str _, h | .bool _, .list _, h | .bool _, .tuple _, h | .bool _, .dict _, h => by simp [PySem.W.alike] at h
  | .int _, .none, h | .int _, .bool _, h | .int _, .str _, h | .int _, .list _, h | .int _, .tuple _, h | .int _, .dict _, h => by simp [PySem.W.alike] at h
  | .str _, .none, h | .str _, .bool _, h | .str _, .int _, h | .str _, .list _, h | .str _, .tuple _, h | .str _, .dict _, h => by simp [PySem.W.alike] at h
  | .list _, .none, h | .list _, .bool _, h | .list _, .int _, h | .list _, .str _, h | .list _, .tuple _, h | .list _, .dict _, h => by simp [PySem.W.alike] at h
  | .tuple _, .none, h | .tuple _, .bool _, h | .tuple _, .int _, h | .tuple _, .str _, h | .tuple _, .list _, h | .tuple _, .dict _, h => by simp [PySem.W.alike] at h
  | .dict _, .none, h | .dict _, .bool _, h | .dict _, .int _, h | .dict _, .str _, h | .dict _, .list _, h | .dict _, .tuple _, h | .dict _, .dict _, h => by simp [PySem.W.alike] at h
theorem dataLts_eq : ∀ (xs ys : List PyData), PySem.W.alikeAll xs ys = true → PySem.W.rowLt xs ys = ltDs xs ys
  | [], [], _ => by simp [PySem.W.rowLt, PySem.W.keyToksAll, ltDs, PyProof.Rows.lexLt, PyProof.Rows.itemLt]
  | [], _ :: _, _ => by simp [PySem.W.rowLt, PySem.W.keyToksAll, ltDs, PyProof.Rows.lexLt, PyProof.Rows.itemLt]
  | _ :: _, [], _ => by simp [PySem.W.rowLt, PySem.W.keyToksAll, ltDs, PyProof.Rows.lexLt, PyProof.Rows.itemLt]
  | x :: xs, y :: ys, h => by
    obtain ⟨h1, h2⟩ := PySem.W.alike_all_cons h
    unfold PySem.W.rowLt
    rw [PySem.W.dataLt_cons h1]
    unfold ltDs
    by_cases e : PyData.eqv x y = true
    · rw [if_pos e, if_pos e]; exact dataLts_eq xs ys h2
    · rw [if_neg e, if_neg e]; exact dataLt_eq x y h1
end
/-- x < y of alike data -/
def ltP (x y : PyData) : Option PyData := if PySem.W.alike x y = true ∧ eqD x .none = false ∧ decide (x.depth ≤ 60) = true then some (.bool (ltD x y)) else none
theorem o_lt (hu : X.A.units + 64 < cLine) : OpR X (compareOp .Lt) (rO X.K X.mg (on2 ltP)) := by
  intro pins s σ H x y v u Q I rx ry h
  obtain ⟨φ, S, w1, w2, w, hs, hx, hy, hg, hq⟩ := h
  obtain ⟨a, b, c, h1, h2, h3, rfl⟩ := on2_of hg
  unfold ltP at h3
  split at h3
  · rename_i hc
    obtain ⟨ha, hn, hd⟩ := hc
    cases h3
    obtain ⟨as, r1⟩ := Dp.reads I a x v (dp_of hs hx h1) rx
    obtain ⟨bs, r2⟩ := Dp.reads I b y u (dp_of hs hy h2) ry
    have hd := of_decide_eq_true hd
    refine PySem.W.rcLt_alike a b X.A s v u as bs r1 r2 ha (fun e => by subst e; simp [eqD] at hn) ?_ X.prog X.w X.xe _ ?_
    · have : min a.depth b.depth ≤ a.depth := Nat.min_le_left _ _
      omega
    · rw [dataLt_eq a b ha]
      exact ⟨.bl _, H, I, rfl, hq φ H _ .refl hs rfl⟩
  · cases h3
def cmpI (f : Int → Int → Bool) (a b : Int) : Option PyData := some (.bool (f a b))
def leI (a b : Int) : Option PyData := some (.bool (decide (a ≤ b)))
def gtI (a b : Int) : Option PyData := some (.bool (decide (b < a)))
def geI (a b : Int) : Option PyData := some (.bool (decide (b ≤ a)))
theorem o_leI : OpR X (compareOp .LtE) (rO X.K X.mg (on2 (i2 leI))) := int_op0 op_le fun a b c h => by cases h; exact fun _ _ => rfl
theorem o_gtI : OpR X (compareOp .Gt) (rO X.K X.mg (on2 (i2 gtI))) := int_op0 op_gt fun a b c h => by cases h; exact fun _ _ => rfl
theorem o_geI : OpR X (compareOp .GtE) (rO X.K X.mg (on2 (i2 geI))) := int_op0 op_ge fun a b c h => by cases h; exact fun _ _ => rfl
/-- x <= y of texts -/
def s2 (f : Str → Str → Option PyData) : PyData → PyData → Option PyData
  | .str a, .str b => f a b
  | _, _ => none
@[simp] theorem s2_ss (f : Str → Str → Option PyData) (a b : Str) : s2 f (.str a) (.str b) = f a b := rfl
theorem s2_of {f : Str → Str → Option PyData} {x y c : PyData} (h : s2 f x y = some c) : ∃ a b, x = .str a ∧ y = .str b ∧ f a b = some c := by
  unfold s2 at h
  split at h
  · exact ⟨_, _, rfl, rfl, h⟩
  · cases h
def leSs (a b : Str) : Option PyData := some (.bool (!decide (b.cps.toList < a.cps.toList)))
def leS : PyData → PyData → Option PyData := s2 leSs
theorem o_leS : OpR X (compareOp .LtE) (rO X.K X.mg (on2 leS)) :=
  opw op_le_str fun v1 v2 H Q ⟨φ, S, x, y, w, hs, hx, hy, hg, hq⟩ => by
    obtain ⟨a, b, c, h1, h2, h3, rfl⟩ := on2_of hg
    obtain ⟨i, j, rfl, rfl, h4⟩ := s2_of h3
    cases h4
    exact ⟨i, j, str_of hx h1, str_of hy h2, hq φ H _ .refl hs rfl⟩
/-- c in t, of texts -/
def inS (a b : Str) : Bool := !(Builtin.Str.occurrences b a 0 b.length 1).isEmpty
/-! ### == and in, of data -/
def okD (x : PyData) : Bool := SeqAt.shaped x
def eqP (x y : PyData) : Option PyData := if (okD x && okD y) = true then some (.bool (PyData.eqv x y)) else none
def neP (x y : PyData) : Option PyData := if (okD x && okD y) = true then some (.bool (!PyData.eqv x y)) else none
theorem o_eq (hu : X.A.units + 64 < cLine) : OpR X (compareOp .Eq) (rO X.K X.mg (on2 eqP)) :=
  opw (op_eqD hu) fun v1 v2 H Q ⟨φ, S, x, y, w, hs, hx, hy, hg, hq⟩ => by
    obtain ⟨a, b, c, h1, h2, h3, rfl⟩ := on2_of hg
    unfold eqP at h3
    split at h3
    · rename_i hc
      rw [Bool.and_eq_true] at hc
      cases h3
      exact ⟨a, b, dp_of hs hx h1, dp_of hs hy h2, hc.1, hc.2, hq φ H _ .refl hs rfl⟩
    · cases h3
theorem o_ne (hu : X.A.units + 64 < cLine) : OpR X (compareOp .NotEq) (rO X.K X.mg (on2 neP)) :=
  opw (op_neD hu) fun v1 v2 H Q ⟨φ, S, x, y, w, hs, hx, hy, hg, hq⟩ => by
    obtain ⟨a, b, c, h1, h2, h3, rfl⟩ := on2_of hg
    unfold neP at h3
    split at h3
    · rename_i hc
      rw [Bool.and_eq_true] at hc
      cases h3
      exact ⟨a, b, dp_of hs hx h1, dp_of hs hy h2, hc.1, hc.2, hq φ H _ .refl hs rfl⟩
    · cases h3
def memD (x : PyData) (ys : List PyData) : Bool := ys.any fun z => PyData.eqv z x
/-- x in y: y a list, a tuple, a text -/
def inP (neg : Bool) : PyData → PyData → Option PyData
  | x, .list ys => if (okD x && okD (.list ys)) = true then some (.bool (memD x ys ^^ neg)) else none
  | x, .tuple ys => if (okD x && okD (.tuple ys)) = true then some (.bool (memD x ys ^^ neg)) else none
  | .str a, .str b => some (.bool (inS a b ^^ neg))
  | _, _ => none
theorem o_in (hu : X.A.units + 65 < cLine) : OpR X (compareOp .In) (rO X.K X.mg (on2 (inP false))) := by
  intro pins s σ H x y v u Q I rx ry h
  obtain ⟨φ, S, w1, w2, w, hs, hx, hy, hg, hq⟩ := h
  obtain ⟨a, b, c, h1, h2, h3, rfl⟩ := on2_of hg
  unfold inP at h3
  split at h3
  · rename_i ys
    split at h3
    · rename_i hc
      rw [Bool.and_eq_true] at hc
      cases h3
      refine op_inD hu pins s σ H x y v u Q I rx ry ⟨_, _, dp_of hs hx h1, dp_of hs hy h2, hc.1, hc.2, ?_⟩
      have := hq φ H (.bl (memD a ys ^^ false)) .refl hs rfl
      rw [Bool.xor_false] at this
      exact this
    · cases h3
  · rename_i ys
    split at h3
    · rename_i hc
      rw [Bool.and_eq_true] at hc
      cases h3
      obtain ⟨as, r1⟩ := Dp.reads I a x v (dp_of hs hx h1) rx
      obtain ⟨bs, r2⟩ := Dp.reads I (.tuple ys) y u (dp_of hs hy h2) ry
      refine SeqAt.in_tuple_reads r2 r1 (SeqAt.canLay_of_shaped hc.2) (SeqAt.canLay_of_shaped hc.1) (room_in_shaped hc.1 hu) ⟨.bl _, H, I, rfl, ?_⟩
      have := hq φ H (.bl (memD a ys ^^ false)) .refl hs rfl
      rw [Bool.xor_false] at this
      exact this
    · cases h3
  · rename_i i j
    cases h3
    refine op_in_str pins s σ H x y v u Q I rx ry ⟨i, j, str_of hx h1, str_of hy h2, ?_⟩
    have := hq φ H (.bl (inS i j ^^ false)) .refl hs rfl
    rw [Bool.xor_false] at this
    exact this
  · cases h3
theorem o_notin (hu : X.A.units + 65 < cLine) : OpR X (compareOp .NotIn) (rO X.K X.mg (on2 (inP true))) := by
  intro pins s σ H x y v u Q I rx ry h
  obtain ⟨φ, S, w1, w2, w, hs, hx, hy, hg, hq⟩ := h
  obtain ⟨a, b, c, h1, h2, h3, rfl⟩ := on2_of hg
  unfold inP at h3
  split at h3
  · rename_i ys
    split at h3
    · rename_i hc
      rw [Bool.and_eq_true] at hc
      cases h3
      refine op_notInD hu pins s σ H x y v u Q I rx ry ⟨_, _, dp_of hs hx h1, dp_of hs hy h2, hc.1, hc.2, ?_⟩
      have := hq φ H (.bl (memD a ys ^^ true)) .refl hs rfl
      rw [Bool.xor_true] at this
      exact this
    · cases h3
  · rename_i ys
    split at h3
    · rename_i hc
      rw [Bool.and_eq_true] at hc
      cases h3
      obtain ⟨as, r1⟩ := Dp.reads I a x v (dp_of hs hx h1) rx
      obtain ⟨bs, r2⟩ := Dp.reads I (.tuple ys) y u (dp_of hs hy h2) ry
      refine SeqAt.notIn_tuple_reads r2 r1 (SeqAt.canLay_of_shaped hc.2) (SeqAt.canLay_of_shaped hc.1) (room_in_shaped hc.1 hu) ⟨.bl _, H, I, rfl, ?_⟩
      have := hq φ H (.bl (memD a ys ^^ true)) .refl hs rfl
      rw [Bool.xor_true] at this
      exact this
    · cases h3
  · rename_i i j
    cases h3
    refine op_notIn_str pins s σ H x y v u Q I rx ry ⟨i, j, str_of hx h1, str_of hy h2, ?_⟩
    have := hq φ H (.bl (inS i j ^^ true)) .refl hs rfl
    rw [Bool.xor_true] at this
    exact this
  · cases h3
/-! ### is -/
def isN (neg : Bool) : So → W → W → Option W := fun _ x y => match y with
  | .d .none => match x with
    | .d .none => some (.d (.bool (true ^^ neg)))
    | _ => some (.d (.bool (false ^^ neg)))
  | _ => none
theorem non_iff {K : PySem.W.Frag} {mg : Str → Option Value} {H : Hp} {φ : Fi} : ∀ {x : W} {v : V}, RW K H φ mg x v → (v = .non ↔ x = .d .none)
  | .d .none, _, h => by cases h; simp
  | .d (.bool _), _, h => by cases h; simp
  | .d (.int _), _, h => by cases h; simp
  | .d (.str _), _, h => by cases h; simp
  | .d (.list _), _, ⟨a, vs, e, _⟩ => by subst e; simp
  | .d (.tuple _), _, ⟨a, vs, e, _⟩ => by subst e; simp
  | .d (.dict _), _, h => h.elim
  | .r _, _, ⟨a, _, e⟩ => by subst e; simp
  | .g _, _, ⟨a, _, e⟩ => by subst e; simp
  | .s _, _, ⟨a, vs, e, _⟩ => by subst e; simp
  | .p _ _, _, ⟨a, _, _, e, _⟩ => by subst e; simp
  | .x _, _, ⟨a, _, _, _, _, _, _, e, _⟩ => by subst e; simp
theorem isN_val {x y w : W} {S : So} {neg : Bool} (h : isN neg S x y = some w) : y = .d .none ∧ ((x = .d .none ∧ w = .d (.bool (true ^^ neg))) ∨ (x ≠ .d .none ∧ w = .d (.bool (false ^^ neg)))) := by
  unfold isN at h
  split at h
  · split at h
    · cases h; exact ⟨rfl, .inl ⟨rfl, rfl⟩⟩
    · rename_i hx; cases h; exact ⟨rfl, .inr ⟨fun e => hx e, rfl⟩⟩
  · cases h
theorem o_is : OpR X (compareOp .Is) (rO X.K X.mg (isN false)) :=
  opw op_isN fun v1 v2 H Q ⟨φ, S, x, y, w, hs, hx, hy, hg, hq⟩ => by
    obtain ⟨rfl, h⟩ := isN_val hg
    refine ⟨hy, ?_⟩
    rcases h with ⟨h, rfl⟩ | ⟨h, rfl⟩
    · rw [decide_eq_true ((non_iff hx).mpr h)]; exact hq φ H _ .refl hs rfl
    · rw [decide_eq_false fun e => h ((non_iff hx).mp e)]; exact hq φ H _ .refl hs rfl
theorem o_isnot : OpR X (compareOp .IsNot) (rO X.K X.mg (isN true)) :=
  opw op_notN fun v1 v2 H Q ⟨φ, S, x, y, w, hs, hx, hy, hg, hq⟩ => by
    obtain ⟨rfl, h⟩ := isN_val hg
    refine ⟨hy, ?_⟩
    rcases h with ⟨h, rfl⟩ | ⟨h, rfl⟩
    · rw [decide_eq_true ((non_iff hx).mpr h)]; exact hq φ H _ .refl hs rfl
    · rw [decide_eq_false fun e => h ((non_iff hx).mp e)]; exact hq φ H _ .refl hs rfl
/-! ### + and - -/
theorem cat_lists : OpR X (binaryOp .Add) (fun x y H Q => ∃ l b xs zs, x = .ref l ∧ y = .ref b ∧ Rd H l (.lst xs) ∧ Rd H b (.lst zs) ∧ xs.length + zs.length ≤ sizeLine ∧ ∀ p, H p = none → Q (.ref p) (upd H p (.lst (xs ++ zs)))) := by
  intro pins s σ H x y v u Q I rx ry h
  obtain ⟨l, b, xs, zs, rfl, rfl, hl, hb, hz, q⟩ := h
  cases rx
  cases ry
  obtain ⟨_, its, n, r, e⟩ := hl.ok I.hok
  obtain ⟨_, its2, n2, r2, e2⟩ := hb.ok I.hok
  have z1 := r.length
  have z2 := r2.length
  refine PySem.P.add_list e e2 ?_ (by rw [List.size_toArray, List.size_toArray]; omega)
  rw [show its.toArray ++ its2.toArray = (its ++ its2).toArray by simp]
  exact ⟨.ref _, _, I.lnew (t' := s.toks) (r.append r2) (by rw [List.length_append]; omega), rfl, q _ I.fresh⟩
def addP : PyData → PyData → Option PyData
  | .int a, .int b => some (.int (a + b))
  | .bool a, .int b => some (.int ((if a = true then 1 else 0) + b))
  | .str a, .str b => if small (a.length + b.length) = true then some (.str (a ++ b)) else none
  | .list a, .list b => if small (a.length + b.length) = true then some (.list (a ++ b)) else none
  | .tuple a, .tuple b => if small (a.length + b.length) = true then some (.tuple (a ++ b)) else none
  | _, _ => none
theorem rd_fl {K : PySem.W.Frag} {mg : Str → Option Value} {H : Hp} {φ : Fi} {S : So} {w : W} {v : V} {ds : List PyData} (hs : SR K H φ S) (h : RW K H φ mg w v) (e : rd S w = some (.list ds)) (hns : ∀ xs, w ≠ .s xs) : ∃ a vs, v = .ref a ∧ Rd H a (.lst vs) ∧ RDs K H φ ds vs := by
  cases w with
  | d x => cases e; obtain ⟨a, vs, e1, h1, h2⟩ := h; exact ⟨a, vs, e1, h1.1, h2⟩
  | r n =>
    obtain ⟨a, h1, e1⟩ := h
    obtain ⟨o, h2, h3⟩ := hs.get h1
    unfold rd at e
    simp only [h2] at e
    cases o with
    | lst xs => cases e; obtain ⟨vs, q1, q2⟩ := h3; exact ⟨a, vs, e1, .inl q1, q2⟩
    | dk _ => cases e
    | dt _ => cases e
    | lkK _ => cases e
    | lkT _ => cases e
  | g x => cases e
  | s xs => exact absurd rfl (hns xs)
  | p _ _ => cases e
  | x _ => cases e
/-- + : not of the script itself -/
def notS : W → Bool
  | .s _ => false
  | _ => true
def addW : So → W → W → Option W := fun S x y => if (notS x && notS y) = true then on2 addP S x y else none
@[simp] theorem addW_d (S : So) (a b : PyData) : addW S (.d a) (.d b) = (addP a b).map W.d := rfl
theorem o_add : OpR X (binaryOp .Add) (rO X.K X.mg addW) := by
  intro pins s σ H x y v u Q I rx ry h
  obtain ⟨φ, S, w1, w2, w, hs, hx, hy, hg, hq⟩ := h
  unfold addW at hg
  split at hg
  · rename_i hns
    rw [Bool.and_eq_true] at hns
    have n1 : ∀ xs, w1 ≠ .s xs := fun xs e => by subst e; exact absurd hns.1 (by simp [notS])
    have n2 : ∀ xs, w2 ≠ .s xs := fun xs e => by subst e; exact absurd hns.2 (by simp [notS])
    obtain ⟨a, b, c, h1, h2, h3, rfl⟩ := on2_of hg
    unfold addP at h3
    split at h3
    · cases h3
      exact op_add pins s σ H x y v u Q I rx ry ⟨_, _, int_of hx h1, int_of hy h2, hq φ H _ .refl hs rfl⟩
    · cases h3
      have e1 := bl_of hx h1
      have e2 := int_of hy h2
      subst e1; subst e2
      cases rx
      obtain ⟨t, rfl⟩ := ry
      exact PySem.IntBool.add_bool_int ⟨.int _, H, I.tok _, ⟨_, rfl⟩, hq φ H _ .refl hs rfl⟩
    · split at h3
      · rename_i hz
        cases h3
        exact op_add_str pins s σ H x y v u Q I rx ry ⟨_, _, str_of hx h1, str_of hy h2, small_le hz, hq φ H _ .refl hs rfl⟩
      · cases h3
    · split at h3
      · rename_i hz
        cases h3
        obtain ⟨l1, vs1, e1, f1, r1⟩ := rd_fl hs hx h1 n1
        obtain ⟨l2, vs2, e2, f2, r2⟩ := rd_fl hs hy h2 n2
        refine cat_lists pins s σ H x y v u Q I rx ry ⟨l1, l2, vs1, vs2, e1, e2, f1, f2, by rw [r1.length, r2.length]; exact small_le hz, fun p hp => ?_⟩
        have e := Ext.new (o := .lst (vs1 ++ vs2)) hp hs
        exact hq φ _ _ e (hs.new hp) ⟨p, _, rfl, newFL hs hp, RDs.mono e _ _ (RDs.append r1 r2)⟩
      · cases h3
    · split at h3
      · rename_i hz
        cases h3
        obtain ⟨l1, vs1, e1, f1, r1⟩ := tup_of hx h1
        obtain ⟨l2, vs2, e2, f2, r2⟩ := tup_of hy h2
        refine op_catA pins s σ H x y v u Q I rx ry ⟨l1, l2, vs1, vs2, e1, e2, f1.sq, f2.sq, by rw [r1.length, r2.length]; exact small_le hz, fun hz1 => ?_, fun hz1 hz2 => ?_, fun _ _ p hp => ?_⟩
        · have := r1.length
          rw [hz1] at this
          rw [List.length_eq_zero_iff.mp this.symm, List.nil_append] at hq
          exact hq φ H _ .refl hs ⟨l2, vs2, rfl, f2, r2⟩
        · have := r2.length
          rw [hz2] at this
          rw [List.length_eq_zero_iff.mp this.symm, List.append_nil] at hq
          exact hq φ H _ .refl hs ⟨l1, vs1, rfl, f1, r1⟩
        · have e := Ext.new (o := .tup (vs1 ++ vs2)) hp hs
          exact hq φ _ _ e (hs.new hp) ⟨p, _, rfl, upd_same, RDs.mono e _ _ (RDs.append r1 r2)⟩
      · cases h3
    · cases h3
  · cases hg
def subP : PyData → PyData → Option PyData
  | .int a, .int b => some (.int (a - b))
  | .bool a, .int b => some (.int ((if a = true then 1 else 0) - b))
  | _, _ => none
theorem o_sub : OpR X (binaryOp .Sub) (rO X.K X.mg (on2 subP)) := by
  intro pins s σ H x y v u Q I rx ry h
  obtain ⟨φ, S, w1, w2, w, hs, hx, hy, hg, hq⟩ := h
  obtain ⟨a, b, c, h1, h2, h3, rfl⟩ := on2_of hg
  unfold subP at h3
  split at h3
  · cases h3
    exact op_sub pins s σ H x y v u Q I rx ry ⟨_, _, int_of hx h1, int_of hy h2, hq φ H _ .refl hs rfl⟩
  · cases h3
    have e1 := bl_of hx h1
    have e2 := int_of hy h2
    subst e1; subst e2
    cases rx
    obtain ⟨t, rfl⟩ := ry
    exact PySem.IntBool.sub_bool_int ⟨.int _, H, I.tok _, ⟨_, rfl⟩, hq φ H _ .refl hs rfl⟩
  · cases h3
/-! ### chains of two comparisons -/
def dChain (g g' : So → W → W → Option W) (a b c : DE) : DE := fun σ S => bnd (a σ S) fun x S1 => bnd (b σ S1) fun y S2 => match (g S2 x y).bind bOf with
  | none => none
  | some false => some (.ok (.d (.bool false)) S2)
  | some true => bnd (c σ S2) fun z S3 => giv (g' S3 y z) S3
variable {a b c : Expr} {da db dc : DE}
theorem chain_rd {g g' : So → W → W → Option W} (σV : L2.St) (H : Hp) (Q : VK) (h : tE X.K X.mg E (dChain g g' da db dc) σV H Q) :
    tChain (rO X.K X.mg g) (rO X.K X.mg g') (tE X.K X.mg E da) (tE X.K X.mg E db) (tE X.K X.mg E dc) σV H Q := by
  obtain ⟨φ, σ, S, r', hs, he, hd, hq⟩ := h
  unfold dChain at hd
  match ha : da σ S, hd with
  | none, hd => cases hd
  | some (.xc x S1), hd => cases hd; exact ⟨φ, σ, S, .xc x S1, hs, he, ha, hq⟩
  | some (.ok x S1), hd =>
    refine ⟨φ, σ, S, .ok x S1, hs, he, ha, fun φ1 H1 v1 e1 s1 x1 => ?_⟩
    rw [bnd_ok] at hd
    match hb : db σ S1, hd with
    | none, hd => cases hd
    | some (.xc y S2), hd => cases hd; exact ⟨φ1, σ, S1, .xc y S2, s1, he.mono e1, hb, XR.keep e1 hq⟩
    | some (.ok y S2), hd =>
      refine ⟨φ1, σ, S1, .ok y S2, s1, he.mono e1, hb, fun φ2 H2 v2 e2 s2 y2 => ?_⟩
      rw [bnd_ok] at hd
      match hgb : (g S2 x y).bind bOf, hd with
      | none, hd => cases hd
      | some k, hd =>
        obtain ⟨w, hw, hk⟩ := Option.bind_eq_some_iff.mp hgb
        rw [bOf_eq hk] at hw
        refine ⟨φ2, S2, x, y, _, s2, x1.mono e2, y2, hw, fun φ3 H3 v3 e3 s3 x3 => ⟨k, x3, ?_⟩⟩
        have e13 := (e1.trans e2).trans e3
        cases k with
        | false =>
          refine iteF ?_
          cases hd
          exact hq φ3 H3 _ e13 s3 rfl
        | true =>
          refine iteT ?_
          dsimp only at hd
          match hc : dc σ S2, hd with
          | none, hd => cases hd
          | some (.xc z S4), hd => cases hd; exact ⟨φ3, σ, S2, .xc z S4, s3, he.mono e13, hc, XR.keep e13 hq⟩
          | some (.ok z S4), hd =>
            refine ⟨φ3, σ, S2, .ok z S4, s3, he.mono e13, hc, fun φ4 H4 v4 e4 s4 z4 => ?_⟩
            rw [bnd_ok] at hd
            match hg' : g' S4 y z, hd with
            | none, hd => cases hd
            | some w', hd =>
              cases hd
              exact ⟨φ4, S4, y, z, w', s4, (y2.mono e3).mono e4, z4, hg', fun φ' H' v e' => hq φ' H' v (e13.trans (e4.trans e'))⟩
theorem e_chain {op op' : CmpOp} {g g' : So → W → W → Option W} (ho : OpR X (compareOp op) (rO X.K X.mg g)) (ho' : OpR X (compareOp op') (rO X.K X.mg g')) (ha : SE X E a da) (hb : SE X E b db) (hc : SE X E c dc)
    (hm : lastMarks [op, op'] [b, c] = false := by with_unfolding_all rfl) : SE X E (.Compare a [op, op'] [b, c] pos) (dChain g g' da db dc) := PEw (pe_chain ho ho' ha hb hc hm) chain_rd
theorem t_chain {op op' : CmpOp} {g g' : So → W → W → Option W} (ho : OpR X (compareOp op) (rO X.K X.mg g)) (ho' : OpR X (compareOp op') (rO X.K X.mg g')) (ha : SE X E a da) (hb : SE X E b db) (hc : SE X E c dc)
    (hm : lastMarks [op, op'] [b, c] = false := by with_unfolding_all rfl) : ST X E (.Compare a [op, op'] [b, c] pos) (dB (dChain g g' da db dc)) :=
  PTw (pt_chain ho ho' ha hb hc hm) fun σV H Q h => chain_rd σV H _ (b_rd σV H Q h)
end
end CL
end

section
/-! part CLOpB -/
set_option Elab.async false
set_option linter.all false
set_option maxRecDepth 100000
/-! CLOpB: items, slices, len, tuple, list, all, isinstance, repr, str, texts, zip, methods of lists and texts. -/
namespace CL
open PySem PySem.Spec PyProof.Rows L2

section
variable {X : Cx} {E : EK} {pos p : Pos} {a b : Expr} {da db : DE}
/-! ### x[i] -/
def atP : PyData → PyData → Option PyData
  | .list xs, .int i => L2.atI xs i
  | .tuple xs, .int i => L2.atI xs i
  | .str z, .int i => if small z.length = true then (L2.atI z.cps.toList i).map fun c => .str ⟨#[c]⟩ else none
  | _, _ => none
theorem RDs.at_ {K : PySem.W.Frag} {H : Hp} {φ : Fi} {ds : List PyData} {vs : List V} {i : Int} {d : PyData} (h : RDs K H φ ds vs) (e : L2.atI ds i = some d) : ∃ v, L2.atI vs i = some v ∧ RD K H φ d v := by
  unfold L2.atI at e ⊢
  obtain ⟨j, h1, h2⟩ := Option.bind_eq_some_iff.mp e
  obtain ⟨v, h3, h4⟩ := h.get h2
  exact ⟨v, by rw [h.length, h1]; exact h3, h4⟩
theorem ix_rd (v1 v2 : V) (H : Hp) (Q : VK) (h : rO X.K X.mg (on2 atP) v1 v2 H Q) : rIx X.K v1 v2 H Q := by
  obtain ⟨φ, S, x, y, w, hs, hx, hy, hg, hq⟩ := h
  obtain ⟨c, d, e, h1, h2, h3, rfl⟩ := on2_of hg
  unfold atP at h3
  split at h3
  · rename_i xs i
    obtain ⟨l, vs, e1, f1, r1⟩ := seqL_of hs hx h1
    obtain ⟨v, q1, q2⟩ := r1.at_ h3
    exact .inl ⟨l, vs, i, v, e1, int_of hy h2, f1, q1, hq φ H v .refl hs q2⟩
  · rename_i xs i
    obtain ⟨l, vs, e1, f1, r1⟩ := seqT_of hx h1
    obtain ⟨v, q1, q2⟩ := r1.at_ h3
    exact .inr (.inl ⟨l, vs, i, v, e1, int_of hy h2, f1, q1, hq φ H v .refl hs q2⟩)
  · rename_i z i
    split at h3
    · rename_i hz
      obtain ⟨c, q1, q2⟩ := Option.map_eq_some_iff.mp h3
      subst q2
      exact .inr (.inr ⟨z, i, c, str_of hx h1, int_of hy h2, small_le hz, q1, hq φ H _ .refl hs rfl⟩)
    · cases h3
  · cases h3
def dIx (a b : DE) : DE := dBin (on2 atP) a b
theorem e_ix (ha : SE X E a da) (hb : SE X E b db) (hp : PlainIx b := by intro _ _; rfl) : SE X E (.Subscript a b pos) (dIx da db) :=
  PEw (pe_ix ix_seq ha hb hp) fun σV H Q h => bin_rd ix_rd σV H Q h
/-! ### x[lo:hi] -/
abbrev DO := En → So → M (Option Int)
section
variable (K : PySem.W.Frag) (mg : Str → Option Value) (E : XK)
def oO (φ : Fi) (H : Hp) (Q : Option Int → Hp → Prop) : RE (Option Int) → Prop
  | .ok w S' => ∀ φ' H', Ext φ H φ' H' → SR K H' φ' S' → Q w H'
  | .xc x S' => ∀ φ' H', Ext φ H φ' H' → SR K H' φ' S' → XR K mg E x H' φ'
def tO (E : EK) (d : DO) : TO := fun σV H Q => ∃ φ σ S r, SR K H φ S ∧ ER K H φ mg σV σ ∧ d σ S = some r ∧ oO K mg (E σV) φ H Q r
end
abbrev SO (X : Cx) (E : EK) (e : Option Expr) (d : DO) : Prop := PO X e (tO X.K X.mg E d)
theorem POw {e : Option Expr} {t t' : TO} (h : PO X e t) (k : ∀ σ H Q, t' σ H Q → t σ H Q) : PO X e t' := ⟨fun pins s σ H Q I q => h.run pins s σ H Q I (k σ H Q q)⟩
def dNoP : DO := fun _ S => some (.ok none S)
def intW : W → Option Int
  | .d (.int i) => some i
  | _ => none
def dPt (d : DE) : DO := fun σ S => bnd (d σ S) fun w S1 => giv ((intW w).map some) S1
theorem p_no : SO X E none dNoP := POw po_none fun σV H Q ⟨φ, σ, S, r, hs, he, hd, hq⟩ => by cases hd; exact hq φ H .refl hs
theorem intW_of {w : W} {i : Int} (h : intW w = some i) : w = .d (.int i) := by
  unfold intW at h; split at h
  · cases h; rfl
  · cases h
theorem p_e (ha : SE X E a da) : SO X E (some a) (dPt da) := by
  refine POw (po_some ha) fun σV H Q q => ?_
  obtain ⟨φ, σ, S, r', hs, he, hd, hq⟩ := q
  unfold dPt at hd
  match ha : da σ S, hd with
  | none, hd => cases hd
  | some (.xc x S1), hd => cases hd; exact ⟨φ, σ, S, .xc x S1, hs, he, ha, hq⟩
  | some (.ok x S1), hd =>
    rw [bnd_ok] at hd
    match hi : intW x, hd with
    | none, hd => cases hd
    | some i, hd =>
      cases hd
      rw [intW_of hi] at ha
      exact ⟨φ, σ, S, .ok (.d (.int i)) S1, hs, he, ha, fun φ1 H1 v1 e1 s1 x1 => ⟨i, x1, hq φ1 H1 e1 s1⟩⟩
def cutG {α : Type} (xs : List α) (lo hi : Option Int) : List α := (xs.drop (HT.sIx xs.length 0 lo)).take (HT.sIx xs.length xs.length hi - HT.sIx xs.length 0 lo)
theorem RDs.cutG {K : PySem.W.Frag} {H : Hp} {φ : Fi} {ds : List PyData} {vs : List V} {lo hi : Option Int} (h : RDs K H φ ds vs) : RDs K H φ (cutG ds lo hi) (cutV vs lo hi) := by
  unfold CL.cutG L2.cutV
  rw [h.length]
  exact RDs.take _ (RDs.drop _ h)
/-- of a tuple, of a text -/
def cutP (lo hi : Option Int) : PyData → Option PyData
  | .tuple xs => some (.tuple (cutG xs lo hi))
  | .str z => if small z.length = true then some (.str (Txt.slice z lo hi)) else none
  | _ => none
def dSl (a : DE) (l h : DO) : DE := fun σ S => bnd (a σ S) fun w S1 => bnd (l σ S1) fun lo S2 => bnd (h σ S2) fun hi S3 => giv ((rd S3 w).bind fun x => (cutP lo hi x).map W.d) S3
theorem sIx_whole {n : Nat} {lo hi : Option Int} {α : Type} {xs : List α} (hn : xs.length = n) (h : HT.sIx n 0 lo = 0 ∧ HT.sIx n n hi = n) : CL.cutG xs lo hi = xs := by
  unfold CL.cutG
  rw [hn, h.1, h.2, ← hn]
  simp
theorem sl_rd {dl dh : DO} (σV : L2.St) (H : Hp) (Q : VK) (h : tE X.K X.mg E (dSl da dl dh) σV H Q) :
    tSl (fun x lo hi H Q => rSlA X.K x lo hi H Q ∨ C8.rSlX x lo hi H Q) (tE X.K X.mg E da) (tO X.K X.mg E dl) (tO X.K X.mg E dh) σV H Q := by
  obtain ⟨φ, σ, S, r', hs, he, hd, hq⟩ := h
  unfold dSl at hd
  match ha : da σ S, hd with
  | none, hd => cases hd
  | some (.xc x S1), hd => cases hd; exact ⟨φ, σ, S, .xc x S1, hs, he, ha, hq⟩
  | some (.ok x S1), hd =>
    refine ⟨φ, σ, S, .ok x S1, hs, he, ha, fun φ1 H1 v1 e1 s1 x1 => ?_⟩
    rw [bnd_ok] at hd
    match hb : dl σ S1, hd with
    | none, hd => cases hd
    | some (.xc y S2), hd => cases hd; exact ⟨φ1, σ, S1, .xc y S2, s1, he.mono e1, hb, XR.keep e1 hq⟩
    | some (.ok lo S2), hd =>
      refine ⟨φ1, σ, S1, .ok lo S2, s1, he.mono e1, hb, fun φ2 H2 e2 s2 => ?_⟩
      rw [bnd_ok] at hd
      have e12 := e1.trans e2
      match hc : dh σ S2, hd with
      | none, hd => cases hd
      | some (.xc y S3), hd => cases hd; exact ⟨φ2, σ, S2, .xc y S3, s2, he.mono e12, hc, XR.keep e12 hq⟩
      | some (.ok hi S3), hd =>
        refine ⟨φ2, σ, S2, .ok hi S3, s2, he.mono e12, hc, fun φ3 H3 e3 s3 => ?_⟩
        rw [bnd_ok] at hd
        have e13 := e12.trans e3
        have x3 := (x1.mono e2).mono e3
        match hg : (rd S3 x).bind fun x => (cutP lo hi x).map W.d, hd with
        | none, hd => cases hd
        | some w, hd =>
          cases hd
          obtain ⟨y, h1, h2⟩ := Option.bind_eq_some_iff.mp hg
          obtain ⟨z, h3, h4⟩ := Option.map_eq_some_iff.mp h2
          subst h4
          unfold cutP at h3
          split at h3
          · cases h3
            obtain ⟨l, vs, e5, f1, r1⟩ := tup_of x3 h1
            refine .inl ⟨l, vs, e5, f1.sq, fun hw => ?_, fun hw p hp => ?_⟩
            · have e6 := sIx_whole (lo := lo) (hi := hi) r1.length.symm hw
              exact hq φ3 H3 _ e13 s3 ⟨l, vs, rfl, f1, by rw [e6]; exact r1⟩
            · have e := Ext.new (o := .tup (cutV vs lo hi)) hp s3
              exact hq φ3 _ _ (e13.trans e) (s3.new hp) ⟨p, _, rfl, upd_same, RDs.mono e _ _ r1.cutG⟩
          · split at h3
            · rename_i hz
              cases h3
              exact .inr ⟨_, str_of x3 h1, small_le hz, hq φ3 H3 _ e13 s3 rfl⟩
            · cases h3
          · cases h3
theorem e_sl {lo hi : Option Expr} {dl dh : DO} {p2 : Pos} (ha : SE X E a da) (hl : SO X E lo dl) (hh : SO X E hi dh) : SE X E (.Subscript a (.Slice lo hi none p2) pos) (dSl da dl dh) :=
  PEw (pe_slice (sl_tupA.or C8.sl_txt) ha hl hh) sl_rd
/-- of a list: a new list -/
def lstW (S : So) (w : W) : Option (List PyData) := (rd S w).bind fun
  | .list xs => some xs
  | _ => none
theorem lstW_of {S : So} {w : W} {xs : List PyData} (h : lstW S w = some xs) : rd S w = some (.list xs) := by
  obtain ⟨y, h1, h2⟩ := Option.bind_eq_some_iff.mp h
  cases y <;> simp at h2
  subst h2
  exact h1
def dSlL (a : DE) (l h : DO) : DN := fun σ S => bnd (a σ S) fun w S1 => bnd (l σ S1) fun lo S2 => bnd (h σ S2) fun hi S3 => giv ((lstW S3 w).map fun xs => cutG xs lo hi) S3
theorem slL_rd {dl dh : DO} (σV : L2.St) (H : Hp) (Q : VK) (h : tN X.K X.mg E (dSlL da dl dh) σV H Q) :
    tSl (rSlL X.K) (tE X.K X.mg E da) (tO X.K X.mg E dl) (tO X.K X.mg E dh) σV H Q := by
  obtain ⟨φ, σ, S, r', hs, he, hd, hq⟩ := h
  unfold dSlL at hd
  match ha : da σ S, hd with
  | none, hd => cases hd
  | some (.xc x S1), hd => cases hd; exact ⟨φ, σ, S, .xc x S1, hs, he, ha, hq⟩
  | some (.ok x S1), hd =>
    refine ⟨φ, σ, S, .ok x S1, hs, he, ha, fun φ1 H1 v1 e1 s1 x1 => ?_⟩
    rw [bnd_ok] at hd
    match hb : dl σ S1, hd with
    | none, hd => cases hd
    | some (.xc y S2), hd => cases hd; exact ⟨φ1, σ, S1, .xc y S2, s1, he.mono e1, hb, XR.keep e1 hq⟩
    | some (.ok lo S2), hd =>
      refine ⟨φ1, σ, S1, .ok lo S2, s1, he.mono e1, hb, fun φ2 H2 e2 s2 => ?_⟩
      rw [bnd_ok] at hd
      have e12 := e1.trans e2
      match hc : dh σ S2, hd with
      | none, hd => cases hd
      | some (.xc y S3), hd => cases hd; exact ⟨φ2, σ, S2, .xc y S3, s2, he.mono e12, hc, XR.keep e12 hq⟩
      | some (.ok hi S3), hd =>
        refine ⟨φ2, σ, S2, .ok hi S3, s2, he.mono e12, hc, fun φ3 H3 e3 s3 => ?_⟩
        rw [bnd_ok] at hd
        have x3 := (x1.mono e2).mono e3
        match hg : (lstW S3 x).map fun xs => CL.cutG xs lo hi, hd with
        | none, hd => cases hd
        | some w, hd =>
          cases hd
          obtain ⟨xs, h1, h2⟩ := Option.map_eq_some_iff.mp hg
          subst h2
          obtain ⟨l, vs, e5, f1, r1⟩ := seqL_of s3 x3 (lstW_of h1)
          exact ⟨l, vs, e5, f1, fun p hp => hq φ3 H3 p _ (e12.trans e3) s3 hp r1.cutG⟩
theorem n_sl {lo hi : Option Expr} {dl dh : DO} {p2 : Pos} (ha : SE X E a da) (hl : SO X E lo dl) (hh : SO X E hi dh) : SN X E (.Subscript a (.Slice lo hi none p2) pos) (dSlL da dl dh) :=
  PEw (pe_slice sl_list ha hl hh) slL_rd
/-! ### calls of built-ins -/
theorem one_of {K : PySem.W.Frag} {mg : Str → Option Value} {H : Hp} {φ : Fi} {w : W} {vs : List V} (h : RWs K H φ mg [w] vs) : ∃ v, vs = [v] ∧ RW K H φ mg w v := by
  obtain ⟨v, r, e, h1, h2⟩ := h; cases h2; exact ⟨v, e, h1⟩
theorem two_of {K : PySem.W.Frag} {mg : Str → Option Value} {H : Hp} {φ : Fi} {w u : W} {vs : List V} (h : RWs K H φ mg [w, u] vs) : ∃ v z, vs = [v, z] ∧ RW K H φ mg w v ∧ RW K H φ mg u z := by
  obtain ⟨v, r, e, h1, v2, r2, e2, h2, h3⟩ := h; cases h3; subst e2; exact ⟨v, v2, e, h1, h2⟩
/-- a function of one argument as it is read -/
def c1 (f : PyData → Option PyData) : So → List W → Option W
  | S, [w] => on1 f S w
  | _, _ => none
@[simp] theorem c1_d (f : PyData → Option PyData) (S : So) (a : PyData) : c1 f S [.d a] = (f a).map W.d := rfl
theorem c1_of {f : PyData → Option PyData} {S : So} {ws : List W} {w : W} (h : c1 f S ws = some w) : ∃ u x c, ws = [u] ∧ rd S u = some x ∧ f x = some c ∧ w = .d c := by
  unfold c1 at h
  split at h
  · obtain ⟨a, c, h1, h2, h3⟩ := on1_of h; exact ⟨_, a, c, rfl, h1, h2, h3⟩
  · cases h
def lenP : PyData → Option PyData
  | .list xs => some (.int xs.length)
  | .tuple xs => some (.int xs.length)
  | .str z => if small z.length = true then some (.int z.length) else none
  | _ => none
theorem b_len : CallR X (.builtin "len") (rC X.K X.mg (c1 lenP)) :=
  callw (call_len_seq.or call_len_str) fun vs H Q ⟨φ, S, ws, w, hs, hx, hg, hq⟩ => by
    obtain ⟨u, x, c, rfl, h1, h2, rfl⟩ := c1_of hg
    obtain ⟨v, rfl, hv⟩ := one_of hx
    unfold lenP at h2
    split at h2
    · cases h2
      obtain ⟨l, vs, rfl, f1, r1⟩ := seqL_of hs hv h1
      exact .inl ⟨l, vs, rfl, .inl f1, hq φ H _ .refl hs (by rw [r1.length]; rfl)⟩
    · cases h2
      obtain ⟨l, vs, rfl, f1, r1⟩ := seqT_of hv h1
      exact .inl ⟨l, vs, rfl, .inr f1, hq φ H _ .refl hs (by rw [r1.length]; rfl)⟩
    · split at h2
      · rename_i hz
        cases h2
        rw [str_of hv h1]
        exact .inr ⟨_, rfl, small_le hz, hq φ H _ .refl hs rfl⟩
      · cases h2
    · cases h2
def tupP : PyData → Option PyData
  | .list xs => some (.tuple xs)
  | .tuple xs => some (.tuple xs)
  | _ => none
theorem b_tuple : CallR X (.type "tuple") (rC X.K X.mg (c1 tupP)) :=
  callw call_tuple_of fun vs H Q ⟨φ, S, ws, w, hs, hx, hg, hq⟩ => by
    obtain ⟨u, x, c, rfl, h1, h2, rfl⟩ := c1_of hg
    obtain ⟨v, rfl, hv⟩ := one_of hx
    unfold tupP at h2
    split at h2
    · cases h2
      obtain ⟨l, vs, rfl, f1, r1⟩ := seqL_of hs hv h1
      refine ⟨l, vs, rfl, .inl ⟨f1, fun p hp => ?_⟩⟩
      have e := Ext.new (o := .tup vs) hp hs
      exact hq φ _ _ e (hs.new hp) ⟨p, _, rfl, upd_same, RDs.mono e _ _ r1⟩
    · cases h2
      obtain ⟨l, vs, rfl, f1, r1⟩ := tup_of hv h1
      exact ⟨l, vs, rfl, .inr ⟨f1.sq, hq φ H _ .refl hs ⟨l, vs, rfl, f1, r1⟩⟩⟩
    · cases h2
/-- a call that makes a list -/
def rCN (K : PySem.W.Frag) (mg : Str → Option Value) (g : So → List W → Option (List PyData)) : List V → Hp → VK → Prop := fun vs H Q => ∃ φ S ws xs, SR K H φ S ∧ RWs K H φ mg ws vs ∧ g S ws = some xs ∧
  ∀ φ' H' p us, Ext φ H φ' H' → SR K H' φ' S → H' p = none → RDs K H' φ' xs us → Q (.ref p) (upd H' p (.lst us))
def dCallN (g : So → List W → Option (List PyData)) (as : DA) : DN := fun σ S => bnd (as σ S) fun ws S1 => giv (g S1 ws) S1
theorem callN_rd {g : So → List W → Option (List PyData)} {das : DA} (σV : L2.St) (H : Hp) (Q : VK) (h : tN X.K X.mg E (dCallN g das) σV H Q) : tCB (rCN X.K X.mg g) (tA X.K X.mg E das) σV H Q := by
  obtain ⟨φ, σ, S, r', hs, he, hd, hq⟩ := h
  unfold dCallN at hd
  match ha : das σ S, hd with
  | none, hd => cases hd
  | some (.xc x S1), hd => cases hd; exact ⟨φ, σ, S, .xc x S1, hs, he, ha, hq⟩
  | some (.ok ws S1), hd =>
    refine ⟨φ, σ, S, .ok ws S1, hs, he, ha, fun φ1 H1 vs e1 s1 x1 => ?_⟩
    rw [bnd_ok] at hd
    match hg : g S1 ws, hd with
    | none, hd => cases hd
    | some w, hd =>
      cases hd
      exact ⟨φ1, S1, ws, w, s1, x1, hg, fun φ' H' p us e' => hq φ' H' p us (e1.trans e')⟩
variable {x : Str} {es : List Expr} {das : DA}
theorem n_callTy {T : String} {g : So → List W → Option (List PyData)} (hc : CallR X (.type T) (rCN X.K X.mg g)) (hm : X.mg x = none) (ha : SA X E (a :: es) das) (hg : Gl X x := by rfl) (hv : bootBuiltins x = some (.type T) := by decide +kernel) (hn : x ≠ "__name__" := by decide) (hdb : (x == ("__debug__" : Str)) = false := by decide)
    (he : starEach (a :: es) X.env = (false, eval a X.env) :: starEach es X.env := by rfl) (hpl : (backTo pos (starEach es X.env)).any (·.1) = false := by rfl) : SN X E (.Call (.Name x p) (a :: es) [] pos) (dCallN g das) :=
  PEw (pe_callTy hc hg hm hv ha hn hdb he hpl) callN_rd
theorem n_callB {id : String} {g : So → List W → Option (List PyData)} (hc : CallR X (.builtin id) (rCN X.K X.mg g)) (hm : X.mg x = none) (ha : SA X E (a :: es) das) (hg : Gl X x := by rfl) (hv : bootBuiltins x = some (.builtin id) := by decide +kernel) (hn : x ≠ "__name__" := by decide) (hdb : (x == ("__debug__" : Str)) = false := by decide)
    (he : starEach (a :: es) X.env = (false, eval a X.env) :: starEach es X.env := by rfl) (hpl : (backTo pos (starEach es X.env)).any (·.1) = false := by rfl) : SN X E (.Call (.Name x p) (a :: es) [] pos) (dCallN g das) :=
  PEw (pe_callB hc hg hm hv ha hn hdb he hpl) callN_rd
/-- list(x) -/
def listG : So → List W → Option (List PyData)
  | S, [w] => (rd S w).bind fun
    | .list xs => some xs
    | .tuple xs => some xs
    | _ => none
  | _, _ => none
theorem b_list : CallR X (.type "list") (rCN X.K X.mg listG) :=
  callw call_list_of fun vs H Q ⟨φ, S, ws, xs, hs, hx, hg, hq⟩ => by
    unfold listG at hg
    split at hg
    · obtain ⟨v, rfl, hv⟩ := one_of hx
      obtain ⟨y, h1, h2⟩ := Option.bind_eq_some_iff.mp hg
      cases y <;> simp at h2
      · subst h2
        obtain ⟨l, us, rfl, f1, r1⟩ := seqL_of hs hv h1
        exact ⟨l, us, rfl, .inl f1, fun p hp => hq φ H p us .refl hs hp r1⟩
      · subst h2
        obtain ⟨l, us, rfl, f1, r1⟩ := seqT_of hv h1
        exact ⟨l, us, rfl, .inr f1, fun p hp => hq φ H p us .refl hs hp r1⟩
    · cases hg
/-- all(xs) of a list of bools -/
def bools : List PyData → Option (List Bool)
  | [] => some []
  | .bool b :: r => (bools r).map (b :: ·)
  | _ :: _ => none
def allP : PyData → Option PyData
  | .list xs => (bools xs).map fun bs => .bool (bs.all id)
  | _ => none
theorem bools_of {K : PySem.W.Frag} {H : Hp} {φ : Fi} : ∀ {ds : List PyData} {vs : List V} {bs : List Bool}, RDs K H φ ds vs → bools ds = some bs → vs = bs.map V.bl
  | [], _, _, h, e => by cases e; exact h
  | .bool b :: ds, _, _, ⟨v, r, e1, h1, h2⟩, e => by
    obtain ⟨cs, e2, e3⟩ := Option.map_eq_some_iff.mp e
    subst e3; subst e1
    rw [bools_of h2 e2, show v = .bl b from h1]; rfl
  | .none :: _, _, _, _, e => by cases e
  | .int _ :: _, _, _, _, e => by cases e
  | .str _ :: _, _, _, _, e => by cases e
  | .list _ :: _, _, _, _, e => by cases e
  | .tuple _ :: _, _, _, _, e => by cases e
  | .dict _ :: _, _, _, _, e => by cases e
theorem b_all (hc : X.calm = true := by rfl) : CallR X (.builtin "all") (rC X.K X.mg (c1 allP)) :=
  callw (cr_all hc) fun vs H Q ⟨φ, S, ws, w, hs, hx, hg, hq⟩ => by
    obtain ⟨u, x, c, rfl, h1, h2, rfl⟩ := c1_of hg
    obtain ⟨v, rfl, hv⟩ := one_of hx
    unfold allP at h2
    split at h2
    · obtain ⟨bs, h3, h4⟩ := Option.map_eq_some_iff.mp h2
      subst h4
      obtain ⟨l, vs, rfl, f1, r1⟩ := seqL_of hs hv h1
      rw [bools_of r1 h3] at f1
      exact ⟨l, bs, rfl, f1, hq φ H _ .refl hs rfl⟩
    · cases h2
/-- isinstance(x, T), T a built-in type -/
def tyN : PyData → Option String
  | .none => none
  | .bool _ => some "bool"
  | .int _ => some "int"
  | .str _ => some "str"
  | .list _ => some "list"
  | .tuple _ => some "tuple"
  | .dict _ => none
def isiP (T : String) (x : PyData) : Option PyData := match x with
  | .none => some (.bool false)
  | .bool _ => some (.bool (T == "bool" || T == "int"))
  | .int _ => some (.bool (T == "int"))
  | .str _ => some (.bool (T == "str"))
  | .list _ => some (.bool (T == "list"))
  | .tuple _ => some (.bool (T == "tuple"))
  | .dict _ => none
/-- the types that are asked for here -/
def tyOk (T : String) : Bool := T == "bool" || T == "int" || T == "str" || T == "list" || T == "tuple"
theorem kit_none (T : String) (h : tyOk T = true) : kitB "NoneType" T = some false := by
  unfold tyOk at h; simp only [Bool.or_eq_true, beq_iff_eq] at h
  rcases h with ((((h | h) | h) | h) | h) <;> subst h <;> decide +kernel
theorem kit_bool (T : String) (h : tyOk T = true) : kitB "bool" T = some (T == "bool" || T == "int") := by
  unfold tyOk at h; simp only [Bool.or_eq_true, beq_iff_eq] at h
  rcases h with ((((h | h) | h) | h) | h) <;> subst h <;> decide +kernel
theorem kit_int (T : String) (h : tyOk T = true) : kitB "int" T = some (T == "int") := by
  unfold tyOk at h; simp only [Bool.or_eq_true, beq_iff_eq] at h
  rcases h with ((((h | h) | h) | h) | h) <;> subst h <;> decide +kernel
theorem kit_str (T : String) (h : tyOk T = true) : kitB "str" T = some (T == "str") := by
  unfold tyOk at h; simp only [Bool.or_eq_true, beq_iff_eq] at h
  rcases h with ((((h | h) | h) | h) | h) <;> subst h <;> decide +kernel
theorem kit_list (T : String) (h : tyOk T = true) : kitB "list" T = some (T == "list") := by
  unfold tyOk at h; simp only [Bool.or_eq_true, beq_iff_eq] at h
  rcases h with ((((h | h) | h) | h) | h) <;> subst h <;> decide +kernel
theorem kit_tuple (T : String) (h : tyOk T = true) : kitB "tuple" T = some (T == "tuple") := by
  unfold tyOk at h; simp only [Bool.or_eq_true, beq_iff_eq] at h
  rcases h with ((((h | h) | h) | h) | h) <;> subst h <;> decide +kernel
end
end CL
end

section
/-! part CLZip -/
set_option Elab.async false
set_option linter.all false
set_option maxRecDepth 100000
set_option maxHeartbeats 2000000
/-! CLZip: zip of two tuples, whatever the target: the tuple handed out last may be in use or not. -/
namespace CL
open PySem PySem.Spec PyProof.Rows L2
open RZ (nextOf_tuple_item nextOf_tuple_end ItzT)
section
variable {P : Program} {w : World} {A : Around} {E : Value → Shared → Prop} {s : Shared}
/-- the zip: v tells the tuple that it handed out last -/
def ZS (h : Heap) (z TI TO : Addr) (v : Value) (f : Bool) : Prop := h.get? z = some { cls := .type "zip", dict := none, data := .fields #[v, .bool f, .bool false, .ref TI, .ref TO], slots := #[] }
def Last (v : Value) : Prop := v = .none ∨ ∃ T : Addr, v = rawInt T
theorem zs_free {z TI TO : Addr} {v : Value} {f : Bool} {Q : Bool → Shared → Prop} (hz : ZS s.heap z TI TO v f) (hv : Last v) (hQ : ∀ (b : Bool) (h2 : Heap) (g : Bool), ZS h2 z TI TO v g → Heap.SameBut z s.heap h2 → Q b { s with heap := h2 }) :
    wpAny (model P w) A (Builtin.SmallTypes.ownedTupleIsFree (.ref z)) Q E s := by
  have stay := fun b => hQ b s.heap f hz (Heap.SameBut.refl _ _)
  unfold Builtin.SmallTypes.ownedTupleIsFree
  rcases hv with e | ⟨T, e⟩
  · subst e
    exact wpAny_bind (wpAny_field hz rfl (x := Value.none) rfl (wpAny_pure (stay true)))
  · subst e
    refine wpAny_bind (wpAny_field hz rfl (x := rawInt T) rfl ?_)
    have ask : ∀ {R : Option Obj → Shared → Prop}, R (s.heap.get? ((T : Int).toNat)) s → wpAny (model P w) A (loadIfAlive ((T : Int).toNat)) R E s := fun q _ _ _ => q
    refine wpAny_bind (m := loadIfAlive ((T : Int).toNat)) (ask ?_)
    cases s.heap.get? ((T : Int).toNat) with
    | none => exact wpAny_pure (stay true)
    | some o =>
      refine wpAny_bind (wpAny_field hz rfl (x := Value.bool f) rfl ?_)
      cases f with
      | true => exact wpAny_pure (stay false)
      | false => exact wpAny_bind (wpAny_setField_rec hz (by simp) fun h2 z2 k2 => wpAny_pure (hQ false h2 true z2 k2))
/-- where the zip's parts stand -/
structure ZA (h : Heap) (z TI TO i1 i2 l1 l2 : Addr) (k : Nat) (v : Value) (f : Bool) : Prop where
  z : ZS h z TI TO v f
  last : Last v
  ti : IsPair h TI (.ref i1) (.ref i2)
  to : ∃ a b, IsPair h TO a b
  a1 : h.IsTupleIter i1 l1 k
  a2 : h.IsTupleIter i2 l2 k
variable {z TI TO i1 i2 l1 l2 : Addr} {k : Nat} {v : Value} {f : Bool} {xs ys : Array Value} {x y : Value}
theorem zq_item {Q : Value → Shared → Prop} (D : ZipApart z TI TO i1 i2 l1 l2) (Z : ZA s.heap z TI TO i1 i2 l1 l2 k v f) (q1 : s.heap.IsTuple l1 xs) (q2 : s.heap.IsTuple l2 ys) (hx : xs[k]? = some x) (hy : ys[k]? = some y)
    (hQ : ∀ (h2 : Heap) (v2 : Value) (f2 : Bool), ZA h2 z TI TO i1 i2 l1 l2 (k + 1) v2 f2 → IsPair h2 s.heap.objs.size x y → (∀ c o, c ≠ z → c ≠ TO → c ≠ i1 → c ≠ i2 → s.heap.get? c = some o → h2.get? c = some o) → Q (.ref s.heap.objs.size) { s with heap := h2 }) :
    wpAny (model P w) A (Builtin.«zip.__next__» ⟨[.ref z], []⟩) (fun fin s' => ∃ u, fin = .done (.ret u) ∧ Q u s') E s := by
  refine wpAny_bind (m := field (.ref z) 2) (wpAny_field Z.z rfl (x := Value.bool false) rfl ?_)
  refine wpAny_bind (m := field (.ref z) 3) (wpAny_field Z.z rfl (x := Value.ref TI) rfl ?_)
  refine wpAny_bind (wpAny_seqItems Z.ti rfl (wpAny_bind (m := Builtin.SmallTypes.ownedTupleIsFree (.ref z)) (zs_free Z.z Z.last fun b ha g za sa => ?_)))
  have t0 := D.i1z; have t1 := D.i2z; have t2 := D.TOz
  have u1 := Z.a1.extBut sa.extBut D.i1z
  have u2 := Z.a2.extBut sa.extBut D.i2z
  have p1 := q1.extBut sa.extBut D.l1z
  have p2 := q2.extBut sa.extBut D.l2z
  have c1 : IsPair ha TI (.ref i1) (.ref i2) := sa.extBut _ _ D.TIz Z.ti
  obtain ⟨a0, b0, to0⟩ := Z.to
  have c2 : IsPair ha TO a0 b0 := sa.extBut _ _ D.TOz to0
  have size0 : ha.objs.size = s.heap.objs.size := sa.1
  cases b with
  | true =>
    simp only [if_true]
    refine wpAny_bind (wpAny_rule (wpAny_bind (wpAny_field za rfl (x := Value.ref TO) rfl (wpAny_bind (wpAny_setField_rec za (by simp) fun hb zb sb => ?_)))))
    replace zb : ZS hb z TI TO .ellipsis g := zb
    refine wpAny_bind ?_
    simp only [List.zipIdx_cons, List.zipIdx_nil, List.forIn_cons, List.forIn_nil]
    refine wpAny_bind (wpAny_bind (wpAny_onRaise (wpAny_bind (m := Builtin.SmallTypes.nextOf (.ref i1)) (nextOf_tuple_item (u1.extBut sb.extBut D.i1z) (p1.extBut sb.extBut D.l1z) hx fun hc j1 sc => wpAny_pure ?_))))
    have d2 : IsPair hc TO a0 b0 := sc.extBut _ _ D.TOi1 (sb.extBut _ _ D.TOz c2)
    refine wpAny_bind (wpAny_seqItems d2 rfl (wpAny_bind (wpAny_updateSeq_pair d2 fun hd d3 sd => ?_)))
    replace d3 : IsPair hd TO x b0 := d3
    refine wpAny_bind (wpAny_letGo (wpAny_pure (wpAny_bind (wpAny_bind (wpAny_onRaise (wpAny_bind (m := Builtin.SmallTypes.nextOf (.ref i2)) ?_))))))
    refine nextOf_tuple_item (((u2.extBut sb.extBut D.i2z).extBut sc.extBut D.i12.symm).extBut sd.extBut D.TOi2.symm) (((p2.extBut sb.extBut D.l2z).extBut sc.extBut D.l2i1).extBut sd.extBut D.l2TO) hy fun he j2 se => wpAny_pure ?_
    have d4 : IsPair he TO x b0 := se.extBut _ _ D.TOi2 d3
    refine wpAny_bind (wpAny_seqItems d4 rfl (wpAny_bind (wpAny_updateSeq_pair d4 fun hf d5 sf => ?_)))
    replace d5 : IsPair hf TO x y := d5
    refine wpAny_bind (wpAny_letGo (wpAny_pure (wpAny_pure (wpAny_bind (wpAny_seqItems d5 rfl (wpAny_bind (wpAny_newTuple ?_)))))))
    have size1 : hf.objs.size = s.heap.objs.size := by rw [sf.1, se.1, sd.1, sc.1, sb.1, sa.1]
    have zf : ZS hf z TI TO .ellipsis g := sf.extBut _ _ D.TOz.symm (se.extBut _ _ D.i2z.symm (sd.extBut _ _ D.TOz.symm (sc.extBut _ _ D.i1z.symm zb)))
    have old : ∀ c o, c ≠ z → c ≠ TO → c ≠ i1 → c ≠ i2 → s.heap.get? c = some o → hf.get? c = some o := fun c o n1 n2 n3 n4 e => sf.extBut _ _ n2 (se.extBut _ _ n4 (sd.extBut _ _ n2 (sc.extBut _ _ n3 (sb.extBut _ _ n1 (sa.extBut _ _ n1 e)))))
    have k1 : hf.IsTupleIter i1 l1 (k + 1) := ((j1.extBut sd.extBut D.TOi1.symm).extBut se.extBut D.i12).extBut sf.extBut D.TOi1.symm
    have k2 : hf.IsTupleIter i2 l2 (k + 1) := j2.extBut sf.extBut D.TOi2.symm
    have zlt : z < hf.objs.size := Heap.lt_size zf
    refine wpAny_bind (m := Builtin.SmallTypes.ownedTupleHandOut (.ref z) (.ref hf.objs.size)) ?_
    unfold Builtin.SmallTypes.ownedTupleHandOut
    have zg : ZS (hf.push { cls := .type "tuple", data := .seq #[x, y] }) z TI TO .ellipsis g := Heap.get?_push_of_some _ zf
    refine wpAny_bind (wpAny_setField_rec zg (by simp) fun hh zh sh => ?_)
    replace zh : ZS hh z TI TO (rawInt hf.objs.size) g := zh
    refine wpAny_setField_rec zh (by simp) fun hi zi si => wpAny_pure ⟨_, rfl, ?_⟩
    replace zi : ZS hi z TI TO (rawInt hf.objs.size) false := zi
    have up : ∀ c o, c ≠ z → hf.get? c = some o → hi.get? c = some o := fun c o n1 e => si.extBut _ _ n1 (sh.extBut _ _ n1 (Heap.get?_push_of_some _ e))
    have nw : IsPair hi hf.objs.size x y := si.extBut _ _ (Nat.ne_of_gt zlt) (sh.extBut _ _ (Nat.ne_of_gt zlt) (Heap.get?_push_size _ rfl))
    have keepTI : IsPair hi TI (.ref i1) (.ref i2) := up _ _ D.TIz (old _ _ D.TIz D.TITO D.TIi1 D.TIi2 Z.ti)
    have fin := hQ hi _ _ ⟨zi, .inr ⟨_, rfl⟩, keepTI, ⟨x, y, up _ _ D.TOz d5⟩, k1.at fun o e => up _ o D.i1z e, k2.at fun o e => up _ o D.i2z e⟩
    rw [size1] at nw
    show Q (.ref hf.objs.size) _
    rw [size1]
    exact fin nw fun c o n1 n2 n3 n4 e => up c o n1 (old c o n1 n2 n3 n4 e)
  | false =>
    rw [if_neg Bool.false_ne_true]
    refine wpAny_bind ?_
    rw [← Array.forIn_toList]
    simp only [List.forIn_cons, List.forIn_nil]
    refine wpAny_bind (wpAny_bind (wpAny_holding (wpAny_bind (m := Builtin.SmallTypes.nextOf (.ref i1)) (nextOf_tuple_item (s := { s with heap := ha }) u1 p1 hx fun hb j1 sb => wpAny_pure (wpAny_pure ?_)))))
    refine wpAny_bind (wpAny_bind (wpAny_holding (wpAny_bind (m := Builtin.SmallTypes.nextOf (.ref i2)) ?_)))
    refine nextOf_tuple_item (s := { s with heap := hb }) (u2.extBut sb.extBut D.i12.symm) (p2.extBut sb.extBut D.l2i1) hy fun hc j2 sc => wpAny_pure (wpAny_pure (wpAny_pure ?_))
    refine wpAny_bind (m := newTuple [x, y]) (wpAny_newTuple (wpAny_pure ⟨_, rfl, ?_⟩))
    have size1 : hc.objs.size = s.heap.objs.size := by rw [sc.1, sb.1, sa.1]
    have zc : ZS hc z TI TO v g := sc.extBut _ _ D.i2z.symm (sb.extBut _ _ D.i1z.symm za)
    have old : ∀ c o, c ≠ z → c ≠ i1 → c ≠ i2 → s.heap.get? c = some o → hc.get? c = some o := fun c o n1 n3 n4 e => sc.extBut _ _ n4 (sb.extBut _ _ n3 (sa.extBut _ _ n1 e))
    have k1 : hc.IsTupleIter i1 l1 (k + 1) := j1.extBut sc.extBut D.i12
    have push : ∀ c o, hc.get? c = some o → (hc.push { cls := .type "tuple", data := .seq #[x, y] }).get? c = some o := fun c o e => Heap.get?_push_of_some _ e
    have nw : IsPair (hc.push { cls := .type "tuple", data := .seq #[x, y] }) hc.objs.size x y := Heap.get?_push_size _ rfl
    rw [size1] at nw
    show Q (.ref hc.objs.size) _
    rw [size1]
    exact hQ _ _ _ ⟨push _ _ zc, Z.last, push _ _ (old _ _ D.TIz D.TIi1 D.TIi2 Z.ti), ⟨a0, b0, push _ _ (old _ _ D.TOz D.TOi1 D.TOi2 to0)⟩, k1.at fun o e => push _ o e, j2.at fun o e => push _ o e⟩ nw fun c o n1 _ n3 n4 e => push c o (old c o n1 n3 n4 e)
theorem zq_end {Q : Fin → Shared → Prop} (h0 : A.handled = none) (D : ZipApart z TI TO i1 i2 l1 l2) (Z : ZA s.heap z TI TO i1 i2 l1 l2 k v f) (q1 : s.heap.IsTuple l1 xs) (q2 : s.heap.IsTuple l2 ys) (hend : xs[k]? = none ∨ ys[k]? = none)
    (hE : ∀ (h2 : Heap) (e : Addr), (∀ c o, c ≠ z → c ≠ TO → c ≠ i1 → c ≠ i2 → s.heap.get? c = some o → h2.get? c = some o) → (∃ o, h2.get? e = some o ∧ o.cls = .type "StopIteration") → E (.ref e) { s with heap := h2 }) :
    wpAny (model P w) A (Builtin.«zip.__next__» ⟨[.ref z], []⟩) Q E s := by
  refine wpAny_bind (m := field (.ref z) 2) (wpAny_field Z.z rfl (x := Value.bool false) rfl ?_)
  refine wpAny_bind (m := field (.ref z) 3) (wpAny_field Z.z rfl (x := Value.ref TI) rfl ?_)
  refine wpAny_bind (wpAny_seqItems Z.ti rfl (wpAny_bind (m := Builtin.SmallTypes.ownedTupleIsFree (.ref z)) (zs_free Z.z Z.last fun b ha g za sa => ?_)))
  have u1 := Z.a1.extBut sa.extBut D.i1z
  have u2 := Z.a2.extBut sa.extBut D.i2z
  have p1 := q1.extBut sa.extBut D.l1z
  have p2 := q2.extBut sa.extBut D.l2z
  obtain ⟨a0, b0, to0⟩ := Z.to
  have c2 : IsPair ha TO a0 b0 := sa.extBut _ _ D.TOz to0
  cases b with
  | true =>
    simp only [if_true]
    refine wpAny_bind (wpAny_rule (wpAny_bind (wpAny_field za rfl (x := Value.ref TO) rfl (wpAny_bind (wpAny_setField_rec za (by simp) fun hb zb sb => ?_)))))
    replace zb : ZS hb z TI TO .ellipsis g := zb
    have w1 := u1.extBut sb.extBut D.i1z
    have w2 := u2.extBut sb.extBut D.i2z
    have r1 := p1.extBut sb.extBut D.l1z
    have r2 := p2.extBut sb.extBut D.l2z
    refine wpAny_bind ?_
    simp only [List.zipIdx_cons, List.zipIdx_nil, List.forIn_cons, List.forIn_nil]
    refine wpAny_bind (wpAny_bind (wpAny_onRaise (wpAny_bind (m := Builtin.SmallTypes.nextOf (.ref i1)) ?_)))
    match hx : xs[k]? with
    | none =>
      refine nextOf_tuple_end h0 w1 r1 hx fun hc e sc he => ?_
      obtain ⟨oe, e1, e2⟩ := he
      have zc : ZS hc z TI TO .ellipsis g := sc _ _ D.i1z.symm zb
      have ne : e ≠ z := fun q => by subst q; rw [zc] at e1; cases e1; simp at e2
      exact wpAny_setField_rec zc (by simp) fun hd _ sd => hE hd e (fun c o n1 _ n3 _ q => sd.extBut _ _ n1 (sc _ _ n3 (sb.extBut _ _ n1 (sa.extBut _ _ n1 q)))) ⟨oe, sd.extBut _ _ ne e1, e2⟩
    | some x =>
      have hy : ys[k]? = none := hend.resolve_left (by rw [hx]; simp)
      refine nextOf_tuple_item w1 r1 hx fun hc j1 sc => wpAny_pure ?_
      have d2 : IsPair hc TO a0 b0 := sc.extBut _ _ D.TOi1 (sb.extBut _ _ D.TOz c2)
      refine wpAny_bind (wpAny_seqItems d2 rfl (wpAny_bind (wpAny_updateSeq_pair d2 fun hd d3 sd => ?_)))
      refine wpAny_bind (wpAny_letGo (wpAny_pure (wpAny_bind (wpAny_bind (wpAny_onRaise (wpAny_bind (m := Builtin.SmallTypes.nextOf (.ref i2)) ?_))))))
      refine nextOf_tuple_end h0 ((w2.extBut sc.extBut D.i12.symm).extBut sd.extBut D.TOi2.symm) ((r2.extBut sc.extBut D.l2i1).extBut sd.extBut D.l2TO) hy fun he e se he2 => ?_
      obtain ⟨oe, e1, e2⟩ := he2
      have ze : ZS he z TI TO .ellipsis g := se _ _ D.i2z.symm (sd.extBut _ _ D.TOz.symm (sc.extBut _ _ D.i1z.symm zb))
      have ne : e ≠ z := fun q => by subst q; rw [ze] at e1; cases e1; simp at e2
      exact wpAny_setField_rec ze (by simp) fun hf _ sf => hE hf e (fun c o n1 n2 n3 n4 q => sf.extBut _ _ n1 (se _ _ n4 (sd.extBut _ _ n2 (sc.extBut _ _ n3 (sb.extBut _ _ n1 (sa.extBut _ _ n1 q)))))) ⟨oe, sf.extBut _ _ ne e1, e2⟩
  | false =>
    rw [if_neg Bool.false_ne_true]
    refine wpAny_bind ?_
    rw [← Array.forIn_toList]
    simp only [List.forIn_cons, List.forIn_nil]
    refine wpAny_bind (wpAny_bind (wpAny_holding (wpAny_bind (m := Builtin.SmallTypes.nextOf (.ref i1)) ?_)))
    match hx : xs[k]? with
    | none => exact nextOf_tuple_end (s := { s with heap := ha }) h0 u1 p1 hx fun hb e sb he => hE hb e (fun c o n1 _ n3 _ q => sb _ _ n3 (sa.extBut _ _ n1 q)) he
    | some x =>
      have hy : ys[k]? = none := hend.resolve_left (by rw [hx]; simp)
      refine nextOf_tuple_item (s := { s with heap := ha }) u1 p1 hx fun hb j1 sb => wpAny_pure (wpAny_pure (wpAny_bind (wpAny_bind (wpAny_holding (wpAny_bind (m := Builtin.SmallTypes.nextOf (.ref i2)) ?_)))))
      exact nextOf_tuple_end (s := { s with heap := hb }) h0 (u2.extBut sb.extBut D.i12.symm) (p2.extBut sb.extBut D.l2i1) hy fun hc e sc he => hE hc e (fun c o n1 _ n3 n4 q => sc _ _ n4 (sb.extBut _ _ n3 (sa.extBut _ _ n1 q))) he
theorem zn_item {Q : Option Value → Shared → Prop} (D : ZipApart z TI TO i1 i2 l1 l2) (Z : ZA s.heap z TI TO i1 i2 l1 l2 k v f) (q1 : s.heap.IsTuple l1 xs) (q2 : s.heap.IsTuple l2 ys) (hx : xs[k]? = some x) (hy : ys[k]? = some y)
    (hQ : ∀ (h2 : Heap) (v2 : Value) (f2 : Bool), ZA h2 z TI TO i1 i2 l1 l2 (k + 1) v2 f2 → IsPair h2 s.heap.objs.size x y → (∀ c o, c ≠ z → c ≠ TO → c ≠ i1 → c ≠ i2 → s.heap.get? c = some o → h2.get? c = some o) → Q (some (.ref s.heap.objs.size)) { s with heap := h2 }) :
    wpAny (model P w) A (pyNext (.ref z)) Q E s := by
  have ty : s.TypeIs (.ref z) "zip" := ⟨_, Z.z, rfl⟩
  unfold pyNext
  exact wpAny_bind (wpAny_attempt (wpAny_callSpecial?_slot (name := Str.ofString "__next__") ty F.slot_zip_next (wpAny_call_entry F.slot_zip_next ty F.entry_zip_next (zq_item D Z q1 q2 hx hy fun h2 v2 f2 b1 b2 b3 => wpAny_pure (hQ h2 v2 f2 b1 b2 b3)) (F.args_zip_next_1 _))))
theorem zn_end {Q : Option Value → Shared → Prop} (h0 : A.handled = none) (D : ZipApart z TI TO i1 i2 l1 l2) (Z : ZA s.heap z TI TO i1 i2 l1 l2 k v f) (q1 : s.heap.IsTuple l1 xs) (q2 : s.heap.IsTuple l2 ys) (hend : xs[k]? = none ∨ ys[k]? = none)
    (hQ : ∀ h2 : Heap, (∀ c o, c ≠ z → c ≠ TO → c ≠ i1 → c ≠ i2 → s.heap.get? c = some o → h2.get? c = some o) → Q none { s with heap := h2 }) : wpAny (model P w) A (pyNext (.ref z)) Q E s := by
  have ty : s.TypeIs (.ref z) "zip" := ⟨_, Z.z, rfl⟩
  unfold pyNext
  refine wpAny_bind (wpAny_attempt (wpAny_callSpecial?_slot (name := Str.ofString "__next__") ty F.slot_zip_next (wpAny_call_entry F.slot_zip_next ty F.entry_zip_next (zq_end h0 D Z q1 q2 hend fun h2 e hk ⟨o, ho, hc⟩ => ?_) (F.args_zip_next_1 _))))
  exact wpAny_bind (wpAny_isInstance (T := "StopIteration") (b := true) ⟨o, ho, hc⟩ isSubtype_stop (wpAny_pure (hQ _ hk)))
end
theorem turn_zn {P : Program} {w : World} {K : PySem.W.Frag} {nm : Str} {np : Pos} {a b z TI TO i1 i2 : Addr} (D : ZipApart z TI TO i1 i2 a b) :
    Turn P w K (.Name nm np) (ItzT K a b) [z, TI, TO, i1, i2] z (fun i h => ∃ v f, ZA h z TI TO i1 i2 a b i v f) where
  mem := List.mem_cons_self
  obj := fun i h ⟨v, f, Z⟩ c hc => by
    obtain ⟨o1, e1, _, d1⟩ := Z.a1
    obtain ⟨o2, e2, _, d2⟩ := Z.a2
    obtain ⟨x, y, e3⟩ := Z.to
    have : c = z ∨ c = TI ∨ c = TO ∨ c = i1 ∨ c = i2 := by simpa using hc
    rcases this with q | q | q | q | q <;> subst q
    · exact ⟨_, Z.z, fun v q => nomatch q⟩
    · exact ⟨_, Z.ti, fun v q => nomatch q⟩
    · exact ⟨_, e3, fun v q => nomatch q⟩
    · exact ⟨o1, e1, fun v q => by rw [d1] at q; cases q⟩
    · exact ⟨o2, e2, fun v q => by rw [d2] at q; cases q⟩
  keep := fun i h h2 ⟨v, f, Z⟩ k => by
    obtain ⟨x, y, e3⟩ := Z.to
    exact ⟨v, f, k z (by simp) _ Z.z, Z.last, k TI (by simp) _ Z.ti, ⟨x, y, k TO (by simp) _ e3⟩, Z.a1.at fun o q => k i1 (by simp) o q, Z.a2.at fun o q => k i2 (by simp) o q⟩
  item := by
    intro X e1 e2 e3 hc i pins s σ H E I hf st hg
    subst e1 e2 e3
    obtain ⟨v, f, Z⟩ := st
    obtain ⟨xs, ys, x, y, hqx, hqy, hx, hy⟩ := hg
    obtain ⟨its, rv, p, _⟩ := I.tuple hqx
    obtain ⟨its2, rv2, p2, _⟩ := I.tuple hqy
    obtain ⟨u, hu, ru⟩ := rv.get hx
    obtain ⟨u2, hu2, ru2⟩ := rv2.get hy
    refine zn_item D Z p p2 (x := u) (y := u2) (by simpa using hu) (by simpa using hu2) fun h2 v2 f2 Z2 hT hk => ⟨_, rfl, wpAny_pure ?_⟩
    have new : ObjOk X.prog X.w (upd H s.heap.objs.size (.tup [x, y])) h2 s.heap.objs.size (.tup [x, y]) := ⟨by show 2 ≤ sizeLine; decide, [u, u2], .cons ru (.cons ru2 .nil), ⟨_, hT, rfl, _, rfl⟩⟩
    have I1 : Inv X pins σ (upd H s.heap.objs.size (.tup [x, y])) { s with heap := h2 } :=
      I.turnedNew (t' := s.toks) (ch := [z, TI, TO, i1, i2]) (fun c o hb q => hk c o (fun z => hb (by simp [z])) (fun z => hb (by simp [z])) (fun z => hb (by simp [z])) (fun z => hb (by simp [z])) q) hf (Nat.le_refl _) new
    refine ⟨.ref s.heap.objs.size, _, I1, rfl, ⟨_, x, y, rfl, I.hok.fresh (Nat.le_refl _), rfl, fun l hl => by rw [I.tuple_inj hl hqx]; exact hx, fun l hl => by rw [I.tuple_inj hl hqy]; exact hy⟩, ⟨v2, f2, Z2⟩, fun c hcm => ?_⟩
    have lt : c < s.heap.objs.size := by
      obtain ⟨a0, b0, e3⟩ := Z.to
      have h1 := Z.a1
      have h2 := Z.a2
      have : c = z ∨ c = TI ∨ c = TO ∨ c = i1 ∨ c = i2 := by simpa using hcm
      rcases this with q | q | q | q | q
      · rw [q]; exact Heap.lt_size Z.z
      · rw [q]; exact Heap.lt_size Z.ti
      · rw [q]; exact Heap.lt_size e3
      · rw [q]; obtain ⟨_, e, _⟩ := h1; exact Heap.lt_size e
      · rw [q]; obtain ⟨_, e, _⟩ := h2; exact Heap.lt_size e
    rw [upd_ne (Nat.ne_of_lt lt)]
    exact (hf c hcm).1
  done := by
    intro X e1 e2 e3 hc i pins s σ H E I hf st hg
    subst e1 e2 e3
    obtain ⟨v, f, Z⟩ := st
    obtain ⟨xs, ys, hqx, hqy, hend⟩ := hg
    obtain ⟨its, rv, p, _⟩ := I.tuple hqx
    obtain ⟨its2, rv2, p2, _⟩ := I.tuple hqy
    have l1 := rv.length
    have l2 := rv2.length
    refine zn_end (I.ok.hd hc) D Z p p2 (hend.imp (fun q => by simp; omega) (fun q => by simp; omega)) fun h2 hk => ⟨rfl, I.turnedL (t' := s.toks) (ch := [z, TI, TO, i1, i2]) (fun c o hb q => ?_) hf⟩
    exact hk c o (fun z => hb (by simp [z])) (fun z => hb (by simp [z])) (fun z => hb (by simp [z])) (fun z => hb (by simp [z])) q
  self := fun A i s Q E ⟨v, f, Z⟩ h => by
    have ty : s.TypeIs (.ref z) "zip" := ⟨_, Z.z, rfl⟩
    exact wpAny_pyIter_slot ty F.slot_zip_iter (wpAny_call_entry F.slot_zip_iter ty F.entry_zip_iter (show wpAny _ _ (ret (.ref z)) _ _ s from wpAny_pure ⟨_, rfl, "zip", _, ty, F.slot_zip_next.lookup, h⟩) (F.args_zip_iter_1 _))
section
variable {X : Cx} {E : EK} {pos p : Pos}
def iZipN (K : PySem.W.Frag) (ta : TA) : TI := fun σ H R => ta σ H fun vs H1 => ∃ a b xs ys, vs = [.ref a, .ref b] ∧ SqT K H1 a xs ∧ SqT K H1 b ys ∧ (xs.length ≤ sizeLine → R (ItzT K a b) H1)
theorem pi_zn {a b : Expr} {ta : TA} {nm : Str} {np : Pos} (hg : Gl X "zip") (hm : X.mg "zip" = none) (ha : PA X [a, b] ta) (hs : starEach [a, b] X.env = (false, eval a X.env) :: starEach [b] X.env := by rfl) (hpl : (backTo pos (starEach [b] X.env)).any (·.1) = false := by rfl) :
    PI X (.Name nm np) (.Call (.Name "zip" p) [a, b] [] pos) (iZipN X.K ta) := by
  refine ⟨fun pins s σ H R I h => Call_ (ld_blt I hg hm PyProof.Rows.boot_zip (PyProof.Rows.callWith_type1 (thn (ha.run pos pins s σ H _ I h) fun us s1 ⟨vs, H1, I1, r1, q1⟩ => ?_) hs hpl))⟩
  obtain ⟨c, d, xs, ys, ex, hqx, hqy, q⟩ := q1
  subst ex
  obtain ⟨u1, u2, rfl, r1, r2⟩ := r1.two
  cases r1
  cases r2
  obtain ⟨its, rv, p1, sz⟩ := I1.tuple hqx
  obtain ⟨its2, rv2, p2, _⟩ := I1.tuple hqy
  obtain ⟨o1, ho1, _⟩ := id p1
  obtain ⟨o2, ho2, _⟩ := id p2
  refine RZ.call_zipT p1 p2 fun h2 hz hTI hTO h1' h2' hsz hk => wpAny_pyIter_zip hz ?_
  refine ⟨s1.heap.objs.size + 4, [s1.heap.objs.size + 4, s1.heap.objs.size + 2, s1.heap.objs.size + 3, s1.heap.objs.size, s1.heap.objs.size + 1], _, _, H1, rfl, I1.kept (t' := s1.toks) hk,
    turn_zn (PySem.W.ktu_apart _ _ _ (Heap.lt_size ho1) (Heap.lt_size ho2)), ⟨.none, false, hz, .inl rfl, hTI, ⟨_, _, hTO⟩, h1', h2'⟩, fun k hkm => ?_, q sz⟩
  have : k = s1.heap.objs.size + 4 ∨ k = s1.heap.objs.size + 2 ∨ k = s1.heap.objs.size + 3 ∨ k = s1.heap.objs.size ∨ k = s1.heap.objs.size + 1 := by simpa using hkm
  have hle : s1.heap.objs.size ≤ k := by
    rcases this with z | z | z | z | z
    · rw [z]; exact Nat.le_add_right _ 4
    · rw [z]; exact Nat.le_add_right _ 2
    · rw [z]; exact Nat.le_add_right _ 3
    · rw [z]; exact Nat.le_refl _
    · rw [z]; exact Nat.le_add_right _ 1
  exact I1.fpOk hle (I1.hok.fresh hle)
def zipD (xs ys : List PyData) : List PyData := (List.zip xs ys).map fun p => .tuple [p.1, p.2]
def zipW : List W → Option (List PyData)
  | [.d (.tuple xs), .d (.tuple ys)] => some (zipD xs ys)
  | _ => none
def zipWL : List W → Option (List PyData)
  | [.d (.list xs), .d (.list ys)] => some (zipD xs ys)
  | [.d (.tuple xs), .d (.tuple ys)] => some (zipD xs ys)
  | _ => none
def dZip (as : DA) : DI := fun σ S => bnd (as σ S) fun ws S1 => giv ((zipW ws).map fun xs => (xs, none)) S1
def dZipL (as : DA) : DI := fun σ S => bnd (as σ S) fun ws S1 => giv ((zipWL ws).map fun xs => (xs, none)) S1
theorem zipD_get {xs ys : List PyData} {i : Nat} {d : PyData} (h : (zipD xs ys)[i]? = some d) : ∃ x y, xs[i]? = some x ∧ ys[i]? = some y ∧ d = .tuple [x, y] := by
  unfold zipD at h
  rw [List.getElem?_map] at h
  obtain ⟨⟨x, y⟩, h1, h2⟩ := Option.map_eq_some_iff.mp h
  obtain ⟨h3, h4⟩ := List.getElem?_zip_eq_some.mp h1
  exact ⟨x, y, h3, h4, h2.symm⟩
theorem zipD_len (xs ys : List PyData) : (zipD xs ys).length = min xs.length ys.length := by simp [zipD]
theorem pair_new {K : PySem.W.Frag} {H : Hp} {φ : Fi} {S : So} {T : Addr} {x y : PyData} {u v : V} (hs : SR K H φ S) (hT : H T = none) (hx : RD K H φ x u) (hy : RD K H φ y v) :
    Ext φ H φ (upd H T (.tup [u, v])) ∧ SR K (upd H T (.tup [u, v])) φ S ∧ RD K (upd H T (.tup [u, v])) φ (.tuple [x, y]) (.ref T) := by
  have e := Ext.new (o := .tup [u, v]) hT hs
  exact ⟨e, hs.new hT, T, [u, v], rfl, upd_same, u, [v], rfl, RD.mono e x u hx, v, [], rfl, RD.mono e y v hy, rfl⟩
theorem itzT_it {K : PySem.W.Frag} {a b : Addr} {us vs : List V} {xs ys : List PyData} {φ : Fi} {H : Hp} (h1 : TP K H a us) (h2 : TP K H b vs) (d1 : RDs K H φ xs us) (d2 : RDs K H φ ys vs) : ItD K (ItzT K a b) (zipD xs ys) none φ H where
  go := fun φ2 H2 S i d e s _ hi => by
    obtain ⟨x, y, g1, g2, rfl⟩ := zipD_get hi
    have f1 := (TP.mono e h1).sq
    have f2 := (TP.mono e h2).sq
    obtain ⟨u, q1, r1⟩ := (RDs.mono e _ _ d1).get g1
    obtain ⟨v, q2, r2⟩ := (RDs.mono e _ _ d2).get g2
    refine ⟨⟨us, vs, u, v, f1, f2, q1, q2⟩, fun w H' hy => ?_⟩
    obtain ⟨T, u', v', rfl, hT, rfl, k1, k2⟩ := hy
    have e1 : u' = u := Option.some.inj ((k1 _ f1).symm.trans q1)
    have e2 : v' = v := Option.some.inj ((k2 _ f2).symm.trans q2)
    subst e1; subst e2
    exact pair_new s hT r1 r2
  stop := fun φ2 H2 S e s _ => ⟨us, vs, (TP.mono e h1).sq, (TP.mono e h2).sq, by rw [d1.length, d2.length, zipD_len]; omega⟩
theorem itzL_it {K : PySem.W.Frag} {a b : Addr} {us vs : List V} {xs ys : List PyData} {φ : Fi} {H : Hp} (h1 : FL H φ a us) (h2 : FL H φ b vs) (d1 : RDs K H φ xs us) (d2 : RDs K H φ ys vs) : ItD K (Itz K a b) (zipD xs ys) none φ H where
  go := fun φ2 H2 S i d e s _ hi => by
    obtain ⟨x, y, g1, g2, rfl⟩ := zipD_get hi
    have f1 := FL.sq (K := K) (h1.mono e)
    have f2 := FL.sq (K := K) (h2.mono e)
    obtain ⟨u, q1, r1⟩ := (RDs.mono e _ _ d1).get g1
    obtain ⟨v, q2, r2⟩ := (RDs.mono e _ _ d2).get g2
    refine ⟨⟨us, vs, u, v, f1, f2, q1, q2⟩, fun w H' hy => ?_⟩
    obtain ⟨T, u', v', rfl, hT, rfl, k1, k2⟩ := hy
    have e1 : u' = u := Option.some.inj ((k1 _ f1).symm.trans q1)
    have e2 : v' = v := Option.some.inj ((k2 _ f2).symm.trans q2)
    subst e1; subst e2
    exact pair_new s hT r1 r2
  stop := fun φ2 H2 S e s _ => ⟨us, vs, (h1.mono e).sq, (h2.mono e).sq, by rw [d1.length, d2.length, zipD_len]; omega⟩
theorem i_zipN {a b : Expr} {das : DA} {nm : Str} {np : Pos} (hm : X.mg "zip" = none) (ha : SA X E [a, b] das) (hg : Gl X "zip" := by rfl) (hs : starEach [a, b] X.env = (false, eval a X.env) :: starEach [b] X.env := by rfl) (hpl : (backTo pos (starEach [b] X.env)).any (·.1) = false := by rfl) :
    SI X E (.Name nm np) (.Call (.Name "zip" p) [a, b] [] pos) (dZip das) := by
  refine PIw (pi_zn hg hm ha hs hpl) fun σV H R q => ?_
  obtain ⟨φ, σ, S, r', hs, hen, hd, hq⟩ := q
  unfold dZip at hd
  match ha : das σ S, hd with
  | none, hd => cases hd
  | some (.xc x S1), hd => cases hd; exact ⟨φ, σ, S, .xc x S1, hs, hen, ha, hq⟩
  | some (.ok ws S1), hd =>
    refine ⟨φ, σ, S, .ok ws S1, hs, hen, ha, fun φ1 H1 vs e1 s1 x1 => ?_⟩
    rw [bnd_ok] at hd
    match hg : zipW ws, hd with
    | none, hd => cases hd
    | some zs, hd =>
      cases hd
      unfold zipW at hg
      split at hg
      · cases hg
        obtain ⟨v, w, rfl, ⟨l1, u1, rfl, t1, r1⟩, ⟨l2, u2, rfl, t2, r2⟩⟩ := two_of x1
        refine ⟨l1, l2, u1, u2, rfl, t1.sq, t2.sq, fun hz => hq φ1 H1 _ e1 s1 (itzT_it t1 t2 r1 r2) ?_⟩
        rw [zipD_len, ← r1.length]
        exact Nat.le_trans (Nat.min_le_left _ _) hz
      · cases hg
def iZipB (K : PySem.W.Frag) (ta : TA) : TI := fun σ H R => ta σ H fun vs H1 => ∃ a b xs ys, vs = [.ref a, .ref b] ∧ ((SqL K H1 a xs ∧ SqL K H1 b ys ∧ (xs.length ≤ sizeLine → R (Itz K a b) H1)) ∨ (SqT K H1 a xs ∧ SqT K H1 b ys ∧ (xs.length ≤ sizeLine → R (ItzT K a b) H1)))
theorem pi_zt {a b : Expr} {ta : TA} {elts : List Expr} {kk : Nat} {tp : Pos} (hg : Gl X "zip") (hm : X.mg "zip" = none) (ha : PA X [a, b] ta) (hs : starEach [a, b] X.env = (false, eval a X.env) :: starEach [b] X.env := by rfl) (hpl : (backTo pos (starEach [b] X.env)).any (·.1) = false := by rfl) :
    PI X (.Tuple elts kk tp) (.Call (.Name "zip" p) [a, b] [] pos) (iZipB X.K ta) := by
  refine ⟨fun pins s σ H R I h => Call_ (ld_blt I hg hm PyProof.Rows.boot_zip (PyProof.Rows.callWith_type1 (thn (ha.run pos pins s σ H _ I h) fun us s1 ⟨vs, H1, I1, r1, q1⟩ => ?_) hs hpl))⟩
  obtain ⟨c, d, xs, ys, ex, q⟩ := q1
  subst ex
  obtain ⟨u1, u2, rfl, r1, r2⟩ := r1.two
  cases r1
  cases r2
  have fresh : ∀ k, k ∈ [s1.heap.objs.size + 4, s1.heap.objs.size + 2, s1.heap.objs.size + 3, s1.heap.objs.size, s1.heap.objs.size + 1] → FpOk X pins H1 k := fun k hkm => by
    have : k = s1.heap.objs.size + 4 ∨ k = s1.heap.objs.size + 2 ∨ k = s1.heap.objs.size + 3 ∨ k = s1.heap.objs.size ∨ k = s1.heap.objs.size + 1 := by simpa using hkm
    have hle : s1.heap.objs.size ≤ k := by
      rcases this with z | z | z | z | z
      · rw [z]; exact Nat.le_add_right _ 4
      · rw [z]; exact Nat.le_add_right _ 2
      · rw [z]; exact Nat.le_add_right _ 3
      · rw [z]; exact Nat.le_refl _
      · rw [z]; exact Nat.le_add_right _ 1
    exact I1.fpOk hle (I1.hok.fresh hle)
  rcases q with ⟨hqx, hqy, q⟩ | ⟨hqx, hqy, q⟩
  · obtain ⟨its, rv, p1, sz⟩ := I1.list hqx
    obtain ⟨its2, rv2, p2, _⟩ := I1.list hqy
    refine call_zip_2 p1.isList p2.isList fun h2 hz hTI hTO h1' h2' hsz hk => wpAny_pyIter_zip hz ?_
    exact ⟨s1.heap.objs.size + 4, [s1.heap.objs.size + 4, s1.heap.objs.size + 2, s1.heap.objs.size + 3, s1.heap.objs.size, s1.heap.objs.size + 1], _, _, H1, rfl, I1.kept (t' := s1.toks) hk,
      turn_zip (PySem.W.ktu_apart _ _ _ p1.lt p2.lt), ⟨hz, hTI, ⟨_, _, hTO⟩, h1', h2'⟩, fresh, q sz⟩
  · obtain ⟨its, rv, p1, sz⟩ := I1.tuple hqx
    obtain ⟨its2, rv2, p2, _⟩ := I1.tuple hqy
    obtain ⟨o1, ho1, _⟩ := id p1
    obtain ⟨o2, ho2, _⟩ := id p2
    refine RZ.call_zipT p1 p2 fun h2 hz hTI hTO h1' h2' hsz hk => wpAny_pyIter_zip hz ?_
    exact ⟨s1.heap.objs.size + 4, [s1.heap.objs.size + 4, s1.heap.objs.size + 2, s1.heap.objs.size + 3, s1.heap.objs.size, s1.heap.objs.size + 1], _, _, H1, rfl, I1.kept (t' := s1.toks) hk,
      RZ.turn_zipT (PySem.W.ktu_apart _ _ _ (Heap.lt_size ho1) (Heap.lt_size ho2)), ⟨hz, hTI, ⟨_, _, hTO⟩, h1', h2'⟩, fresh, q sz⟩
theorem i_zipT {a b : Expr} {das : DA} {elts : List Expr} {kk : Nat} {tp : Pos} (hm : X.mg "zip" = none) (ha : SA X E [a, b] das) (hg : Gl X "zip" := by rfl) (hs : starEach [a, b] X.env = (false, eval a X.env) :: starEach [b] X.env := by rfl) (hpl : (backTo pos (starEach [b] X.env)).any (·.1) = false := by rfl) :
    SI X E (.Tuple elts kk tp) (.Call (.Name "zip" p) [a, b] [] pos) (dZipL das) := by
  refine PIw (pi_zt hg hm ha hs hpl) fun σV H R q => ?_
  obtain ⟨φ, σ, S, r', hs, hen, hd, hq⟩ := q
  unfold dZipL at hd
  match ha : das σ S, hd with
  | none, hd => cases hd
  | some (.xc x S1), hd => cases hd; exact ⟨φ, σ, S, .xc x S1, hs, hen, ha, hq⟩
  | some (.ok ws S1), hd =>
    refine ⟨φ, σ, S, .ok ws S1, hs, hen, ha, fun φ1 H1 vs e1 s1 x1 => ?_⟩
    rw [bnd_ok] at hd
    match hg : zipWL ws, hd with
    | none, hd => cases hd
    | some zs, hd =>
      cases hd
      unfold zipWL at hg
      split at hg
      · cases hg
        obtain ⟨v, w, rfl, ⟨l1, u1, rfl, t1, r1⟩, ⟨l2, u2, rfl, t2, r2⟩⟩ := two_of x1
        refine ⟨l1, l2, u1, u2, rfl, .inl ⟨t1.sq, t2.sq, fun hz => hq φ1 H1 _ e1 s1 (itzL_it t1 t2 r1 r2) ?_⟩⟩
        rw [zipD_len, ← r1.length]
        exact Nat.le_trans (Nat.min_le_left _ _) hz
      · cases hg
        obtain ⟨v, w, rfl, ⟨l1, u1, rfl, t1, r1⟩, ⟨l2, u2, rfl, t2, r2⟩⟩ := two_of x1
        refine ⟨l1, l2, u1, u2, rfl, .inr ⟨t1.sq, t2.sq, fun hz => hq φ1 H1 _ e1 s1 (itzT_it t1 t2 r1 r2) ?_⟩⟩
        rw [zipD_len, ← r1.length]
        exact Nat.le_trans (Nat.min_le_left _ _) hz
      · cases hg
end
end CL
end

section
/-! part CLSet -/
set_option Elab.async false
set_option linter.all false
set_option maxRecDepth 100000
set_option maxHeartbeats 4000000
/-! CLSet: set(xs) of texts, as far as len goes. -/
namespace CL
open PySem PySem.Spec PyProof.Rows L2
/-- the texts of a list, each once, in order -/
def onceS (acc : List Str) (x : Str) : List Str := if acc.any (· == x) = true then acc else acc ++ [x]
def once (xs : List Str) : List Str := xs.foldl onceS []
theorem onceS_any (acc : List Str) (x k : Str) : (onceS acc x).any (· == k) = (acc.any (· == k) || decide (k = x)) := by
  unfold onceS
  by_cases h : acc.any (· == x) = true
  · rw [if_pos h]
    by_cases e : k = x
    · subst e; rw [h]; rfl
    · rw [decide_eq_false e, Bool.or_false]
  · rw [if_neg h, List.any_append]
    by_cases e : k = x
    · subst e; simp
    · rw [decide_eq_false e]
      have : (x == k) = false := beq_eq_false_iff_ne.mpr (Ne.symm e)
      simp [this]
theorem onceS_len (acc : List Str) (x : Str) : (onceS acc x).length = if acc.any (· == x) = true then acc.length else acc.length + 1 := by
  unfold onceS; split <;> simp
theorem once_le (xs : List Str) : ∀ acc : List Str, (xs.foldl onceS acc).length ≤ acc.length + xs.length := by
  induction xs with
  | nil => intro acc; simp
  | cons x xs ih =>
    intro acc
    have h1 := ih (onceS acc x)
    have h2 := onceS_len acc x
    rw [List.foldl_cons, List.length_cons]
    split at h2 <;> omega
theorem once_take (xs : List Str) {i : Nat} {x : Str} (h : xs[i]? = some x) : once (xs.take (i + 1)) = onceS (once (xs.take i)) x := by
  unfold once
  rw [List.take_add_one, h, List.foldl_append]
  rfl
theorem textsAt : ∀ {vs : List Value} {xs : List Str}, StrsAre vs xs → ∀ {i : Nat} {v : Value}, vs[i]? = some v → ∃ x t, xs[i]? = some x ∧ v = .str x t
  | _, _, .nil, _, _, h => by simp at h
  | _, _, .cons n t _, 0, _, h => ⟨n, t, rfl, (Option.some.inj h).symm⟩
  | _, _, .cons _ _ r, _ + 1, _, h => textsAt r (by simpa using h)
section
variable {P : Program} {w : World} {A : Around} {E : Value → Shared → Prop} {s : Shared}
abbrev TxtSet (P : Program) (w : World) (h : Heap) (a : Addr) (xs : List Str) : Prop := h.SetOf (PySem.strKind P w) a (fun k => (once xs).any (· == k)) (once xs).length
theorem TxtSet.at_ {h h' : Heap} {a : Addr} {xs : List Str} (q : TxtSet P w h a xs) (k : ∀ o, h.get? a = some o → h'.get? a = some o) : TxtSet P w h' a xs := by
  obtain ⟨o, es, ep, t, ho, r⟩ := q
  exact ⟨o, es, ep, t, k o ho, r⟩
theorem txt_loop {R : Result → Shared → Prop} {I : Addr} {fp wr : List Addr} {G : Array GenState → Array GenState → Prop} {n : Nat} {Pv : Nat → Value → Prop} {St : Nat → Shared → Prop} (W : WalksS P w A.in1 I fp wr G n Pv St) (Z : Addr) (hZ : Z ∉ fp)
    (xs : List Str) (hn : n = xs.length) (hv : ∀ i v, Pv i v → ∃ x t, xs[i]? = some x ∧ v = .str x t) (hb : n + 1 < scanBound) (m : Nat) :
    ∀ (i : Nat) (s : Shared), i + m = n → St i s → TxtSet P w s.heap Z (xs.take i) → (∀ s', Moved (Z :: wr) G s s' → TxtSet P w s'.heap Z xs → R (.ok (.ret .none)) s') →
      codeAny (model P w) A (.builtin "set.update.loop" ⟨[.ref Z, .ref I], []⟩) R s := by
  have hZw : Z ∉ wr := fun h => hZ (W.sub _ h)
  have up : ∀ b ∈ wr, b ∈ Z :: wr := fun b h => List.mem_cons_of_mem _ h
  induction m with
  | zero =>
    intro i s hi st hS hR
    have ei : i = n := by omega
    subst ei
    refine codeAny_builtin PyProof.Rows.F.entry_set_update_loop ?_
    rw [Around.under_plainId PyProof.Rows.F.plain_set_update_loop _]
    refine wpAny_bind (m := pyNext (.ref I)) (W.done s _ _ st fun s' mv => wpAny_pure (hR s' (mv.mono up) ?_))
    have q := hS.at_ fun o ho => mv.heap Z o hZw ho
    rw [hn, List.take_length] at q
    exact q
  | succ m ih =>
    intro i s hi st hS hR
    refine codeAny_builtin PyProof.Rows.F.entry_set_update_loop ?_
    rw [Around.under_plainId PyProof.Rows.F.plain_set_update_loop _]
    refine wpAny_bind (m := pyNext (.ref I)) (W.item i s _ _ (by omega) st fun v s' pv st' mv => ?_)
    obtain ⟨x, t, hx, rfl⟩ := hv i v pv
    have hS1 := hS.at_ fun o ho => mv.heap Z o hZw ho
    have room : (once (xs.take i)).length + 1 < scanBound := by
      have := once_le (xs.take i) []
      have l2 : (xs.take i).length ≤ i := by rw [List.length_take]; exact Nat.min_le_left _ _
      have l3 : (once (xs.take i)).length ≤ i := by unfold once; simp only [List.length_nil] at this; omega
      omega
    refine wpAny_bind (m := holding [Value.str x t] (setAdd Z (.str x t))) (wpAny_holding ?_)
    unfold setAdd
    refine wpAny_holding (wpAny_bind ((PySem.strKind P w).pyHash (k := x) (strKind_is _ _ _ _) ?_))
    refine wpAny_setAddHashed_of (knd := PySem.strKind P w) (s := { s' with toks := s'.toks + 1 }) (strKind_is _ _ _ _) rfl hS1 room fun h' sb hS2 => ?_
    have hS3 : TxtSet P w h' Z (xs.take (i + 1)) := by
      rw [TxtSet, once_take xs hx]
      exact SetOf_congr hS2 (fun k => (onceS_any _ x k).symm) (onceS_len _ x).symm
    refine wpAny_pure ⟨plainId_quiet PyProof.Rows.F.plain_set_update_loop _, ih (i + 1) _ (by omega) (W.frame _ s' _ _ st' (Nat.le_succ _) fun b hb' o eo => ?_) hS3 fun s2 mv2 q => hR s2 (Moved.trans W.gtrans ((mv.mono up).then_heap (Nat.le_succ _) fun b o hb' eo => ?_) mv2) q⟩
    · rw [sb.2 b fun e : b = Z => hZ (e ▸ hb')]; exact eo
    · rw [sb.2 b fun e : b = Z => hb' (e ▸ List.mem_cons_self)]; exact eo
/-- set(l) of a list of texts -/
theorem set_texts {l : Addr} {its : Array Value} {xs : List Str} {Q : Value → Shared → Prop} (h0 : A.handled = none) (hl : s.heap.IsList l its) (hi : StrsAre its.toList xs) (hb : xs.length + 1 < scanBound)
    (hQ : ∀ (h2 : Heap) (tk : Nat), TxtSet P w h2 s.heap.objs.size xs → (∀ b o, b < s.heap.objs.size → s.heap.get? b = some o → h2.get? b = some o) → Q (.ref s.heap.objs.size) { s with heap := h2, toks := tk }) :
    wpAny (model P w) A (call (.type "set") [.ref l]) Q E s := by
  obtain ⟨m0, m1, m2⟩ := F.called_set.mro
  have y1 := F.called_set.made; have y2 := F.called_set.sub; have y3 := F.called_set.notType; have y4 := F.called_set.canCreate; have y5 := F.typeCall_set_1 (.ref l)
  refine wpAny_call (codeAny_of_tree (show wpAny _ _ (callAny (.type "set") _) _ _ _ from wpAny_pure ⟨Code.quiet_builtin _ (by decide +kernel), codeAny_builtin F.entry_type_call ?_⟩))
  rw [Around.under_plain (weight_type_call_type "set" [Value.ref l] ([] : List (Str × Value))) rfl]
  repeat (any_goals (first | wp_step | assumption))
  let H0 : Bool → Heap := fun led => s.heap.push { cls := .type "set", dict := none, data := .set #[] 0 (.fresh 0 0 led) }
  refine codeAny_mono (code_set_new_1 (Value.ref l) (E := E) (Q₁ := fun u s1 => ∃ led : Bool, u = .ref s.heap.objs.size ∧ s1 = { s with heap := H0 led }) fun led => ⟨led, rfl, rfl⟩) fun r s1 hr => ?_
  match r, hr with
  | .error e, hr => exact hr
  | .ok .next, hr => exact hr.elim
  | .ok .brk, hr => exact hr.elim
  | .ok .cont, hr => exact hr.elim
  | .ok (.ret u), hr =>
    obtain ⟨led, e1, e2⟩ := hr
    subst e1; subst e2
    have g0 : (H0 led).get? s.heap.objs.size = some { cls := .type "set", dict := none, data := .set #[] 0 (.fresh 0 0 led) } := Heap.get?_push_size _ rfl
    have t0 : Shared.TypeIs { s with heap := H0 led } (.ref s.heap.objs.size) "set" := ⟨_, g0, rfl⟩
    have i1 := F.called_set.init.lookup; have i2 := F.called_set.init.bind (Value.ref s.heap.objs.size)
    repeat (any_goals (first | wp_step | assumption))
    refine codeAny_mono (codeAny_call_builtin (R := wants (fun r s2 => r = .none ∧ ∃ h2 tk, s2 = { s with heap := h2, toks := tk } ∧ TxtSet P w h2 s.heap.objs.size xs ∧ ∀ b o, b < s.heap.objs.size → s.heap.get? b = some o → h2.get? b = some o) E)
      F.called_set.init.plain F.entry_set_init (check_set_init_1 t0 ?_)) fun r2 s2 hr2 => ?_
    · obtain ⟨⟨oc, od, oda, osl⟩, ho, hc, nl, hd⟩ := id hl
      dsimp only at hc hd
      subst hc hd
      have g1 : (H0 led).get? l = some { cls := .type "list", dict := od, data := .seq its nl, slots := osl } := Heap.get?_push_of_some _ ho
      have z1 := F.sub_list_set; have z2 := F.sub_list_frozenset
      have z3 : (Value.type "list" == Value.type "dict") = false := by decide
      have l1 : (H0 led).IsList l its := ⟨_, g1, rfl, nl, rfl⟩
      have lS : l < s.heap.objs.size := Heap.lt_size ho
      have sz : (H0 led).objs.size = s.heap.objs.size + 1 := Heap.size_push _ _
      unfold Builtin.«set.__init__» noKeywords Builtin.Frozenset.updateFrom
      generalize hPy : pyIter = Py
      wp_walk
      subst hPy
      refine wpAny_pyIter_list l1 (wpAny_bind (wpAny_runValue ?_))
      have len : xs.length = its.size := by rw [← StrsAre.len_eq hi, Array.length_toList]
      have nI : l ≠ (H0 led).objs.size := by rw [sz]; exact Nat.ne_of_lt (Nat.lt_succ_of_lt lS)
      have nS : s.heap.objs.size ∉ [(H0 led).objs.size, l] := by
        rw [sz]
        intro hm
        rcases List.mem_cons.mp hm with e | hm
        · exact Nat.ne_of_lt (Nat.lt_succ_self _) e
        · exact Nat.ne_of_gt lS (List.mem_singleton.mp hm)
      refine txt_loop ((Walks.list (by simp [h0]) _ l nI its).toS) s.heap.objs.size nS xs len.symm (fun i v hv => textsAt hi (by rw [Array.getElem?_toList]; exact hv)) (by rw [← len]; exact hb) its.size 0 _ (by omega)
        ⟨⟨_, Heap.get?_push_size _ rfl, rfl, rfl⟩, l1.push _⟩ ?_ fun s' mv q => ?_
      · exact SetOf_congr ((setObjOf_fresh (knd := PySem.strKind P w) led).setOf (Heap.get?_push_of_some _ g0) (by unfold scanBound; omega)) (fun _ => rfl) rfl
      · obtain ⟨h2, gg, dd, tk, os⟩ := s'
        have e1 : gg = s.gens := mv.gens
        have e2 : dd = s.drawn := mv.drawn
        have e3 : os = s.os := mv.os
        subst e1; subst e2; subst e3
        refine wpAny_pure (wpAny_pure ⟨rfl, h2, tk, rfl, q, fun b o hb' e => mv.heap b o (fun hm => ?_) (Heap.get?_push_of_some _ (Heap.get?_push_of_some _ e))⟩)
        rcases List.mem_cons.mp hm with e4 | hm
        · exact Nat.ne_of_lt hb' e4
        · have e5 := List.mem_singleton.mp hm
          rw [sz] at e5
          exact Nat.ne_of_lt (Nat.lt_succ_of_lt hb') e5
    · match r2, hr2 with
      | .error e, hr2 => exact hr2
      | .ok .next, hr2 => exact hr2.elim
      | .ok .brk, hr2 => exact hr2.elim
      | .ok .cont, hr2 => exact hr2.elim
      | .ok (.ret v), hr2 =>
        obtain ⟨rfl, h2, tk, rfl, q, k⟩ := hr2
        repeat (any_goals (first | wp_step | assumption))
        exact hQ _ _ q k
end
end CL
end

section
/-! part CLDict -/
set_option Elab.async false
set_option linter.all false
set_option maxRecDepth 100000
set_option maxHeartbeats 1000000
/-! CLDict: dicts with keys of ints and texts, and with tuples of such. -/
namespace CL
open PySem PySem.Spec PyProof.Rows L2

section
variable {κ : Type} [DecidableEq κ]
def valD (kvs : List (κ × PyData)) (k : κ) : Option PyData := (kvs.find? fun kv => decide (kv.1 = k)).map (·.2)
def putD (kvs : List (κ × PyData)) (k : κ) (v : PyData) : List (κ × PyData) :=
  if (kvs.any fun kv => decide (kv.1 = k)) = true then kvs.map (fun kv => if kv.1 = k then (kv.1, v) else kv) else kvs ++ [(k, v)]
/-- the entries stand for the data -/
def KR (K : PySem.W.Frag) (H : Hp) (φ : Fi) : List (κ × PyData) → List (κ × V) → Prop
  | [], es => es = []
  | p :: r, es => ∃ v t, es = (p.1, v) :: t ∧ RD K H φ p.2 v ∧ KR K H φ r t
variable {K : PySem.W.Frag} {H : Hp} {φ : Fi}
theorem KR.of : ∀ {kvs : List (κ × PyData)} {es : List (κ × V)}, es.map (·.1) = kvs.map (·.1) → RDs K H φ (kvs.map (·.2)) (es.map (·.2)) → KR K H φ kvs es
  | [], [], _, _ => rfl
  | [], _ :: _, h, _ => by simp at h
  | _ :: _, [], h, _ => by simp at h
  | (k, x) :: kvs, (j, v) :: es, h, ⟨u, t, e, h1, h2⟩ => by
    simp at h e
    obtain ⟨e1, e2⟩ := h
    obtain ⟨e3, e4⟩ := e
    subst e1; subst e3; subst e4
    exact ⟨v, es, rfl, h1, KR.of (by simpa using e2) h2⟩
theorem KR.to : ∀ {kvs : List (κ × PyData)} {es : List (κ × V)}, KR K H φ kvs es → es.map (·.1) = kvs.map (·.1) ∧ RDs K H φ (kvs.map (·.2)) (es.map (·.2))
  | [], _, h => by cases h; exact ⟨rfl, rfl⟩
  | p :: kvs, _, ⟨v, t, e, h1, h2⟩ => by
    subst e
    obtain ⟨q1, q2⟩ := KR.to h2
    exact ⟨by simp [q1], v, t.map (·.2), by simp, h1, q2⟩
theorem KR.length : ∀ {kvs : List (κ × PyData)} {es : List (κ × V)}, KR K H φ kvs es → es.length = kvs.length
  | [], _, h => by cases h; rfl
  | p :: kvs, _, ⟨v, t, e, h1, h2⟩ => by subst e; simp [KR.length h2]
theorem KR.val {k : κ} : ∀ {kvs : List (κ × PyData)} {es : List (κ × V)} {x : PyData}, KR K H φ kvs es → valD kvs k = some x → ∃ v, valV es k = some v ∧ RD K H φ x v
  | [], _, _, _, e => by simp [valD] at e
  | p :: kvs, _, x, ⟨v, t, e, h1, h2⟩, e2 => by
    subst e
    unfold valD at e2
    by_cases q : p.1 = k
    · simp [List.find?_cons, q] at e2
      subst e2
      exact ⟨v, valV_pos (p := (p.1, v)) q, h1⟩
    · simp only [List.find?_cons, decide_eq_false q] at e2
      obtain ⟨u, q1, q2⟩ := KR.val h2 e2
      exact ⟨u, by rw [valV_neg (p := (p.1, v)) q]; exact q1, q2⟩
theorem KR.none {k : κ} : ∀ {kvs : List (κ × PyData)} {es : List (κ × V)}, KR K H φ kvs es → valD kvs k = Option.none → valV es k = Option.none
  | [], _, h, _ => by cases h; rfl
  | p :: kvs, _, ⟨v, t, e, h1, h2⟩, e2 => by
    subst e
    unfold valD at e2
    by_cases q : p.1 = k
    · simp [List.find?_cons, q] at e2
    · simp only [List.find?_cons, decide_eq_false q] at e2
      rw [valV_neg (p := (p.1, v)) q]
      exact KR.none h2 e2
theorem KR.any {k : κ} : ∀ {kvs : List (κ × PyData)} {es : List (κ × V)}, KR K H φ kvs es → (es.any fun kv => decide (kv.1 = k)) = kvs.any fun kv => decide (kv.1 = k)
  | [], _, h => by cases h; rfl
  | p :: kvs, _, ⟨v, t, e, h1, h2⟩ => by subst e; simp only [List.any_cons]; rw [KR.any h2]
theorem KR.repl {k : κ} {x : PyData} {u : V} (hx : RD K H φ x u) : ∀ {kvs : List (κ × PyData)} {es : List (κ × V)}, KR K H φ kvs es → KR K H φ (kvs.map fun kv => if kv.1 = k then (kv.1, x) else kv) (es.map fun kv => if kv.1 = k then (kv.1, u) else kv)
  | [], _, h => by cases h; rfl
  | p :: kvs, _, ⟨v, t, e, h1, h2⟩ => by
    subst e
    simp only [List.map_cons]
    by_cases q : p.1 = k
    · rw [if_pos q, if_pos q]; exact ⟨u, _, rfl, hx, KR.repl hx h2⟩
    · rw [if_neg q, if_neg q]; exact ⟨v, _, rfl, h1, KR.repl hx h2⟩
theorem KR.snoc {k : κ} {x : PyData} {u : V} (hx : RD K H φ x u) : ∀ {kvs : List (κ × PyData)} {es : List (κ × V)}, KR K H φ kvs es → KR K H φ (kvs ++ [(k, x)]) (es ++ [(k, u)])
  | [], _, h => by cases h; exact ⟨u, [], rfl, hx, rfl⟩
  | p :: kvs, _, ⟨v, t, e, h1, h2⟩ => by subst e; exact ⟨v, _, rfl, h1, KR.snoc hx h2⟩
theorem KR.put {k : κ} {x : PyData} {u : V} {kvs : List (κ × PyData)} {es : List (κ × V)} (h : KR K H φ kvs es) (hx : RD K H φ x u) : KR K H φ (putD kvs k x) (putK es k u) := by
  unfold putD putK
  rw [h.any]
  split
  · exact h.repl hx
  · exact h.snoc hx
theorem KR.mono {H' : Hp} {φ' : Fi} (e : Ext φ H φ' H') : ∀ {kvs : List (κ × PyData)} {es : List (κ × V)}, KR K H φ kvs es → KR K H' φ' kvs es
  | [], _, h => h
  | p :: kvs, _, ⟨v, t, e1, h1, h2⟩ => ⟨v, t, e1, RD.mono e _ _ h1, KR.mono e h2⟩
end
section
variable {K : PySem.W.Frag} {H : Hp} {φ : Fi} {S : So} {n : Nat} {a : Addr}
theorem SR.dk {kvs : List (Key × PyData)} (hs : SR K H φ S) (ha : φ.l[n]? = some a) (h : S[n]? = some (.dk kvs)) : ∃ es, H a = some (.dK es) ∧ KR K H φ kvs es := by
  obtain ⟨es, h1, h2, h3⟩ := hs.ob n a _ ha h
  exact ⟨es, h1, .of h2 h3⟩
theorem SR.dt {kvs : List (List Key × PyData)} (hs : SR K H φ S) (ha : φ.l[n]? = some a) (h : S[n]? = some (.dt kvs)) : ∃ es, H a = some (.dT es) ∧ KR K H φ kvs es := by
  obtain ⟨es, h1, h2, h3⟩ := hs.ob n a _ ha h
  exact ⟨es, h1, .of h2 h3⟩
theorem OR.dk' {kvs : List (Key × PyData)} {es : List (Key × V)} (h : H a = some (.dK es)) (k : KR K H φ kvs es) : OR K H φ a (.dk kvs) := ⟨es, h, k.to.1, k.to.2⟩
theorem OR.dt' {kvs : List (List Key × PyData)} {es : List (List Key × V)} (h : H a = some (.dT es)) (k : KR K H φ kvs es) : OR K H φ a (.dt kvs) := ⟨es, h, k.to.1, k.to.2⟩
end
/-! ### keys -/
def keyD : Key → PyData
  | .inl i => .int i
  | .inr x => .str x
def keyP : PyData → Option Key
  | .int i => some (.inl i)
  | .str x => some (.inr x)
  | _ => none
def keysP : List PyData → Option (List Key)
  | [] => some []
  | x :: r => match keyP x, keysP r with
    | some k, some ks => some (k :: ks)
    | _, _ => none
section
variable {K : PySem.W.Frag} {H : Hp} {φ : Fi}
theorem keyP_of {x : PyData} {k : Key} {v : V} (h : RD K H φ x v) (e : keyP x = some k) : v = kV k := by
  cases x <;> simp [keyP] at e
  · subst e; exact h
  · subst e; exact h
theorem keysP_of : ∀ {xs : List PyData} {ks : List Key} {vs : List V}, RDs K H φ xs vs → keysP xs = some ks → vs = ks.map kV
  | [], _, _, h, e => by cases e; exact h
  | x :: xs, ks, _, ⟨v, t, e1, h1, h2⟩, e => by
    unfold keysP at e
    match hk : keyP x, hr : keysP xs, e with
    | some k, some r, e => cases e; subst e1; rw [keyP_of h1 hk, keysP_of h2 hr]; rfl
    | none, _, e => cases e
    | some _, none, e => cases e
theorem keyD_rd (k : Key) : RD K H φ (keyD k) (kV k) := by cases k <;> rfl
theorem keysD_rd : ∀ ks : List Key, RDs K H φ (ks.map keyD) (ks.map kV)
  | [] => rfl
  | k :: ks => ⟨kV k, _, rfl, keyD_rd k, keysD_rd ks⟩
end
/-- which entry a key asks for -/
def dgetW (S : So) : W → W → Option W
  | .r n, .d y => match S[n]? with
    | some (.dk kvs) => (keyP y).bind fun k => (valD kvs k).map W.d
    | some (.dt kvs) => match y with
      | .tuple ys => (keysP ys).bind fun k => (valD kvs k).map W.d
      | _ => none
    | _ => none
  | _, _ => none
def dputW (S : So) : W → W → W → Option So
  | .r n, .d y, .d x => match S[n]? with
    | some (.dk kvs) => if small (kvs.length + 1) = true then (keyP y).map fun k => S.set n (.dk (putD kvs k x)) else none
    | some (.dt kvs) => match y with
      | .tuple ys => if small (kvs.length + 1) = true then (keysP ys).map fun k => S.set n (.dt (putD kvs k x)) else none
      | _ => none
    | _ => none
  | _, _, _ => none
section
variable {X : Cx} {E : EK} {pos p pos' : Pos} {o i value : Expr} {dd di dv : DE}
theorem tE2 {da db : DE} {W0 : W → W → So → Option (RE W)} {R : V → V → Hp → VK → Prop} (σV : L2.St) (H : Hp) (Q : VK) (h : tE X.K X.mg E (fun σ S => bnd (da σ S) fun x S1 => bnd (db σ S1) fun y S2 => W0 x y S2) σV H Q)
    (k : ∀ φ H S x y v u r Q, SR X.K H φ S → RW X.K H φ X.mg x v → RW X.K H φ X.mg y u → W0 x y S = some r → oE X.K X.mg (E σV) φ H Q r → R v u H Q) :
    tE X.K X.mg E da σV H fun v H1 => tE X.K X.mg E db σV H1 fun u H2 => R v u H2 Q := by
  obtain ⟨φ, σ, S, r', hs, he, hd, hq⟩ := h
  have hd : bnd (da σ S) (fun x S1 => bnd (db σ S1) fun y S2 => W0 x y S2) = some r' := hd
  match ha : da σ S, hd with
  | none, hd => cases hd
  | some (.xc x S1), hd => cases hd; exact ⟨φ, σ, S, .xc x S1, hs, he, ha, hq⟩
  | some (.ok x S1), hd =>
    refine ⟨φ, σ, S, .ok x S1, hs, he, ha, fun φ1 H1 v1 e1 s1 x1 => ?_⟩
    have hd : bnd (db σ S1) (fun y S2 => W0 x y S2) = some r' := hd
    match hb : db σ S1, hd with
    | none, hd => cases hd
    | some (.xc y S2), hd => cases hd; exact ⟨φ1, σ, S1, .xc y S2, s1, he.mono e1, hb, XR.keep e1 hq⟩
    | some (.ok y S2), hd =>
      refine ⟨φ1, σ, S1, .ok y S2, s1, he.mono e1, hb, fun φ2 H2 v2 e2 s2 y2 => ?_⟩
      have hd : W0 x y S2 = some r' := hd
      refine k φ2 H2 S2 x y v1 v2 r' Q s2 (x1.mono e2) y2 hd ?_
      have e12 := e1.trans e2
      cases r' with
      | ok w S3 => exact fun φ' H' v e' => hq φ' H' v (e12.trans e')
      | xc z S3 => exact XR.keep e12 hq
def dGet (d i : DE) : DE := fun σ S => bnd (d σ S) fun x S1 => bnd (i σ S1) fun y S2 => giv (dgetW S2 x y) S2
theorem e_dget (hu : X.A.units + 1 < cLine) (ho : SE X E o dd) (hi : SE X E i di) (hp : NoSl i := by intro _ _; rfl) : SE X E (.Subscript o i pos) (dGet dd di) := by
  refine PEw (pe_dget hu ho hi hp) fun σV H Q h => tE2 (W0 := fun x y S => giv (dgetW S x y) S) (R := fun v u H2 Q => ∃ a w, v = .ref a ∧ DGet H2 a u (some w) ∧ Q w H2) σV H Q h fun φ H S x y v u r Q hs hx hy hg hq => ?_
  match hw : dgetW S x y, hg with
  | none, hg => cases hg
  | some w, hg =>
    cases hg
    unfold dgetW at hw
    split at hw
    · rename_i n y
      obtain ⟨a, ha, rfl⟩ := hx
      split at hw
      · rename_i kvs hS
        obtain ⟨es, h1, h2⟩ := hs.dk ha hS
        obtain ⟨k, h3, h4⟩ := Option.bind_eq_some_iff.mp hw
        obtain ⟨z, h5, h6⟩ := Option.map_eq_some_iff.mp h4
        subst h6
        obtain ⟨w, h7, h8⟩ := h2.val h5
        refine ⟨a, w, rfl, ?_, hq φ H w .refl hs h8⟩
        rw [keyP_of hy h3, ← h7]
        exact DGet.k h1
      · rename_i kvs hS
        split at hw
        · rename_i ys
          obtain ⟨es, h1, h2⟩ := hs.dt ha hS
          obtain ⟨k, h3, h4⟩ := Option.bind_eq_some_iff.mp hw
          obtain ⟨z, h5, h6⟩ := Option.map_eq_some_iff.mp h4
          subst h6
          obtain ⟨w, h7, h8⟩ := h2.val h5
          obtain ⟨b, us, rfl, h9, h10⟩ := hy
          refine ⟨a, w, rfl, ?_, hq φ H w .refl hs h8⟩
          rw [← h7]
          exact DGet.t h1 (by rw [← keysP_of h10 h3]; exact h9)
        · cases hw
      · cases hw
    · cases hw
/-- d[i] = value -/
def sPut (d i v : DE) : DS := fun σ S => bndS σ (v σ S) fun x S1 => bndS σ (d σ S1) fun z S2 => bndS σ (i σ S2) fun y S3 => (dputW S3 z y x).map fun S4 => .nx σ S4
theorem dput_ok {φ : Fi} {H : Hp} {S S4 : So} {z y x : W} {vz vy vx : V} (hs : SR X.K H φ S) (hz : RW X.K H φ X.mg z vz) (hy : RW X.K H φ X.mg y vy) (hx : RW X.K H φ X.mg x vx) (h : dputW S z y x = some S4) :
    ∃ a H', vz = .ref a ∧ DPut H a vy vx H' ∧ Ext φ H φ H' ∧ SR X.K H' φ S4 := by
  unfold dputW at h
  split at h
  · rename_i n y x
    obtain ⟨a, ha, rfl⟩ := hz
    split at h
    · rename_i kvs hS
      split at h
      · rename_i hz
        obtain ⟨k, h3, h4⟩ := Option.map_eq_some_iff.mp h
        subst h4
        obtain ⟨es, h1, h2⟩ := hs.dk ha hS
        have hl : es.length < sizeLine := by rw [h2.length]; exact small_le hz
        have e := Ext.wr (o := .dK (putK es k vx)) hs ha (by rw [hS]; trivial)
        refine ⟨a, _, rfl, ?_, e, hs.wr ha (by rw [hS]; trivial) (.dk' upd_same ((h2.mono e).put (RD.mono e _ _ hx)))⟩
        rw [keyP_of hy h3]
        exact DPut.k h1 hl
      · cases h
    · rename_i kvs hS
      split at h
      · rename_i ys
        split at h
        · rename_i hz
          obtain ⟨k, h3, h4⟩ := Option.map_eq_some_iff.mp h
          subst h4
          obtain ⟨es, h1, h2⟩ := hs.dt ha hS
          have hl : es.length < sizeLine := by rw [h2.length]; exact small_le hz
          have e := Ext.wr (o := .dT (putK es k vx)) hs ha (by rw [hS]; trivial)
          obtain ⟨b, us, rfl, h9, h10⟩ := hy
          exact ⟨a, _, rfl, DPut.t h1 (by rw [← keysP_of h10 h3]; exact h9) hl, e, hs.wr ha (by rw [hS]; trivial) (.dt' upd_same ((h2.mono e).put (RD.mono e _ _ hx)))⟩
        · cases h
      · cases h
    · cases h
  · cases h
theorem s_put (hu : X.A.units + 1 < cLine) (ho : SE X E o dd) (hi : SE X E i di) (hv : SE X E value dv) (hs : swapsWith value (some (.Subscript o i pos')) pos.line X.env = pure false := by rfl) : SS X E (.Assign [.Subscript o i pos'] value pos) (sPut dd di dv) := by
  refine PSw (ps_dput hu ho hi hv hs) fun D σV H q => ?_
  obtain ⟨φ, σ, S, r, hs, he, hd, hq⟩ := q
  unfold sPut at hd
  match ha : dv σ S, hd with
  | none, hd => cases hd
  | some (.xc x S1), hd => cases hd; exact ⟨φ, σ, S, .xc x S1, hs, he, ha, fun φ' H' e s => hq φ' H' σV e s (he.mono e)⟩
  | some (.ok x S1), hd =>
    refine ⟨φ, σ, S, .ok x S1, hs, he, ha, fun φ1 H1 v1 e1 s1 x1 => ?_⟩
    rw [bndS_ok] at hd
    match hb : dd σ S1, hd with
    | none, hd => cases hd
    | some (.xc y S2), hd => cases hd; exact ⟨φ1, σ, S1, .xc y S2, s1, he.mono e1, hb, XR.keep e1 fun φ' H' e s => hq φ' H' σV e s (he.mono e)⟩
    | some (.ok z S2), hd =>
      refine ⟨φ1, σ, S1, .ok z S2, s1, he.mono e1, hb, fun φ2 H2 v2 e2 s2 z2 => ?_⟩
      rw [bndS_ok] at hd
      have e12 := e1.trans e2
      match hc : di σ S2, hd with
      | none, hd => cases hd
      | some (.xc y S3), hd => cases hd; exact ⟨φ2, σ, S2, .xc y S3, s2, he.mono e12, hc, XR.keep e12 fun φ' H' e s => hq φ' H' σV e s (he.mono e)⟩
      | some (.ok y S3), hd =>
        refine ⟨φ2, σ, S2, .ok y S3, s2, he.mono e12, hc, fun φ3 H3 v3 e3 s3 y3 => ?_⟩
        rw [bndS_ok] at hd
        match hg : dputW S3 z y x, hd with
        | none, hd => cases hd
        | some S4, hd =>
          cases hd
          have e23 := e2.trans e3
          obtain ⟨a, H', h1, h2, h3, h4⟩ := dput_ok s3 (z2.mono e3) y3 (x1.mono e23) hg
          exact ⟨a, H', h1, h2, hq φ3 H' σV ((e1.trans e23).trans h3) h4 (he.mono ((e1.trans e23).trans h3))⟩
/-! ### new dicts -/
def dD0 (ob : O) : DE := fun _ S => some (.ok (.r S.length) (S ++ [ob]))
theorem e_dk0 : SE X E (.Dict [] [] pos) (dD0 (.dk [])) := PEw pe_dnewK fun σV H Q ⟨φ, σ, S, r, hs, he, hd, hq⟩ p hp => by
  cases hd
  refine hq (φ.push p) _ _ (Ext.push hp hs) (hs.push hp (.dk' upd_same rfl)) ⟨p, ?_, rfl⟩
  show (φ.l ++ [p])[S.length]? = some p
  rw [← hs.len]; simp
theorem e_dt0 : SE X E (.Dict [] [] pos) (dD0 (.dt [])) := PEw pe_dnewT fun σV H Q ⟨φ, σ, S, r, hs, he, hd, hq⟩ p hp => by
  cases hd
  refine hq (φ.push p) _ _ (Ext.push hp hs) (hs.push hp (.dt' upd_same rfl)) ⟨p, ?_, rfl⟩
  show (φ.l ++ [p])[S.length]? = some p
  rw [← hs.len]; simp
/-- {'k': v, ..} -/
def dPs : List (Str × DE) → En → So → M (List PyData)
  | [], _, S => some (.ok [] S)
  | (_, d) :: r, σ, S => bnd (d σ S) fun w S1 => match w with
    | .d x => bnd (dPs r σ S1) fun xs S2 => some (.ok (x :: xs) S2)
    | _ => none
def mergeD (ks : List Str) (xs : List PyData) : List (Key × PyData) := ((ks.zip xs).foldl (fun acc kv => putD acc (.inr kv.1) kv.2) [])
def isEmD : Option O → Bool
  | some (.dk []) => true
  | _ => false
def withDk (S : So) : So := S ++ [.dk []]
def dDisp (ps : List (Str × DE)) : DE := fun σ S => bnd (dPs ps σ (withDk S)) fun xs S2 => if isEmD S2[S.length]? = true then some (.ok (.r S.length) (S2.set S.length (.dk (mergeD (ps.map (·.1)) xs)))) else none
structure SPs (X : Cx) (E : EK) (pos : Pos) (keys : List (Option Expr)) (values : List Expr) (ps : List (Str × DE)) : Prop where
  run : ∃ trs, PPs X pos keys values trs ∧ keys.length = ps.length ∧ ∀ σV H φ σ S r Q, SR X.K H φ S → ER X.K H φ X.mg σV σ → dPs ps σ S = some r →
    (match r with
      | .ok xs S' => ∀ φ' H' vs, Ext φ H φ' H' → SR X.K H' φ' S' → RDs X.K H' φ' xs vs → vs.length = ps.length → Q (((ps.map (·.1)).zip vs).map fun kv => (V.str kv.1, kv.2)) H'
      | .xc x S' => ∀ φ' H', Ext φ H φ' H' → SR X.K H' φ' S' → XR X.K X.mg (E σV) x H' φ') → tPairs trs σV H Q
theorem sp_nil : SPs X E pos [] [] [] := ⟨_, pps_nil, rfl, fun σV H φ σ S r Q hs he hd hq => by cases hd; exact hq φ H [] .refl hs rfl rfl⟩
theorem sp_cons {z : Str} {j} {kp : Pos} {v : Expr} {ks : List (Option Expr)} {vs : List Expr} {dv : DE} {ps : List (Str × DE)} (hv : SE X E v dv) (hr : SPs X E pos ks vs ps) : SPs X E pos (some (.Constant (.str z) j kp) :: ks) (v :: vs) ((z, dv) :: ps) := by
  obtain ⟨trs, h1, h2, h3⟩ := hr.run
  refine ⟨_, pps_cons pe_str hv h1, by simp [h2], fun σV H φ σ S r Q hs he hd hq => ?_⟩
  unfold dPs at hd
  match ha : dv σ S, hd with
  | none, hd => cases hd
  | some (.xc x S1), hd => cases hd; exact ⟨φ, σ, S, .xc x S1, hs, he, ha, hq⟩
  | some (.ok (.r _) S1), hd => cases hd
  | some (.ok (.g _) S1), hd => cases hd
  | some (.ok (.s _) S1), hd => cases hd
  | some (.ok (.p _ _) S1), hd => cases hd
  | some (.ok (.x _) S1), hd => cases hd
  | some (.ok (.d x) S1), hd =>
    refine ⟨φ, σ, S, .ok (.d x) S1, hs, he, ha, fun φ1 H1 v1 e1 s1 x1 => ?_⟩
    rw [bnd_ok] at hd
    dsimp only at hd
    match hb : dPs ps σ S1, hd with
    | none, hd => cases hd
    | some (.xc y S2), hd => cases hd; exact h3 σV H1 φ1 σ S1 _ _ s1 (he.mono e1) hb (XR.keep e1 hq)
    | some (.ok xs S2), hd =>
      cases hd
      refine h3 σV H1 φ1 σ S1 _ _ s1 (he.mono e1) hb fun φ2 H2 vs e2 s2 r2 l2 => ?_
      exact hq φ2 H2 (v1 :: vs) (e1.trans e2) s2 ⟨v1, vs, rfl, RD.mono e2 _ _ x1, r2⟩ (by simp [l2])
theorem merge_rd {K : PySem.W.Frag} {H : Hp} {φ : Fi} : ∀ (ks : List Str) {xs : List PyData} {vs : List V} {acc : List (Key × PyData)} {es : List (Key × V)}, RDs K H φ xs vs → KR K H φ acc es →
    KR K H φ ((ks.zip xs).foldl (fun acc kv => putD acc (.inr kv.1) kv.2) acc) (mergeK es ((ks.zip vs).map fun kv => ((Sum.inr kv.1 : Key), kv.2)))
  | [], _, _, _, _, _, h => h
  | k :: ks, [], _, _, _, h, h2 => by cases h; exact h2
  | k :: ks, x :: xs, _, acc, es, ⟨v, t, e, h1, h2⟩, h3 => by
    subst e
    exact merge_rd ks h2 (h3.put (k := .inr k) h1)
theorem e_disp {keys : List (Option Expr)} {values : List Expr} {ps : List (Str × DE)} (h : SPs X E pos keys values ps) (hall : keys.all (·.isSome) = true := by rfl) (hl : keys.length = values.length := by rfl) (h0 : keys ≠ [] := by simp)
    (h15 : keys.length ≤ 15 := by decide) : SE X E (.Dict keys values pos) (dDisp ps) := by
  obtain ⟨trs, h1, h2, h3⟩ := h.run
  refine PEw (pe_disp h1 hall hl h0 h15) fun σV H Q q p hp => ?_
  obtain ⟨φ, σ, S, r, hs, he, hd, hq⟩ := q
  have e0 := Ext.push (o := .dK []) hp hs
  have s0 := hs.push (o := .dK []) (ob := .dk []) hp (.dk' upd_same rfl)
  have hpn : (φ.push p).l[S.length]? = some p := by
    show (φ.l ++ [p])[S.length]? = some p
    rw [← hs.len]; simp
  unfold dDisp at hd
  match ha : dPs ps σ (withDk S), hd with
  | none, hd => cases hd
  | some (.xc x S1), hd => cases hd; exact h3 σV _ _ σ _ _ _ s0 (he.mono e0) ha (XR.keep e0 hq)
  | some (.ok xs S2), hd =>
    refine h3 σV _ _ σ _ _ _ s0 (he.mono e0) ha fun φ2 H2 vs e2 s2 r2 l2 => ?_
    rw [bnd_ok] at hd
    split at hd
    · rename_i hem
      cases hd
      have hS : S2[S.length]? = some (.dk []) := by
        unfold isEmD at hem
        split at hem
        · assumption
        · cases hem
      have hp2 : φ2.l[S.length]? = some p := by
        obtain ⟨t, ht⟩ := e2.pre
        rw [← ht, List.getElem?_append_left (List.getElem?_eq_some_iff.mp hpn).1]; exact hpn
      obtain ⟨es, g1, g2⟩ := s2.dk hp2 hS
      have g3 : es = [] := g2
      subst g3
      refine ⟨g1, ((ps.map (·.1)).zip vs).map fun kv => (Sum.inr kv.1, kv.2), by simp [kV], ?_, ?_⟩
      · simp [l2]; omega
      · have e3 := Ext.wr (o := .dK (mergeK [] (((ps.map (·.1)).zip vs).map fun kv => ((Sum.inr kv.1 : Key), kv.2)))) s2 hp2 (by rw [hS]; trivial)
        refine hq φ2 _ _ ((e0.trans e2).trans e3) (s2.wr hp2 (by rw [hS]; trivial) (.dk' upd_same (merge_rd _ (RDs.mono e3 _ _ r2) rfl))) ⟨p, hp2, rfl⟩
    · cases hd
end
end CL
end

section
/-! part CLSort -/
set_option Elab.async false
set_option linter.all false
set_option maxRecDepth 100000
set_option maxHeartbeats 1000000
/-! CLSort: sorted, min, len of a set, update. -/
namespace CL
open PySem PySem.Spec PyProof.Rows L2

/-! ### what may be sorted -/
def likeAll (xs : List PyData) : Bool := xs.all fun x => xs.all fun y => PySem.W.alike x y
def fullTup : PyData → Bool
  | .tuple (_ :: _) => true
  | _ => false
def flatD : PyData → Bool
  | .none => false
  | .tuple _ => false
  | _ => true
def sortOk (xs : List PyData) : Bool := likeAll xs && (xs.all fullTup || xs.all flatD) && xs.all (fun x => decide (x.depth ≤ 60)) && small xs.length
theorem likeAll_of {xs : List PyData} (h : likeAll xs = true) : PySem.W.AllAlike xs := fun d hd e he => List.all_eq_true.mp (List.all_eq_true.mp h d hd) e he
theorem sortOk_of {xs : List PyData} (h : sortOk xs = true) : PySem.W.AllAlike xs ∧ PySem.W.Sortable xs ∧ (∀ d ∈ xs, d.depth ≤ 60) ∧ xs.length ≤ sizeLine := by
  unfold sortOk at h
  simp only [Bool.and_eq_true] at h
  obtain ⟨⟨⟨h1, h2⟩, h3⟩, h4⟩ := h
  refine ⟨likeAll_of h1, ?_, fun d hd => of_decide_eq_true (List.all_eq_true.mp h3 d hd), small_le h4⟩
  rcases (Bool.or_eq_true _ _ ▸ h2 : _ ∨ _) with h | h
  · exact .inl fun d hd => by
      have := List.all_eq_true.mp h d hd
      unfold fullTup at this
      split at this
      · exact ⟨_, _, rfl⟩
      · cases this
  · exact .inr fun d hd => by
      have := List.all_eq_true.mp h d hd
      unfold flatD at this
      split at this
      · cases this
      · cases this
      · rename_i a b; exact ⟨a, b⟩
def srtD (xs : List PyData) : List PyData := xs.mergeSort (PySem.W.dataLe false id)
section
variable {K : PySem.W.Frag} {H : Hp} {φ : Fi}
theorem RDs.zipMem : ∀ {ds : List PyData} {vs : List V}, RDs K H φ ds vs → ∀ p ∈ ds.zip vs, RD K H φ p.1 p.2
  | [], _, _, p, hp => by simp at hp
  | d :: ds, _, ⟨v, r, e, h, t⟩, p, hp => by
    subst e
    rcases List.mem_cons.mp hp with e | hp
    · subst e; exact h
    · exact RDs.zipMem t p hp
theorem RDs.ofMem : ∀ {l : List (PyData × V)}, (∀ p ∈ l, RD K H φ p.1 p.2) → RDs K H φ (l.map (·.1)) (l.map (·.2))
  | [], _ => rfl
  | p :: l, h => ⟨p.2, _, rfl, h p List.mem_cons_self, RDs.ofMem fun q hq => h q (List.mem_cons_of_mem _ hq)⟩
theorem RDs.zipFst {ds : List PyData} {vs : List V} (h : RDs K H φ ds vs) : (ds.zip vs).map (·.1) = ds := by
  rw [List.map_fst_zip]
  rw [h.length]; exact Nat.le_refl _
theorem srt_rd {ds : List PyData} {vs : List V} (h : RDs K H φ ds vs) : RDs K H φ (srtD ds) (((ds.zip vs).mergeSort (PySem.W.dataLe false Prod.fst)).map (·.2)) := by
  have e1 := RDs.ofMem (K := K) (H := H) (φ := φ) (l := (ds.zip vs).mergeSort (PySem.W.dataLe false Prod.fst)) fun p hp => h.zipMem p (List.mem_mergeSort.mp hp)
  have e2 : ((ds.zip vs).mergeSort (PySem.W.dataLe false Prod.fst)).map (·.1) = srtD ds := by
    unfold srtD
    rw [List.map_mergeSort (r := PySem.W.dataLe false Prod.fst) (s := PySem.W.dataLe false id) (f := fun p : PyData × V => p.1) (fun a _ b _ => rfl), h.zipFst]
  rw [e2] at e1
  exact e1
end
theorem each_of_vals : ∀ {ds : List PyData} {vs : List V} {us : List Value}, ds.length = vs.length → Vals vs us → PySem.W.EachIs (fun (u : Value) (b : PyData × V) => RelV b.2 u) us (ds.zip vs)
  | [], [], _, _, .nil => .nil
  | d :: ds, v :: vs, _, h, .cons r t => .cons r (each_of_vals (by simpa using h) t)
  | [], _ :: _, _, h, _ => by simp at h
  | _ :: _, [], _, h, _ => by simp at h
theorem vals_of_each : ∀ {bs : List (PyData × V)} {us : List Value}, PySem.W.EachIs (fun (u : Value) (b : PyData × V) => RelV b.2 u) us bs → Vals (bs.map (·.2)) us
  | [], _, .nil => .nil
  | _ :: _, _, .cons r t => .cons r (vals_of_each t)
theorem each_reads {h : Heap} : ∀ {ds : List PyData} {vs : List V} {us : List Value} {as : List Addr}, ds.length = vs.length → ReadsAll h us ds as → PySem.W.EachIs (fun u (b : PyData × V) => ∃ as, Reads h u b.1 as) us (ds.zip vs)
  | [], [], _, _, _, .nil => .nil
  | d :: ds, v :: vs, _, _, h, .cons r t => .cons ⟨_, r⟩ (each_reads (by simpa using h) t)
  | [], _ :: _, _, _, h, _ => by simp at h
  | _ :: _, [], _, _, h, _ => by simp at h
section
variable {X : Cx} {E : EK} {pos p : Pos}
theorem call_sorted (hu : X.A.units + 64 < cLine) : CallR X (.builtin "sorted") (fun xs H Q => ∃ a ds vs, xs = [.ref a] ∧ SqL X.K H a vs ∧ DpAll X.K H vs ds ∧ sortOk ds = true ∧ ds.length = vs.length ∧
    ∀ q, H q = none → Q (.ref q) (upd H q (.lst (((ds.zip vs).mergeSort (PySem.W.dataLe false Prod.fst)).map (·.2))))) := by
  intro pins s σ H xs us Q I r h
  obtain ⟨a, ds, vs, rfl, hl, hd, ok, hlen, q⟩ := h
  obtain ⟨u, rfl, rx⟩ := vals1 r
  cases rx
  obtain ⟨o1, o2, o3, o4⟩ := sortOk_of ok
  obtain ⟨its, rv, pl, hz⟩ := I.list hl
  obtain ⟨as, rs⟩ := Dp.readsAll I ds vs its hd rv
  have hm : (ds.zip vs).map Prod.fst = ds := List.map_fst_zip (by rw [hlen]; exact Nat.le_refl _)
  refine PySem.W.sorted_data (bs := ds.zip vs) (enc := Prod.fst) (R := fun u b => RelV b.2 u) pl.isList (each_of_vals hlen rv) (each_reads hlen rs) (by rw [hm]; exact o1) (by rw [hm]; exact o2) (by rw [List.length_zip, hlen, Nat.min_self, ← hlen]; exact o4)
    (fun b hb => ?_) fun out ho eo => ?_
  · have := o3 b.1 (by rw [← hm]; exact List.mem_map_of_mem hb)
    omega
  · obtain ⟨c, hc⟩ := PyProof.Rows.sortedAll_at s.heap its (List.toArray out)
    have rv2 := vals_of_each eo
    have hz2 : (((ds.zip vs).mergeSort (PySem.W.dataLe false Prod.fst)).map (·.2)).length ≤ sizeLine := by
      rw [List.length_map, List.length_mergeSort, List.length_zip, hlen, Nat.min_self]; exact hz
    have I2 := I.laid (a := s.heap.objs.size + 1) (o := .lst (((ds.zip vs).mergeSort (PySem.W.dataLe false Prod.fst)).map (·.2))) (t' := s.toks) (fun b ob e => PyProof.Rows.sortedAll_old (vs := its) (out := List.toArray out) e) (Nat.le_succ _) ⟨hz2, out, c, rv2, hc⟩
    exact ⟨.ref (s.heap.objs.size + 1), _, I2, rfl, q _ (I.hok.fresh (Nat.le_succ _))⟩
def sortG : So → List W → Option (List PyData)
  | S, [w] => (lstW S w).bind fun xs => if sortOk xs = true then some (srtD xs) else none
  | _, _ => none
theorem b_sorted (hu : X.A.units + 64 < cLine) : CallR X (.builtin "sorted") (rCN X.K X.mg sortG) :=
  callw (call_sorted hu) fun vs H Q ⟨φ, S, ws, xs, hs, hx, hg, hq⟩ => by
    unfold sortG at hg
    split at hg
    · obtain ⟨v, rfl, hv⟩ := one_of hx
      obtain ⟨ds, h1, h2⟩ := Option.bind_eq_some_iff.mp hg
      split at h2
      · rename_i ok
        cases h2
        obtain ⟨l, us, rfl, f1, r1⟩ := seqL_of hs hv (lstW_of h1)
        exact ⟨l, ds, us, rfl, f1, RDs.dp _ _ r1, ok, r1.length.symm, fun p hp => hq φ H p _ .refl hs hp (srt_rd r1)⟩
      · cases h2
    · cases hg
end
end CL
end

section
/-! part CLKeys -/
set_option Elab.async false
set_option linter.all false
set_option maxRecDepth 100000
set_option maxHeartbeats 1000000
/-! CLKeys: a dict with tuples for keys, as its keys: sorted, min, len, update. -/
namespace CL
open PySem PySem.Spec PyProof.Rows L2

def tupOf (k : List Key) : PyData := .tuple (k.map keyD)
def keysOf (kvs : List (List Key × PyData)) : List PyData := kvs.map fun p => tupOf p.1
section
variable {X : Cx} {E : EK} {pos p : Pos} {pins : List (Addr × Obj)} {σ : L2.St} {H : Hp} {s : Shared} {d : Addr}
theorem dt_at {kvs : List (List Key × V)} (I : Inv X pins σ H s) (h : H d = some (.dT kvs)) : (d == sysModules) = false ∧ kvs.length ≤ sizeLine ∧ ∃ (o : Obj) (es : Array DictEntry) (ep : Nat) (bs : List Addr), s.heap.get? d = some o ∧ o.ExactDict ∧ o.data = .dict es ep ∧
    es.size = bs.length ∧ bs.length = kvs.length ∧ (∀ (j : Nat) (en : DictEntry), es[j]? = some en → ∃ b, bs[j]? = some b ∧ en.key = .ref b) ∧ IsKeys H kvs bs := by
  obtain ⟨z, hs, xs, pr, o, es, ep, ho, hx, hdt, he, _⟩ := (show ObjOk X.prog X.w H s.heap d (.dT kvs) from I.hok d _ h)
  have l1 : es.size = xs.length := size_of_entries he
  have l2 : kvs.length = xs.length := Paired.length pr
  refine ⟨hs, z, o, es, ep, xs.map fun x => x.2.1, ho, hx, hdt, by rw [List.length_map, l1], by rw [List.length_map, l2], fun j en hj => ?_, isKeys_of pr⟩
  have q := entry_at he j
  rw [hj] at q
  cases hb : xs[j]? with
  | none => rw [hb] at q; cases q
  | some b =>
    rw [hb] at q
    have e2 : en = entryOfKey (tupleKind (mixKind X.prog X.w)) b := Option.some.inj q
    exact ⟨b.2.1, by rw [List.getElem?_map, hb]; rfl, by rw [e2]; rfl⟩
theorem keys_rd {K : PySem.W.Frag} {φ : Fi} : ∀ {kvs : List (List Key × V)} {bs : List Addr}, IsKeys H kvs bs → RDs K H φ (kvs.map fun p => tupOf p.1) (bs.map V.ref) := by
  intro kvs bs h
  unfold IsKeys at h
  induction h with
  | nil => rfl
  | @cons p b ps bs h t ih => exact ⟨.ref b, _, rfl, ⟨b, p.1.map kV, rfl, h, keysD_rd p.1⟩, ih⟩
theorem key_reads : ∀ {ks : List Key} {us : List Value} {h : Heap}, Vals (ks.map kV) us → ReadsAll h us (ks.map keyD) []
  | [], _, _, .nil => .nil
  | .inl i :: ks, _, h, .cons r t => by
    obtain ⟨tk, e⟩ := r
    subst e
    exact .cons (as := []) (bs := []) (.int i tk) (key_reads t)
  | .inr x :: ks, _, h, .cons r t => by
    obtain ⟨tk, e⟩ := r
    subst e
    exact .cons (as := []) (bs := []) (.str x tk) (key_reads t)
theorem keys_reads (I : Inv X pins σ H s) : ∀ {kvs : List (List Key × V)} {bs : List Addr}, IsKeys H kvs bs → ReadsAll s.heap (bs.map Value.ref) (kvs.map fun p => tupOf p.1) [] := by
  intro kvs bs h
  unfold IsKeys at h
  induction h with
  | nil => exact .nil
  | @cons p b ps bs h t ih =>
    obtain ⟨_, its, rv, o, h1, h2, n, h3⟩ := (show ObjOk X.prog X.w H s.heap b (.tup (p.1.map kV)) from I.hok b _ h)
    exact .cons (as := []) (bs := []) (.tuple h1 h2 h3 (by simpa using key_reads rv)) ih
theorem keep_reads {h h' : Heap} {ds : List PyData} {us : List Value} {as : List Addr} (k : ∀ b o, h.get? b = some o → h'.get? b = some o) (r : ReadsAll h us ds as) : ReadsAll h' us ds as := PyProof.Rows.ReadsAll.keeps k r
theorem each_reads0 {h : Heap} {L : Addr} : ∀ {ds : List PyData} {vs : List V} {us : List Value}, ds.length = vs.length → ReadsAll h us ds [] → PySem.W.EachIs (fun u (b : PyData × V) => ∃ as, Reads h u b.1 as ∧ L ∉ as) us (ds.zip vs) := by
  intro ds
  induction ds with
  | nil =>
    intro vs us hl r
    cases r
    cases vs with
    | nil => exact .nil
    | cons v vs => simp at hl
  | cons d ds ih =>
    intro vs us hl r
    cases vs with
    | nil => simp at hl
    | cons v vs =>
      generalize ha : ([] : List Addr) = as at r
      cases r with
      | @cons _ _ _ _ a1 a2 r1 r2 =>
        obtain ⟨e1, e2⟩ := List.append_eq_nil_iff.mp ha.symm
        subst e1; subst e2
        exact .cons ⟨[], r1, by simp⟩ (ih (by simpa using hl) r2)
/-- sorted(d) -/
theorem call_sortedDT (hc : X.calm = true) (hu : X.A.units + 64 < cLine) : CallR X (.builtin "sorted") (fun xs H Q => ∃ d kvs, xs = [.ref d] ∧ H d = some (.dT kvs) ∧ sortOk (kvs.map fun p => tupOf p.1) = true ∧
    ∀ q bs, H q = none → IsKeys H kvs bs → Q (.ref q) (upd H q (.lst ((((kvs.map fun p => tupOf p.1).zip (bs.map V.ref)).mergeSort (PySem.W.dataLe false Prod.fst)).map (·.2))))) := by
  intro pins s σ H xs us Q I r h
  obtain ⟨d, kvs, rfl, hd, ok, q⟩ := h
  obtain ⟨u, rfl, rx⟩ := vals1 r
  cases rx
  obtain ⟨hs, hz, o, es, ep, bs, ho, hx, hdt, l1, l2, ent, ik⟩ := dt_at I hd
  obtain ⟨o1, o2, o3, o4⟩ := sortOk_of ok
  refine Calls.call_function_entry PyProof.Rows.kind_sorted PyProof.Rows.plain_sorted PyProof.Rows.entry_sorted (PyProof.Rows.args_sorted1 _) ?_
  unfold Builtin.«sorted»
  refine wpAny_bind (m := checkCount "sorted" 1 1 _) (wpAny_pure (wpAny_bind (PySem.W.kdu_collect (A := X.A.in1) (kdl_raw hs hx hdt) (I.ok.hd hc) ho (by rw [l1, l2]; exact hz) fun h2 tk acc hk hacc => ?_)))
  have ea : acc.toList = bs.map Value.ref := by
    have hl : acc.toList.length = bs.length := by rw [Array.length_toList, hacc.1, l1]
    refine List.ext_getElem? fun j => ?_
    rw [List.getElem?_map]
    cases hj : acc.toList[j]? with
    | none => rw [List.getElem?_eq_none (by rw [← hl]; exact List.getElem?_eq_none_iff.mp hj)]; rfl
    | some v =>
      obtain ⟨en, h1, h2⟩ := hacc.2 j v (by rw [← Array.getElem?_toList]; exact hj)
      obtain ⟨b, h3, h4⟩ := ent j en h1
      rw [h3, h2, h4]; rfl
  have I1 : Inv X pins σ H { s with heap := h2, toks := tk } := I.kept hk
  have zl : (bs.map Value.ref).length ≤ sizeLine := by rw [List.length_map, l2]; exact hz
  rw [ea]
  refine wpAny_bind (wpAny_newList ?_ zl)
  have hoL : (h2.push (seqObj "list" (bs.map Value.ref).toArray 0)).get? h2.objs.size = some (seqObj "list" (bs.map Value.ref).toArray 0) := Heap.get?_push_size _ rfl
  show wpAny _ _ _ _ _ { s with heap := h2.push (seqObj "list" (bs.map Value.ref).toArray 0), toks := tk }
  have len : (kvs.map fun p => tupOf p.1).length = (bs.map V.ref).length := by rw [List.length_map, List.length_map, l2]
  have fs : ((kvs.map fun p => tupOf p.1).zip (bs.map V.ref)).map Prod.fst = kvs.map fun p => tupOf p.1 := List.map_fst_zip (by rw [len]; exact Nat.le_refl _)
  have rds := keep_reads (fun b o e => Heap.get?_push_of_some (seqObj "list" (bs.map Value.ref).toArray 0) e) (keys_reads I1 ik)
  refine wpAny_bind (wpAny_holding (PySem.W.list_sort_data (A := X.A.in1) (s := { s with heap := h2.push (seqObj "list" (bs.map Value.ref).toArray 0), toks := tk }) (bs := (kvs.map fun p => tupOf p.1).zip (bs.map V.ref)) (enc := Prod.fst) (R := fun u b => RelV b.2 u)
    hoL (each_of_vals len (vals_refs bs)) (each_reads0 len rds) (by rw [fs]; exact o1) (by rw [fs]; exact o2) (by rw [List.length_zip, len, Nat.min_self, List.length_map, l2]; exact hz) (fun b hb => ?_) fun out hlo eo => ?_))
  · have h1 := o3 b.1 (by rw [← fs]; exact List.mem_map_of_mem hb)
    show X.A.units + 1 + 1 + _ < _
    omega
  · obtain ⟨e', he'⟩ := PyProof.Rows.sortedHeap_at (vs := bs.map Value.ref) (out := List.toArray out) hoL
    have rv := vals_of_each eo
    have hz2 : ((((kvs.map fun p => tupOf p.1).zip (bs.map V.ref)).mergeSort (PySem.W.dataLe false Prod.fst)).map (·.2)).length ≤ sizeLine := by
      rw [List.length_map, List.length_mergeSort, List.length_zip, len, Nat.min_self, List.length_map, l2]; exact hz
    refine wpAny_pure ⟨_, rfl, .ref h2.objs.size, _, I1.laid (t' := tk) (o := .lst ((((kvs.map fun p => tupOf p.1).zip (bs.map V.ref)).mergeSort (PySem.W.dataLe false Prod.fst)).map (·.2))) (fun b u e => ?_) (Nat.le_refl _) ⟨hz2, out, e', rv, he'⟩, rfl, q _ bs (I1.hok.fresh (Nat.le_refl _)) ik⟩
    have hb : b < h2.objs.size := Heap.lt_size e
    rw [PyProof.Rows.sortedHeap_old (Nat.ne_of_lt hb) (by rw [size_push']; exact Nat.lt_succ_of_lt hb)]
    exact Heap.get?_push_of_some _ e
/-- min(d) -/
theorem call_minDT (hc : X.calm = true) (hu : X.A.units + 64 < cLine) : CallR X (.builtin "min") (fun xs H Q => ∃ d kvs x r, xs = [.ref d] ∧ H d = some (.dT kvs) ∧ (kvs.map fun p => tupOf p.1) = x :: r ∧ likeAll (x :: r) = true ∧ PyData.depthAll (x :: r) ≤ 60 ∧
    ∀ (b : Addr) (k : List Key), H b = some (.tup (k.map kV)) → tupOf k = PySem.W.minD x r → Q (.ref b) H) := by
  intro pins s σ H xs us Q I r0 h
  obtain ⟨d, kvs, x, r, rfl, hd, hxr, lk, dp, q⟩ := h
  obtain ⟨u, rfl, rx⟩ := vals1 r0
  cases rx
  obtain ⟨hs, hz, o, es, ep, bs, ho, hx, hdt, l1, l2, ent, ik⟩ := dt_at I hd
  have rds := keys_reads I ik
  rw [hxr] at rds
  have al : PySem.W.AlikeAll (x :: r) := ⟨likeAll_of lk, fun y hy e => by
    rw [← hxr] at hy
    obtain ⟨p, _, hp⟩ := List.mem_map.mp hy
    rw [e] at hp; unfold tupOf at hp; cases hp⟩
  have nlen : es.size = r.length + 1 := by rw [l1, l2]; have := congrArg List.length hxr; simpa using this
  have itemAt : ∀ (i : Nat) (v : Value), (∃ en : DictEntry, es[i]? = some en ∧ v = en.key) → ((bs.map Value.ref).toArray)[i]? = some v := fun i v ⟨en, h1, h2⟩ => by
    obtain ⟨b, h3, h4⟩ := ent i en h1
    simp [h3, h2, h4]
  refine PySem.call_min_walkH (iter_keys hs ho hx hdt ?_)
  have hlt : d < s.heap.objs.size := Heap.lt_size ho
  refine ⟨s.heap.objs.size, [s.heap.objs.size, d], [s.heap.objs.size], _, es.size, _, _, s.heap, fun i j => PySem.W.dataLt ((x :: r).getD i .none) ((x :: r).getD j .none), rfl, (walks_raw (A := X.A.in1) (I.ok.hd hc) s.heap.objs.size d (Nat.ne_of_lt hlt) hdt).toS,
    ⟨⟨_, Heap.get?_push_size _ rfl, rfl, rfl⟩, Heap.get?_push_of_some _ ho⟩, fun b hb => ?_, by omega, fun b ob e hb => ?_, fun b ob e => Heap.get?_push_of_some _ e, fun i j vi vj s' Q' E' hk hi hj hq => ?_, fun v s' hP m => ?_⟩
  · show b < (s.heap.push _).objs.size
    rw [size_push']
    rcases List.mem_cons.mp hb with e | hb
    · rw [e]; exact Nat.lt_succ_self _
    · rw [List.mem_singleton.mp hb]; exact Nat.lt_succ_of_lt hlt
  · exact absurd (Heap.lt_size e) ((List.mem_singleton.mp hb) ▸ Nat.lt_irrefl _)
  · exact PySem.W.cmpIn_lt (vs := (bs.map Value.ref).toArray) (s := s) (A := X.A.in1) (by simpa using rds) al (by show X.A.units + 1 + _ < _; omega) i j vi vj s' Q' E' hk (itemAt _ _ hi) (itemAt _ _ hj) hq
  · obtain ⟨h', tk, rfl, hk'⟩ := PySem.W.moved_old rfl rfl m
    obtain ⟨en, h1, h2⟩ := hP
    obtain ⟨b, h3, h4⟩ := ent _ en h1
    have e1 : es.size - 1 = r.length := by omega
    have e2 := (PySem.W.argBest_fold PySem.W.dataLt PyData.none x r r.length (Nat.le_refl _)).2
    rw [List.take_length] at e2
    rw [e1] at h3
    have ib := ik
    unfold IsKeys at ib
    obtain ⟨pk, h5, h6⟩ : ∃ pk, kvs[argBest (fun i j => PySem.W.dataLt ((x :: r).getD i PyData.none) ((x :: r).getD j PyData.none)) r.length]? = some pk ∧ H b = some (.tup (pk.1.map kV)) := by
      have hlt2 := (List.getElem?_eq_some_iff.mp h3).1
      rw [l2] at hlt2
      obtain ⟨b2, g1, g2⟩ := paired_get ib (List.getElem?_eq_getElem hlt2)
      rw [h3] at g1; cases g1
      exact ⟨_, List.getElem?_eq_getElem hlt2, g2⟩
    refine ⟨.ref b, H, I.kept hk', by rw [h2, h4]; rfl, q b pk.1 h6 ?_⟩
    unfold PySem.W.minD
    rw [← e2]
    have h7 : (kvs.map fun p => tupOf p.1)[argBest (fun i j => PySem.W.dataLt ((x :: r).getD i PyData.none) ((x :: r).getD j PyData.none)) r.length]? = some (tupOf pk.1) := by rw [List.getElem?_map, h5]; rfl
    rw [hxr] at h7
    rw [List.getD_eq_getElem?_getD, h7]; rfl
end
end CL
end

section
/-! part CLUpd -/
set_option Elab.async false
set_option linter.all false
set_option maxRecDepth 100000
set_option maxHeartbeats 1000000
/-! CLUpd: d.update(pairs), keys tuples. -/
namespace CL
open PySem PySem.Spec PyProof.Rows L2

/-- a pair of the list: its tuple, its key's tuple, the key, the value -/
structure Pr where
  t : Addr
  b : Addr
  k : List Key
  v : V
def PrOk (H : Hp) (q : Pr) : Prop := H q.t = some (.tup [.ref q.b, q.v]) ∧ H q.b = some (.tup (q.k.map kV))
def mergeT (kvs : List (List Key × V)) (ps : List Pr) : List (List Key × V) := ps.foldl (fun acc q => putK acc q.k q.v) kvs
section
variable {X : Cx} {E : EK} {pos p : Pos} {pins : List (Addr × Obj)} {σ : L2.St} {H : Hp} {s : Shared} {d : Addr}
def PrV (h : Heap) (q : Pr) (e : List Key × Addr × Value) : Prop := e.1 = q.k ∧ e.2.1 = q.b ∧ RelV q.v e.2.2 ∧ h.IsTuple q.t #[.ref q.b, e.2.2]
theorem prs_vals (I : Inv X pins σ H s) : ∀ ps : List Pr, (∀ q ∈ ps, PrOk H q) → ∃ es, Paired (PrV s.heap) ps es
  | [], _ => ⟨[], .nil⟩
  | q :: ps, h => by
    obtain ⟨es, h1⟩ := prs_vals I ps fun r hr => h r (List.mem_cons_of_mem _ hr)
    obtain ⟨_, its, rv, o, g1, g2, n, g3⟩ := (show ObjOk X.prog X.w H s.heap q.t (.tup [.ref q.b, q.v]) from I.hok q.t _ (h q List.mem_cons_self).1)
    obtain ⟨u1, u2, e1, r1, r2⟩ := rv.two
    cases r1
    subst e1
    exact ⟨(q.k, q.b, u2) :: es, .cons ⟨rfl, rfl, r2, o, g1, g2, n, g3⟩ h1⟩
theorem KT.upd {H : Hp} : ∀ {ps : List Pr} {es : List (List Key × Addr × Value)} {kvs : List (List Key × V)} {xs : List (List Key × Addr × Value)} {h : Heap}, (∀ q ∈ ps, PrOk H q) → Paired (PrV h) ps es → KT H kvs xs → KT H (mergeT kvs ps) (storedAllH xs es)
  | [], _, _, _, _, _, .nil, r => r
  | q :: ps, e :: es, kvs, xs, h, hp, .cons h1 t, r => by
    have h2 := (hp q List.mem_cons_self).2
    have r2 : KT H (putK kvs q.k q.v) (storedH xs e.1 e.2.1 e.2.2) := by
      rw [h1.1, h1.2.1]
      exact r.put q.k h2 h1.2.2.1
    show KT H (mergeT (putK kvs q.k q.v) ps) (storedAllH (storedH xs e.1 e.2.1 e.2.2) es)
    exact KT.upd (fun z hz => hp z (List.mem_cons_of_mem _ hz)) t r2
theorem mergeT_len : ∀ (ps : List Pr) (kvs : List (List Key × V)), (mergeT kvs ps).length ≤ kvs.length + ps.length
  | [], kvs => Nat.le_refl _
  | q :: ps, kvs => by
    have h1 := mergeT_len ps (putK kvs q.k q.v)
    have h2 := length_putK kvs q.k q.v
    show (mergeT (putK kvs q.k q.v) ps).length ≤ _
    rw [List.length_cons]; omega
theorem ks_of {P : Program} {w : World} {H : Hp} {h : Heap} (ok : HOk P w H h) : ∀ {kvs : List (List Key × V)} {xs : List (List Key × Addr × Value)}, KT H kvs xs → ∀ x ∈ xs, (tupleKind (mixKind P w)).is h x.1 x.2.1 := by
  intro kvs xs r
  induction r with
  | nil => intro x hx; cases hx
  | @cons p q ps qs hq t ih =>
    intro x hx
    rcases List.mem_cons.mp hx with e | hx
    · subst e; exact key_of ok (by rw [← hq.1]; exact hq.2.1)
    · exact ih x hx
def rUpd : V → List V → Hp → VK → Prop := fun x vs H Q => ∃ d kvs a ps, x = .ref d ∧ vs = [.ref a] ∧ H d = some (.dT kvs) ∧ Rd H a (.lst (ps.map fun q : Pr => V.ref q.t)) ∧ (∀ q ∈ ps, PrOk H q) ∧ kvs.length + ps.length ≤ sizeLine ∧ Q .non (upd H d (.dT (mergeT kvs ps)))
theorem mt_update (hc : X.calm = true) (hu : X.A.units + 64 < cLine) : MtR X "dict.update" rUpd := by
  intro pins s σ H x xs v us Q I rx rs h
  obtain ⟨d, kvs, a, ps, rfl, rfl, hd, ha, hp, hz, q⟩ := h
  cases rx
  obtain ⟨u, rfl, ra⟩ := rs.one
  cases ra
  obtain ⟨es, pv⟩ := prs_vals I ps hp
  obtain ⟨_, its, n, rv, ea⟩ := ha.ok I.hok
  obtain ⟨z, hs, xs, kt, dd⟩ := dt_of I.hok hd
  have el : ps.length = es.length := Paired.length pv
  have iv : its = ps.map fun q => Value.ref q.t := by
    have := refs_at (ps := ps.map fun q : Pr => q.t) (us := its) (by rw [List.map_map]; exact rv)
    rw [this, List.map_map]; rfl
  let psV : List (Value × Value) := es.map fun e => (Value.ref e.2.1, e.2.2)
  let Ts : Nat → Addr := fun j => (ps.map fun q => q.t).getD j 0
  have atj : ∀ (j : Nat) (e : List Key × Addr × Value), es[j]? = some e → ∃ q, ps[j]? = some q ∧ PrV s.heap q e := fun j e he => by
    have hlt := (List.getElem?_eq_some_iff.mp he).1
    obtain ⟨e2, g1, g2⟩ := paired_get pv (List.getElem?_eq_getElem (l := ps) (i := j) (by omega))
    rw [he] at g1; cases g1
    exact ⟨_, List.getElem?_eq_getElem _, g2⟩
  have ok : PlainSeq "list" s.heap a its.toArray ∧ PairItems s.heap its.toArray Ts psV := by
    refine ⟨⟨_, n, ea, rfl, rfl, rfl⟩, by simp [psV, iv, el], fun j k v hj => ?_⟩
    simp only [psV, List.getElem?_map] at hj
    obtain ⟨e, he, e2⟩ := Option.map_eq_some_iff.mp hj
    cases e2
    obtain ⟨q, hq, g⟩ := atj j e he
    have ht : Ts j = q.t := by simp [Ts, hq]
    refine ⟨?_, .inl ?_⟩
    · simp [iv, hq, ht]
    · rw [ht, g.2.1]; exact g.2.2.2
  have dobj : ∃ o es ep, s.heap.get? d = some o ∧ o.data = .dict es ep := let ⟨o, e0, ep, h1, _, h3, _⟩ := dd; ⟨o, e0, ep, h1, h3⟩
  have ksx := ks_of I.hok kt
  have kse : ∀ x ∈ es, (tupleKind (mixKind X.prog X.w)).is s.heap x.1 x.2.1 := fun x hx => by
    obtain ⟨j, hj, e⟩ := List.getElem_of_mem hx
    obtain ⟨q, hq, g⟩ := atj j x (by rw [List.getElem?_eq_getElem hj, e])
    rw [g.1, g.2.1]
    exact key_of I.hok (hp q (List.mem_of_getElem? hq)).2
  refine call_update_pairsH (knd := tupleKind (mixKind X.prog X.w)) (acc := xs) (ps := es) (PairArg.list a its.toArray Ts psV) (I.ok.hd hc) (show X.A.units + 1 < cLine by omega) ok ?_ ?_ ?_ dd (by
      have l1 : kvs.length = xs.length := Paired.length kt
      have l2 : psV.length = es.length := by simp [psV]
      omega) fun h2 tk hd2 hk => ?_
  · intro hm
    have bad : ∀ {b : Addr} {ob : HO}, H b = some ob → (∀ kv, ob ≠ .dT kv) → d ≠ b := fun {b ob} hb hn e => by
      subst e; rw [hd] at hb; exact hn _ (Option.some.inj hb).symm
    rcases List.mem_cons.mp hm with e | hm
    · rcases ha with ha | ⟨o, ha⟩
      · exact bad ha (fun _ => by simp) e
      · exact bad ha (fun _ => by simp) e
    · obtain ⟨j, hj, e⟩ := List.mem_map.mp hm
      have hj := List.mem_range.mp hj
      have hj2 : j < ps.length := by simp [psV] at hj; omega
      have ht : Ts j = ps[j].t := by simp [Ts, hj2]
      exact bad (hp ps[j] (List.getElem_mem hj2)).1 (fun _ => by simp) (by rw [← ht]; exact e.symm)
  · refine ⟨by simp [psV], fun i key v hr => ?_⟩
    have hr : psV[i]? = some (key, v) := hr
    simp only [psV, List.getElem?_map] at hr
    obtain ⟨e, he, e2⟩ := Option.map_eq_some_iff.mp hr
    cases e2
    exact ⟨e.1, e.2.1, he, rfl⟩
  · intro h2 hk x hx
    rcases List.mem_append.mp hx with hx | hx
    · exact HeapKind.Stays.but tupleKind_stays dobj h2 (fun b o n1 n2 e => hk b o n1 n2 e) _ _ (ksx x hx)
    · exact HeapKind.Stays.but tupleKind_stays dobj h2 (fun b o n1 n2 e => hk b o n1 n2 e) _ _ (kse x hx)
  · obtain ⟨o2, es2, ep2, w1, w2, w3, w4, _, w5⟩ := hd2
    have hlen : (mergeT kvs ps).length ≤ sizeLine := Nat.le_trans (mergeT_len ps kvs) hz
    have new : ObjOk X.prog X.w (upd H d (.dT (mergeT kvs ps))) h2 d (.dT (mergeT kvs ps)) := by
      refine ⟨hlen, hs, storedAllH xs es, (KT.upd hp pv kt).keeps fun b ys e => ?_, o2, es2, ep2, w1, w2, w3, w4, w5⟩
      rw [upd_ne]; exact e
      intro e2; subst e2; rw [hd] at e; cases e
    have I2 : Inv X pins σ (upd H d (.dT (mergeT kvs ps))) { s with heap := h2, toks := tk } := by
      refine I.write (x := d) (e := d) (by rw [hd]; exact trivial) (.inl rfl) (fun b u hb hu => hk b u hb (fun z => nomatch z) hu) ⟨_, w1⟩ new
    exact ⟨.non, _, I2, rfl, q⟩
end
end CL
end

section
/-! part CLMisc -/
set_option Elab.async false
set_option linter.all false
set_option maxRecDepth 100000
set_option maxHeartbeats 1000000
/-! CLMisc: isinstance, repr, str, methods, what is walked, dicts as their keys. -/
namespace CL
open PySem PySem.Spec PyProof.Rows L2

section
variable {X : Cx} {E : EK} {pos p p2 p3 : Pos} {a b : Expr} {da db : DE}
/-! ### isinstance(x, T) -/
def dIsi (T : String) (d : DE) : DE := fun σ S => bnd (d σ S) fun w S1 => giv ((rd S1 w).bind fun x => (isiP T x).map W.d) S1
theorem tyx_list {K : PySem.W.Frag} {H : Hp} {l : Addr} {vs : List V} (h : SqL K H l vs) : TyX K H (.ref l) (.type "list") := by
  rcases h with h | ⟨o, its, n, h, hc, _⟩
  · rcases h with h | ⟨o, h⟩
    · exact .base (.lst h)
    · exact .base (.frz h)
  · exact .kList h hc
theorem e_isi {T : String} {tn : Str} (hm : X.mg "isinstance" = none) (hmt : X.mg tn = none) (ha : SE X E a da) (hT : tyOk T = true := by decide) (hv : bootBuiltins tn = some (.type T) := by decide +kernel) (hg : Gl X "isinstance" := by rfl) (hgt : Gl X tn := by rfl)
    (hs1 : starEach [a, .Name tn p2] X.env = (false, eval a X.env) :: starEach [.Name tn p2] X.env := by rfl) (hs2 : starEach [.Name tn p2] X.env = (false, eval (.Name tn p2) X.env) :: starEach [] X.env := by rfl) (hpl : (backTo pos (starEach [.Name tn p2] X.env)).any (·.1) = false := by rfl)
    (hn : tn ≠ "__name__" := by decide) (hd : (tn == ("__debug__" : Str)) = false := by decide) :
    SE X E (.Call (.Name "isinstance" p) [a, .Name tn p2] [] pos) (dIsi T da) := by
  refine PEw (pe_callB (id := "isinstance") call_isi hg hm (by decide +kernel) (pa_cons ha (pa_cons (pe_bltn (v := .ty T) hgt hmt hv rfl hn hd) pa_nil hs2) hs1) (by decide) (by decide) hs1 hpl) fun σV H Q q => ?_
  obtain ⟨φ, σ, S, r', hs, he, hd, hq⟩ := q
  unfold dIsi at hd
  match ha : da σ S, hd with
  | none, hd => cases hd
  | some (.xc x S1), hd => cases hd; exact ⟨φ, σ, S, .xc x S1, hs, he, ha, hq⟩
  | some (.ok w S1), hd =>
    refine ⟨φ, σ, S, .ok w S1, hs, he, ha, fun φ1 H1 v1 e1 s1 x1 => ?_⟩
    rw [bnd_ok] at hd
    match hw : (rd S1 w).bind fun x => (isiP T x).map W.d, hd with
    | none, hd => cases hd
    | some u, hd =>
      cases hd
      obtain ⟨x, h1, h2⟩ := Option.bind_eq_some_iff.mp hw
      obtain ⟨c, h3, h4⟩ := Option.map_eq_some_iff.mp h2
      subst h4
      suffices ∃ t bb, TyX X.K H1 v1 t ∧ PySem.W.kitOne X.K t (.type T) = some bb ∧ c = .bool bb by
        obtain ⟨t, bb, k1, k2, rfl⟩ := this
        exact ⟨v1, .ty T, t, .type T, bb, rfl, .ty T, k1, k2, hq φ1 H1 _ e1 s1 rfl⟩
      cases x with
      | none =>
        cases h3
        have := rd_eq h1 (by simp)
        subst this
        cases x1
        exact ⟨_, _, .base .non, kit_ty (kit_none T hT), rfl⟩
      | bool k =>
        cases h3
        rw [bl_of x1 h1]
        exact ⟨_, _, .base (.bl k), kit_ty (kit_bool T hT), rfl⟩
      | int k =>
        cases h3
        rw [int_of x1 h1]
        exact ⟨_, _, .base (.int k), kit_ty (kit_int T hT), rfl⟩
      | str k =>
        cases h3
        rw [str_of x1 h1]
        exact ⟨_, _, .base (.str k), kit_ty (kit_str T hT), rfl⟩
      | list k =>
        cases h3
        obtain ⟨l, vs, rfl, f1, r1⟩ := seqL_of s1 x1 h1
        exact ⟨_, _, tyx_list f1, kit_ty (kit_list T hT), rfl⟩
      | tuple k =>
        cases h3
        obtain ⟨l, vs, rfl, f1, r1⟩ := tup_of x1 h1
        exact ⟨_, _, .base (.tup f1), kit_ty (kit_tuple T hT), rfl⟩
      | dict k => cases h3
/-! ### repr, str -/
def reprOk (x : PyData) : Bool := x.showable && !x.hasDict && decide (x.shown.length ≤ 16777216) && decide (x.depth ≤ 60)
def reprP (x : PyData) : Option PyData := if reprOk x = true then some (.str x.shown) else none
theorem call_repr (hgd : X.A.guards = some []) (hu : X.A.units + 64 < cLine) : CallR X (.builtin "repr") (fun vs H Q => ∃ v x, vs = [v] ∧ Dp X.K H v x ∧ reprOk x = true ∧ Q (.str x.shown) H) := by
  intro pins s σ H xs us Q I r h
  obtain ⟨v, x, rfl, hd, ok, q⟩ := h
  obtain ⟨u, rfl, rx⟩ := vals1 r
  unfold reprOk at ok
  simp only [Bool.and_eq_true, decide_eq_true_eq, Bool.not_eq_true'] at ok
  obtain ⟨⟨⟨k1, k2⟩, k3⟩, k4⟩ := ok
  have hz : x.shown.length ≤ sizeLine := by rw [sizeLine_eq]; exact k3
  have big : ∀ {c : Addr}, u = .ref c → wpAny (model X.prog X.w) X.A (call (.builtin "repr") [u]) (EP X pins σ Q) X.xe s := fun {c} e => by
    obtain ⟨as, rs⟩ := Dp.reads I x v u hd rx
    subst e
    exact PySem.repr_of_reads' rs k1 (PyData.noDict_hsm k2) hgd (by omega) (fun _ _ e => e) (fun h2 t tk hk => ⟨.str x.shown, H, I.kept (t' := tk) hk, ⟨t, rfl⟩, q⟩) hz
  cases x with
  | none =>
    cases hd
    cases rx
    exact PySem.P.repr_of_none ⟨.str _, H, I.tok _, ⟨s.toks, by simp only [PyData.shown]⟩, q⟩
  | bool k =>
    cases hd
    cases rx
    exact PySem.P.repr_of_bool ⟨.str _, H, I.tok _, ⟨s.toks, by simp only [PyData.shown]⟩, q⟩
  | int k =>
    cases hd
    obtain ⟨t, rfl⟩ := rx
    exact PySem.P.repr_of_int (by simpa [PyData.showable] using k1) ⟨.str _, H, I.tok _, ⟨s.toks, by simp only [PyData.shown]⟩, q⟩
  | str k =>
    cases hd
    obtain ⟨t, rfl⟩ := rx
    exact PySem.P.repr_of_str (by simp only [PyData.shown] at q ⊢; exact ⟨.str _, H, I.tok _, ⟨_, rfl⟩, q⟩) (by simpa [PyData.shown] using hz)
  | list k => cases hd with | lst _ _ => exact big rx
  | tuple k => cases hd with | tup _ _ => exact big rx
  | dict k => cases hd
theorem b_repr (hgd : X.A.guards = some []) (hu : X.A.units + 64 < cLine) : CallR X (.builtin "repr") (rC X.K X.mg (c1 reprP)) :=
  callw (call_repr hgd hu) fun vs H Q ⟨φ, S, ws, w, hs, hx, hg, hq⟩ => by
    obtain ⟨u, x, c, rfl, h1, h2, rfl⟩ := c1_of hg
    obtain ⟨v, rfl, hv⟩ := one_of hx
    unfold reprP at h2
    split at h2
    · rename_i ok
      cases h2
      exact ⟨v, x, rfl, dp_of hs hv h1, ok, hq φ H _ .refl hs rfl⟩
    · cases h2
def strP : PyData → Option PyData
  | .int i => if i.natAbs.log2 < 1920 then some (.str (toString i)) else none
  | .bool b => some (.str (if b = true then "True" else "False"))
  | .str x => some (.str x)
  | _ => none
theorem call_strB : CallR X (.type "str") (fun vs H Q => ∃ b, vs = [.bl b] ∧ Q (.str (if b = true then "True" else "False")) H) := by
  intro pins s σ H xs us Q I r h
  obtain ⟨b, rfl, q⟩ := h
  obtain ⟨u, rfl, rx⟩ := vals1 r
  cases rx
  exact PySem.P.str_of_bool ⟨.str _, H, I.tok _, ⟨_, rfl⟩, q⟩
theorem b_str : CallR X (.type "str") (rC X.K X.mg (c1 strP)) :=
  callw (call_str_int.or (call_strB.or SkE.call_str_str)) fun vs H Q ⟨φ, S, ws, w, hs, hx, hg, hq⟩ => by
    obtain ⟨u, x, c, rfl, h1, h2, rfl⟩ := c1_of hg
    obtain ⟨v, rfl, hv⟩ := one_of hx
    unfold strP at h2
    split at h2
    · split at h2
      · rename_i ok
        cases h2
        exact .inl ⟨_, by rw [int_of hv h1], ok, hq φ H _ .refl hs rfl⟩
      · cases h2
    · cases h2
      exact .inr (.inl ⟨_, by rw [bl_of hv h1], hq φ H _ .refl hs rfl⟩)
    · cases h2
      exact .inr (.inr ⟨_, by rw [str_of hv h1], hq φ H _ .refl hs rfl⟩)
    · cases h2
/-! ### methods -/
def tyM (T : String) (S : So) : W → Bool
  | .r n => match S[n]? with
    | some (.lst _) => T == "list"
    | some (.dk _) => T == "dict"
    | some (.dt _) => T == "dict"
    | _ => false
  | .d (.str _) => T == "str"
  | .d (.list _) => T == "list"
  | _ => false
theorem tyM_of {K : PySem.W.Frag} {mg : Str → Option Value} {H : Hp} {φ : Fi} {S : So} {T : String} {w : W} {v : V} (hs : SR K H φ S) (hx : RW K H φ mg w v) (h : tyM T S w = true) : tyV K T v H := by
  unfold tyM at h
  split at h
  · rename_i n
    obtain ⟨c, ha, rfl⟩ := hx
    split at h
    · rename_i xs hS
      have e := eq_of_beq h
      subst e
      obtain ⟨vs, q1, q2⟩ := hs.ob n c _ ha hS
      exact .inl ⟨rfl, vs, .of q1⟩
    · rename_i xs hS
      have e := eq_of_beq h
      subst e
      obtain ⟨vs, q1, q2⟩ := hs.ob n c _ ha hS
      exact .inr (.inr (.inl ⟨rfl, .inl ⟨vs, q1⟩⟩))
    · rename_i xs hS
      have e := eq_of_beq h
      subst e
      obtain ⟨vs, q1, q2⟩ := hs.ob n c _ ha hS
      exact .inr (.inr (.inl ⟨rfl, .inr ⟨vs, q1⟩⟩))
    · cases h
  · have e := eq_of_beq h
    subst e
    cases hx
    exact rfl
  · have e := eq_of_beq h
    subst e
    obtain ⟨c, vs, rfl, h1, h2⟩ := hx
    exact .inl ⟨rfl, vs, h1.sq⟩
  · cases h
abbrev GM := So → W → List W → Option (W × So)
def dMeth (T : String) (g : GM) (o : DE) (as : DA) : DE := fun σ S => bnd (o σ S) fun x S1 => if tyM T S1 x = true then bnd (as σ S1) fun ws S2 => match g S2 x ws with
  | some (w, S3) => some (.ok w S3)
  | none => none
  else none
variable {o e : Expr} {es : List Expr} {dO : DE} {das : DA} {name : Str} {apos cpos : Pos} {T id : String} {r : V → List V → Hp → VK → Prop} {g : GM}
theorem meth_rd (hr : ∀ v1 vs H Q, rM X.K X.mg g v1 vs H Q → r v1 vs H Q) (σV : L2.St) (H : Hp) (Q : VK) (h : tE X.K X.mg E (dMeth T g dO das) σV H Q) : tBM X.K T r (tE X.K X.mg E dO) (tA X.K X.mg E das) σV H Q := by
  obtain ⟨φ, σ, S, r', hs, he, hd, hq⟩ := h
  unfold dMeth at hd
  match ha : dO σ S, hd with
  | none, hd => cases hd
  | some (.xc x S1), hd => cases hd; exact ⟨φ, σ, S, .xc x S1, hs, he, ha, hq⟩
  | some (.ok x S1), hd =>
    refine ⟨φ, σ, S, .ok x S1, hs, he, ha, fun φ1 H1 v1 e1 s1 x1 => ?_⟩
    rw [bnd_ok] at hd
    split at hd
    · rename_i hT
      refine ⟨tyM_of s1 x1 hT, ?_⟩
      match hb : das σ S1, hd with
      | none, hd => cases hd
      | some (.xc y S2), hd => cases hd; exact ⟨φ1, σ, S1, .xc y S2, s1, he.mono e1, hb, XR.keep e1 hq⟩
      | some (.ok ws S2), hd =>
        refine ⟨φ1, σ, S1, .ok ws S2, s1, he.mono e1, hb, fun φ2 H2 vs e2 s2 y2 => hr _ _ _ _ ?_⟩
        rw [bnd_ok] at hd
        match hg : g S2 x ws, hd with
        | none, hd => cases hd
        | some (w, S3), hd =>
          cases hd
          exact ⟨φ2, S2, x, ws, w, S3, s2, x1.mono e2, y2, hg, fun φ' H' v e' => hq φ' H' v ((e1.trans e2).trans e')⟩
    · cases hd
theorem e_meth (hm : MtR X id r) (hr : ∀ v1 vs H Q, rM X.K X.mg g v1 vs H Q → r v1 vs H Q) (pa : PlainAttrs T) (slot : Slot T name id) (hty : typeOf (.builtin id) = pure (.type "method_descriptor")) (ho : SE X E o dO) (ha : SA X E (e :: es) das)
    (hbase : attributeBase o name X.env (eval o X.env) = eval o X.env := by rfl)
    (hfew : ((backTo cpos (starEach (e :: es) X.env)).all (fun x => !x.1) && (backToKw cpos (keywordEach [] X.env)).all (fun x => x.1.isSome) && decide ((e :: es).length + ([] : List Keyword).length + (if ([] : List Keyword).isEmpty then 0 else 1) < 30)) = true := by rfl)
    (hline : (apos.endLine == cpos.line) = true := by rfl) (hs : starEach (e :: es) X.env = (false, eval e X.env) :: starEach es X.env := by rfl) (hplain : (backTo cpos (starEach es X.env)).any (·.1) = false := by rfl) :
    SE X E (.Call (.Attribute o name apos) (e :: es) [] cpos) (dMeth T g dO das) := PEw (pe_bm pa slot hty hm ho ha hbase hfew hline hs hplain) (meth_rd hr)
theorem e_meth0 (hm : MtR X id r) (hr : ∀ v1 vs H Q, rM X.K X.mg g v1 vs H Q → r v1 vs H Q) (pa : PlainAttrs T) (slot : Slot T name id) (hty : typeOf (.builtin id) = pure (.type "method_descriptor")) (ho : SE X E o dO)
    (hbase : attributeBase o name X.env (eval o X.env) = eval o X.env := by rfl) (hline : (apos.endLine == cpos.line) = true := by rfl) : SE X E (.Call (.Attribute o name apos) [] [] cpos) (dMeth T g dO dNil) := by
  refine PEw (pe_bm0 pa slot hty hm ho hbase hline) fun σV H Q h => ?_
  obtain ⟨φ, σ, S, r', hs, he, hd, hq⟩ := meth_rd (E := E) hr σV H Q h
  refine ⟨φ, σ, S, r', hs, he, hd, ?_⟩
  cases r' with
  | xc y S' => exact hq
  | ok w S' =>
    intro φ' H' v e' s' x'
    obtain ⟨h1, φ2, σ2, S2, r2, a1, a2, a3, a4⟩ := hq φ' H' v e' s' x'
    cases a3
    exact ⟨h1, a4 φ2 H' [] .refl a1 rfl⟩
/-- a method of texts that changes nothing -/
def gS0 (f : Str → Option PyData) : GM
  | S, .d (.str x), [] => (f x).map fun y => (.d y, S)
  | _, _, _ => none
theorem gS0_of {f : Str → Option PyData} {v1 : V} {vs : List V} {H : Hp} {Q : VK} (h : rM X.K X.mg (gS0 f) v1 vs H Q) : ∃ x y, v1 = .str x ∧ vs = [] ∧ f x = some y ∧ (∀ v, (∀ H φ, RD X.K H φ y v) → Q v H) := by
  obtain ⟨φ, S, x, ws, w, S', hs, hx, hws, hg, hq⟩ := h
  unfold gS0 at hg
  split at hg
  · obtain ⟨y, h1, h2⟩ := Option.map_eq_some_iff.mp hg
    cases h2
    cases hx
    cases hws
    exact ⟨_, y, rfl, rfl, h1, fun v hv => hq φ H v .refl hs (hv H φ)⟩
  · cases hg
def upP (x : Str) : Option PyData := if x.length ≤ 5000000 then some (.str (Txt.upper x)) else none
theorem e_upper (ho : SE X E o dO) (hbase : attributeBase o "upper" X.env (eval o X.env) = eval o X.env := by rfl) (hline : (apos.endLine == cpos.line) = true := by rfl) : SE X E (.Call (.Attribute o "upper" apos) [] [] cpos) (dMeth "str" (gS0 upP) dO dNil) :=
  e_meth0 mt_upper (fun v1 vs H Q h => by
    obtain ⟨x, y, e1, e2, h1, h2⟩ := gS0_of h
    unfold upP at h1
    split at h1
    · cases h1; exact ⟨x, e1, e2, by omega, h2 _ fun _ _ => rfl⟩
    · cases h1) F.plainAttrs_str F.slot_str_upper F.type_str_upper ho hbase hline
/-- l.append(x), l.pop(i) -/
def gApp : GM
  | S, .r n, [.d x] => match S[n]? with
    | some (.lst xs) => if small (xs.length + 1) = true then some (.d .none, S.set n (.lst (xs ++ [x]))) else none
    | _ => none
  | _, _, _ => none
theorem e_append (ho : SE X E o dO) (ha : SA X E [e] das) (hbase : attributeBase o "append" X.env (eval o X.env) = eval o X.env := by rfl)
    (hfew : ((backTo cpos (starEach [e] X.env)).all (fun x => !x.1) && (backToKw cpos (keywordEach [] X.env)).all (fun x => x.1.isSome) && decide (([e] : List Expr).length + ([] : List Keyword).length + (if ([] : List Keyword).isEmpty then 0 else 1) < 30)) = true := by rfl)
    (hline : (apos.endLine == cpos.line) = true := by rfl) (hs : starEach [e] X.env = (false, eval e X.env) :: starEach [] X.env := by rfl) (hplain : (backTo cpos (starEach [] X.env)).any (·.1) = false := by rfl) :
    SE X E (.Call (.Attribute o "append" apos) [e] [] cpos) (dMeth "list" gApp dO das) :=
  e_meth mt_append (fun v1 vs H Q h => by
    obtain ⟨φ, S, x, ws, w, S', hs, hx, hws, hg, hq⟩ := h
    unfold gApp at hg
    split at hg
    · rename_i n y
      split at hg
      · rename_i xs hS
        split at hg
        · rename_i hz
          cases hg
          obtain ⟨c, ha, rfl⟩ := hx
          obtain ⟨v, rfl, hv⟩ := one_of hws
          obtain ⟨us, q1, q2⟩ := hs.ob n c _ ha hS
          have nl : notLk S[n]? := by rw [hS]; trivial
          have ex := Ext.wr (o := .lst (us ++ [v])) hs ha nl
          refine ⟨c, us, v, rfl, rfl, q1, by rw [q2.length]; exact small_le hz, hq φ _ _ ex (hs.wr ha nl ⟨_, upd_same, RDs.append (RDs.mono ex _ _ q2) (RDs.one (RD.mono ex _ _ hv))⟩) rfl⟩
        · cases hg
      · cases hg
    · cases hg) F.plainAttrs_list F.slot_list_append F.type_list_append ho ha hbase hfew hline hs hplain
def gPop : GM
  | S, .r n, [.d (.int i)] => match S[n]? with
    | some (.lst xs) => if 0 ≤ i ∧ i < 16777216 then (xs[i.toNat]?).map fun x => (.d x, S.set n (.lst (xs.eraseIdx i.toNat))) else none
    | _ => none
  | _, _, _ => none
theorem e_pop (ho : SE X E o dO) (ha : SA X E [e] das) (hbase : attributeBase o "pop" X.env (eval o X.env) = eval o X.env := by rfl)
    (hfew : ((backTo cpos (starEach [e] X.env)).all (fun x => !x.1) && (backToKw cpos (keywordEach [] X.env)).all (fun x => x.1.isSome) && decide (([e] : List Expr).length + ([] : List Keyword).length + (if ([] : List Keyword).isEmpty then 0 else 1) < 30)) = true := by rfl)
    (hline : (apos.endLine == cpos.line) = true := by rfl) (hs : starEach [e] X.env = (false, eval e X.env) :: starEach [] X.env := by rfl) (hplain : (backTo cpos (starEach [] X.env)).any (·.1) = false := by rfl) :
    SE X E (.Call (.Attribute o "pop" apos) [e] [] cpos) (dMeth "list" gPop dO das) :=
  e_meth mt_popAt (fun v1 vs H Q h => by
    obtain ⟨φ, S, x, ws, w, S', hs, hx, hws, hg, hq⟩ := h
    unfold gPop at hg
    split at hg
    · rename_i n i
      split at hg
      · rename_i xs hS
        split at hg
        · rename_i hz
          obtain ⟨y, h1, h2⟩ := Option.map_eq_some_iff.mp hg
          cases h2
          obtain ⟨c, ha, rfl⟩ := hx
          obtain ⟨v, rfl, hv⟩ := one_of hws
          cases hv
          obtain ⟨us, q1, q2⟩ := hs.ob n c _ ha hS
          obtain ⟨u, g1, g2⟩ := q2.get h1
          have nl : notLk S[n]? := by rw [hS]; trivial
          have ex := Ext.wr (o := .lst (us.eraseIdx i.toNat)) hs ha nl
          have hlt := (List.getElem?_eq_some_iff.mp g1).1
          refine ⟨c, us, i, i.toNat, u, rfl, rfl, q1, by omega, by omega, ?_, g1, hq φ _ _ ex (hs.wr ha nl ⟨_, upd_same, RDs.eraseIdx _ (RDs.mono ex _ _ q2)⟩) (RD.mono ex _ _ g2)⟩
          exact seqIndex_of hz.1 (by omega)
        · cases hg
      · cases hg
    · cases hg) F.plainAttrs_list F.slot_list_pop F.type_list_pop ho ha hbase hfew hline hs hplain
/-- d.update(pairs) -/
def prP : PyData → Option (List Key × PyData)
  | .tuple [.tuple ks, v] => (keysP ks).map fun k => (k, v)
  | _ => none
def prsP : List PyData → Option (List (List Key × PyData))
  | [] => some []
  | x :: r => match prP x, prsP r with
    | some q, some qs => some (q :: qs)
    | _, _ => none
def mergeTD (kvs : List (List Key × PyData)) (ps : List (List Key × PyData)) : List (List Key × PyData) := ps.foldl (fun acc q => putD acc q.1 q.2) kvs
def gUpd : GM
  | S, .r n, [.d (.list xs)] => match S[n]? with
    | some (.dt kvs) => match prsP xs with
      | some ps => if small (kvs.length + xs.length) = true then some (.d .none, S.set n (.dt (mergeTD kvs ps))) else none
      | none => none
    | _ => none
  | _, _, _ => none
theorem prs_of {K : PySem.W.Frag} {H : Hp} {φ : Fi} : ∀ {xs : List PyData} {vs : List V} {ps : List (List Key × PyData)}, RDs K H φ xs vs → prsP xs = some ps →
    ∃ qs : List Pr, vs = qs.map (fun q => V.ref q.t) ∧ (∀ q ∈ qs, PrOk H q) ∧ qs.length = xs.length ∧ qs.map (·.k) = ps.map (·.1) ∧ RDs K H φ (ps.map (·.2)) (qs.map (·.v))
  | [], _, _, h, e => by cases e; cases h; exact ⟨[], rfl, (fun _ h => nomatch h), rfl, rfl, rfl⟩
  | x :: xs, _, ps, ⟨v, r, e1, h1, h2⟩, e => by
    subst e1
    unfold prsP at e
    match hp : prP x, hr : prsP xs, e with
    | none, _, e => cases e
    | some _, none, e => cases e
    | some q, some qs, e =>
      cases e
      obtain ⟨zs, g1, g2, g3, g4, g5⟩ := prs_of h2 hr
      unfold prP at hp
      split at hp
      · obtain ⟨k, k1, k2⟩ := Option.map_eq_some_iff.mp hp
        subst k2
        obtain ⟨c, us, rfl, t1, w1, r1, e1, ⟨c2, us2, rfl, t2, d2⟩, w2, r2, e2, d3, e3⟩ := h1
        cases e3; subst e2; subst e1
        have kk := keysP_of d2 k1
        subst kk
        refine ⟨⟨c, c2, k, w2⟩ :: zs, by simp [g1], fun q hq => ?_, by simp [g3], by simp [g4], w2, _, rfl, d3, g5⟩
        rcases List.mem_cons.mp hq with e | hq
        · subst e; exact ⟨t1, t2⟩
        · exact g2 q hq
      · cases hp
theorem mergeT_rd {K : PySem.W.Frag} {H : Hp} {φ : Fi} : ∀ {qs : List Pr} {ps : List (List Key × PyData)} {kvs : List (List Key × PyData)} {es : List (List Key × V)}, qs.map (·.k) = ps.map (·.1) → RDs K H φ (ps.map (·.2)) (qs.map (·.v)) → KR K H φ kvs es → KR K H φ (mergeTD kvs ps) (mergeT es qs)
  | [], [], _, _, _, _, h => h
  | [], _ :: _, _, _, h, _, _ => by simp at h
  | _ :: _, [], _, _, h, _, _ => by simp at h
  | q :: qs, p :: ps, kvs, es, h, ⟨v, r, e, h1, h2⟩, h3 => by
    simp at h e
    obtain ⟨k1, k2⟩ := h
    obtain ⟨k3, k4⟩ := e
    subst k4
    show KR K H φ (mergeTD (putD kvs p.1 p.2) ps) (mergeT (putK es q.k q.v) qs)
    refine mergeT_rd (by simpa using k2) h2 ?_
    rw [k1, k3]
    exact h3.put h1
theorem e_update (hu : X.A.units + 64 < cLine) (ho : SE X E o dO) (ha : SA X E [e] das) (hc : X.calm = true := by rfl) (hbase : attributeBase o "update" X.env (eval o X.env) = eval o X.env := by rfl)
    (hfew : ((backTo cpos (starEach [e] X.env)).all (fun x => !x.1) && (backToKw cpos (keywordEach [] X.env)).all (fun x => x.1.isSome) && decide (([e] : List Expr).length + ([] : List Keyword).length + (if ([] : List Keyword).isEmpty then 0 else 1) < 30)) = true := by rfl)
    (hline : (apos.endLine == cpos.line) = true := by rfl) (hs : starEach [e] X.env = (false, eval e X.env) :: starEach [] X.env := by rfl) (hplain : (backTo cpos (starEach [] X.env)).any (·.1) = false := by rfl) :
    SE X E (.Call (.Attribute o "update" apos) [e] [] cpos) (dMeth "dict" gUpd dO das) :=
  e_meth (mt_update hc hu) (fun v1 vs H Q h => by
    obtain ⟨φ, S, x, ws, w, S', hs, hx, hws, hg, hq⟩ := h
    unfold gUpd at hg
    split at hg
    · rename_i n xs
      split at hg
      · rename_i kvs hS
        split at hg
        · rename_i ps hps
          split at hg
          · rename_i hz
            cases hg
            obtain ⟨c, ha, rfl⟩ := hx
            obtain ⟨v, rfl, l, us, rfl, f1, r1⟩ := one_of hws
            obtain ⟨es, q1, q2⟩ := hs.dt ha hS
            obtain ⟨qs, g1, g2, g3, g4, g5⟩ := prs_of r1 hps
            subst g1
            have nl : notLk S[n]? := by rw [hS]; trivial
            have ex := Ext.wr (o := .dT (mergeT es qs)) hs ha nl
            exact ⟨c, es, l, qs, rfl, rfl, q1, f1.1, g2, by rw [q2.length, g3]; exact small_le hz, hq φ _ _ ex (hs.wr ha nl (.dt' upd_same (mergeT_rd g4 (RDs.mono ex _ _ g5) (q2.mono ex)))) rfl⟩
          · cases hg
        · cases hg
      · cases hg
    · cases hg) F.plainAttrs_dict F.slot_dict_update F.type_dict_update ho ha hbase hfew hline hs hplain
end
end CL
end

section
/-! part CLLock -/
set_option Elab.async false
set_option linter.all false
set_option maxRecDepth 100000
set_option maxHeartbeats 1000000
/-! CLLock: what is walked; a dict stays as it is while it is walked; dicts as their keys. -/
namespace CL
open PySem PySem.Spec PyProof.Rows L2

section
variable {K : PySem.W.Frag} {H H' : Hp} {φ φ' : Fi} {mg : Str → Option Value}
mutual
theorem RD.map (k : ∀ b vs, FL H φ b vs → FL H' φ' b vs) (t : ∀ b vs, TP K H b vs → TP K H' b vs) : ∀ (d : PyData) (v : V), RD K H φ d v → RD K H' φ' d v
  | .none, _, h => h
  | .bool _, _, h => h
  | .int _, _, h => h
  | .str _, _, h => h
  | .list ds, _, ⟨a, vs, e1, h1, h2⟩ => ⟨a, vs, e1, k a vs h1, RDs.map k t ds vs h2⟩
  | .tuple ds, _, ⟨a, vs, e1, h1, h2⟩ => ⟨a, vs, e1, t a vs h1, RDs.map k t ds vs h2⟩
  | .dict _, _, h => h
theorem RDs.map (k : ∀ b vs, FL H φ b vs → FL H' φ' b vs) (t : ∀ b vs, TP K H b vs → TP K H' b vs) : ∀ (ds : List PyData) (vs : List V), RDs K H φ ds vs → RDs K H' φ' ds vs
  | [], _, h => h
  | d :: ds, _, ⟨v, r, e1, h1, h2⟩ => ⟨v, r, e1, RD.map k t d v h1, RDs.map k t ds r h2⟩
end
theorem OR.map (k : ∀ b vs, FL H φ b vs → FL H' φ' b vs) (t : ∀ b vs, TP K H b vs → TP K H' b vs) {a : Addr} (ha : H' a = H a) : ∀ {o : O}, OR K H φ a o → OR K H' φ' a o
  | .lst xs, ⟨vs, h1, h2⟩ => ⟨vs, ha.trans h1, RDs.map k t _ _ h2⟩
  | .dk kvs, ⟨es, h1, h2, h3⟩ => ⟨es, ha.trans h1, h2, RDs.map k t _ _ h3⟩
  | .dt kvs, ⟨es, h1, h2, h3⟩ => ⟨es, ha.trans h1, h2, RDs.map k t _ _ h3⟩
  | .lkK kvs, ⟨es, ⟨od, h1⟩, h2, h3⟩ => ⟨es, ⟨od, ha.trans h1⟩, h2, RDs.map k t _ _ h3⟩
  | .lkT kvs, ⟨es, ⟨od, h1⟩, h2, h3⟩ => ⟨es, ⟨od, ha.trans h1⟩, h2, RDs.map k t _ _ h3⟩
theorem RW.map (k : ∀ b vs, FL H φ b vs → FL H' φ b vs) (t : ∀ b vs, TP K H b vs → TP K H' b vs) (z : ∀ b es, H b = some (.xd es) → H' b = some (.xd es)) : ∀ {w : W} {v : V}, RW K H φ mg w v → RW K H' φ mg w v
  | .d x, v, h => RD.map k t x v h
  | .r n, v, h => h
  | .g x, v, h => h
  | .s xs, v, ⟨a, vs, e1, h1, h2⟩ => ⟨a, vs, e1, h1.imp (fun q => k a vs q) id, RDs.map k t _ _ h2⟩
  | .p n x, v, ⟨a, b, u, e1, h1, h2, h3⟩ => ⟨a, b, u, e1, t _ _ h1, h2, RD.map k t x u h3⟩
  | .x xv, v, ⟨a, C, dd, es, e1, e2, e3, e4, e5, h1, h2, h3, h4⟩ => ⟨a, C, dd, es, e1, e2, e3, e4, e5, z dd es h1, h2, h3, RDs.map k t _ _ h4⟩
/-- the thing at a is a dict -/
def DU : HO → Prop
  | .dK _ => True
  | .dT _ => True
  | _ => False
section
variable {a : Addr} {u : HO} {od : Obj} (hu : DU u) (hl : H' a = some (.frz od u))
include hu hl
theorem fl_un {b : Addr} {vs : List V} (h : FL H' φ b vs) : FL (upd H' a u) φ b vs := by
  have ne : b ≠ a := by
    rintro rfl
    rcases h.1 with h | ⟨o, h⟩
    · rw [hl] at h; cases h
    · rw [hl] at h; cases h; exact hu
  exact ⟨by rcases h.1 with q | ⟨o, q⟩
            · exact .inl ((upd_ne ne).trans q)
            · exact .inr ⟨o, (upd_ne ne).trans q⟩, h.2⟩
theorem tp_un {b : Addr} {vs : List V} (h : TP K H' b vs) : TP K (upd H' a u) b vs := by
  have ne : b ≠ a := by rintro rfl; rw [TP, hl] at h; cases h
  exact (upd_ne ne).trans h
theorem xd_un {b : Addr} {es : List (Str × V)} (h : H' b = some (.xd es)) : upd H' a u b = some (.xd es) := by
  have ne : b ≠ a := by rintro rfl; rw [hl] at h; cases h
  exact (upd_ne ne).trans h
theorem SR.un {S : So} {n : Nat} {ob : O} (hs : SR K H' φ S) (ha : φ.l[n]? = some a) (ho : OR K (upd H' a u) φ a ob) : SR K (upd H' a u) φ (S.set n ob) := by
  refine ⟨by simp [hs.len], hs.nd, fun i b w h1 h2 => ?_, fun b hb => ?_⟩
  · by_cases e : n = i
    · subst e
      rw [ha] at h1; cases h1
      have hlt : n < S.length := by rw [← hs.len]; exact (List.getElem?_eq_some_iff.mp ha).1
      rw [List.getElem?_set_self hlt] at h2; cases h2
      exact ho
    · rw [List.getElem?_set_ne e] at h2
      have ne : b ≠ a := by
        rintro rfl
        exact e ((List.getElem?_inj (List.getElem?_eq_some_iff.mp ha).1 hs.nd).mp (ha.trans h1.symm))
      exact OR.map (fun _ _ q => fl_un hu hl q) (fun _ _ q => tp_un hu hl q) (upd_ne ne) (hs.ob i b w h1 h2)
  · obtain ⟨h1, vs, h2⟩ := hs.hid b hb
    have ne : b ≠ a := by rintro rfl; rw [hl] at h2; cases h2
    exact ⟨h1, vs, (upd_ne ne).trans h2⟩
end
theorem Ext.un {a : Addr} {u : HO} {od : Obj} (hu : DU u) (h0 : H a = some u) (ha : a ∈ φ.l) (e : Ext φ (upd H a (.frz od u)) φ' H') : Ext φ H φ' (upd H' a u) := by
  have key : ∀ b o, b ≠ a → H b = some o → upd H a (.frz od u) b = some o := fun b o ne h => (upd_ne ne).trans h
  refine ⟨e.pre, ?_, fun b h => ?_, fun b o h n => ?_, fun b vs h => ?_, fun b o v h => ?_⟩
  · obtain ⟨l, e1, e2⟩ := e.hid
    refine ⟨l, e1, fun b hb => ?_⟩
    have h1 := e2 b hb
    have ne : b ≠ a := by rintro rfl; rw [upd_same] at h1; cases h1
    rw [upd_ne ne] at h1; exact h1
  · have ne : b ≠ a := by rintro rfl; rw [upd_same] at h; cases h
    rw [upd_ne ne] at h
    have h1 := e.trk b h
    rw [upd_ne ne] at h1; exact h1
  · have ne : b ≠ a := by rintro rfl; exact n ha
    obtain ⟨h1, h2⟩ := e.kept b o (key b o ne h) n
    exact ⟨(upd_ne ne).trans h1, h2⟩
  · have ne : b ≠ a := by rintro rfl; rw [h0] at h; cases h; exact hu
    exact (upd_ne ne).trans (e.tups b vs (key b _ ne h))
  · have ne : b ≠ a := by rintro rfl; rw [h0] at h; cases h; exact hu
    exact (upd_ne ne).trans (e.frz b o v (key b _ ne h))
end
/-- the dict that slot i holds, locked; and back -/
def lockO : O → Option O
  | .dk kvs => some (.lkK kvs)
  | .dt kvs => some (.lkT kvs)
  | _ => none
def slotR (σ : En) (i : Nat) : Option Nat := match σ[i]? with
  | some (some (.r n)) => some n
  | _ => none
def lockS (σ : En) (i : Nat) (S : So) : Option (Nat × O × So) := match slotR σ i with
  | some n => match S[n]? with
    | some ob => (lockO ob).map fun l => (n, ob, S.set n l)
    | none => none
  | none => none
section
variable {X : Cx} {E : EK} {pos p : Pos} {e : Expr} {st : Stmt}
theorem lock_of {φ : Fi} {H : Hp} {σ : En} {σV : L2.St} {S S1 : So} {i n : Nat} {ob : O} (hs : SR X.K H φ S) (he : ER X.K H φ X.mg σV σ) (h : lockS σ i S = some (n, ob, S1)) :
    ∃ a u, DU u ∧ H a = some u ∧ Mut (some u) ∧ φ.l[n]? = some a ∧ OR X.K H φ a ob ∧ (∀ H2 φ2, H2 a = some u → Ext φ H φ2 H2 → OR X.K H2 φ2 a ob) ∧ ∀ od, Ext φ H φ (upd H a (.frz od u)) ∧ SR X.K (upd H a (.frz od u)) φ S1 := by
  unfold lockS at h
  split at h
  · rename_i m hm
    split at h
    · rename_i o ho
      obtain ⟨l, h1, h2⟩ := Option.map_eq_some_iff.mp h
      cases h2
      unfold slotR at hm
      split at hm
      · rename_i m' hσ
        cases hm
        obtain ⟨v, _, a, ha, _⟩ := he.at_ i _ hσ
        have or := hs.ob _ a _ ha ho
        unfold lockO at h1
        split at h1
        · rename_i kvs
          cases h1
          obtain ⟨es, q1, q2⟩ := hs.dk ha ho
          have nl : notLk S[n]? := by rw [ho]; trivial
          refine ⟨a, .dK es, trivial, q1, trivial, ha, or, fun H2 φ2 k e => .dk' k (q2.mono e), fun od => ?_⟩
          have ex := Ext.wr (o := .frz od (.dK es)) hs ha nl
          exact ⟨ex, hs.wr ha nl ⟨es, ⟨od, upd_same⟩, (q2.mono ex).to.1, (q2.mono ex).to.2⟩⟩
        · rename_i kvs
          cases h1
          obtain ⟨es, q1, q2⟩ := hs.dt ha ho
          have nl : notLk S[n]? := by rw [ho]; trivial
          refine ⟨a, .dT es, trivial, q1, trivial, ha, or, fun H2 φ2 k e => .dt' k (q2.mono e), fun od => ?_⟩
          have ex := Ext.wr (o := .frz od (.dT es)) hs ha nl
          exact ⟨ex, hs.wr ha nl ⟨es, ⟨od, upd_same⟩, (q2.mono ex).to.1, (q2.mono ex).to.2⟩⟩
        · cases h1
      · cases hm
    · cases h
  · cases h
def dLockN (i : Nat) (d : DN) : DN := fun σ S => match lockS σ i S with
  | some (n, ob, S1) => match d σ S1 with
    | some (.ok xs S2) => some (.ok xs (S2.set n ob))
    | _ => none
  | none => none
theorem n_lock (i : Nat) {d : DN} (h : SN X E e d) : SN X E e (dLockN i d) := by
  refine PEw (pe_lock h) fun σV H Q q => ?_
  obtain ⟨φ, σ, S, r, hs, he, hd, hq⟩ := q
  unfold dLockN at hd
  split at hd
  · rename_i n ob S1 hl
    obtain ⟨a, u, hu, h0, mu, ha, or, back, lk⟩ := lock_of hs he hl
    refine ⟨a, u, h0, mu, fun od => ?_⟩
    obtain ⟨ex, s1⟩ := lk od
    split at hd
    · rename_i xs S2 hx
      cases hd
      refine ⟨φ, σ, S1, .ok xs S2, s1, he.mono ex, hx, fun φ2 H2 p vs e2 s2 hp x2 => ?_⟩
      have hfr : H2 a = some (.frz od u) := e2.frz a od u upd_same
      have ne : a ≠ p := by rintro rfl; rw [hp] at hfr; cases hfr
      have eu := Ext.un hu h0 (List.mem_of_getElem? ha) e2
      have ha2 : φ2.l[n]? = some a := by
        obtain ⟨t, ht⟩ := e2.pre
        rw [← ht, List.getElem?_append_left (List.getElem?_eq_some_iff.mp ha).1]; exact ha
      refine ⟨by rw [upd_ne ne]; exact hfr, ?_⟩
      have cm : upd (upd H2 p (.lst vs)) a u = upd (upd H2 a u) p (.lst vs) := by
        funext b
        unfold upd
        by_cases e1 : b = a
        · subst e1; simp [ne]
        · simp [e1]
      rw [cm]
      refine hq φ2 _ p vs eu (SR.un hu hfr s2 ha2 (back _ _ upd_same eu)) ((upd_ne ne.symm).trans hp) ?_
      exact RDs.map (fun _ _ q => fl_un hu hfr q) (fun _ _ q => tp_un hu hfr q) _ _ x2
    · cases hd
  · cases hd
def sLock (i : Nat) (d : DS) : DS := fun σ S => match lockS σ i S with
  | some (n, ob, S1) => match d σ S1 with
    | some (.nx σ2 S2) => some (.nx σ2 (S2.set n ob))
    | some (.bk σ2 S2) => some (.bk σ2 (S2.set n ob))
    | some (.ct σ2 S2) => some (.ct σ2 (S2.set n ob))
    | some (.rt w S2) => some (.rt w (S2.set n ob))
    | _ => none
  | none => none
theorem ER.map {K : PySem.W.Frag} {H H' : Hp} {φ : Fi} {mg : Str → Option Value} (k : ∀ b vs, FL H φ b vs → FL H' φ b vs) (t : ∀ b vs, TP K H b vs → TP K H' b vs) (z : ∀ b es, H b = some (.xd es) → H' b = some (.xd es)) {σV : L2.St} {σ : En} (h : ER K H φ mg σV σ) : ER K H' φ mg σV σ :=
  ⟨h.len, fun i w q => let ⟨v, h1, h2⟩ := h.at_ i w q; ⟨v, h1, RW.map k t z h2⟩⟩
theorem s_lock (i : Nat) {d : DS} (h : SS X E st d) : SS X E st (sLock i d) := by
  refine PSw (ps_lock h) fun D σV H q => ?_
  obtain ⟨φ, σ, S, r, hs, he, hd, hq⟩ := q
  unfold sLock at hd
  split at hd
  · rename_i n ob S1 hl
    obtain ⟨a, u, hu, h0, mu, ha, or, back, lk⟩ := lock_of hs he hl
    refine ⟨a, u, h0, mu, fun od => ?_⟩
    obtain ⟨ex, s1⟩ := lk od
    have fin : ∀ {φ2 : Fi} {H2 : Hp} {S2 : So}, Ext φ (upd H a (.frz od u)) φ2 H2 → SR X.K H2 φ2 S2 → H2 a = some (.frz od u) ∧ Ext φ H φ2 (upd H2 a u) ∧ SR X.K (upd H2 a u) φ2 (S2.set n ob) := fun {φ2 H2 S2} e2 s2 => by
      have hfr : H2 a = some (.frz od u) := e2.frz a od u upd_same
      have eu := Ext.un hu h0 (List.mem_of_getElem? ha) e2
      have ha2 : φ2.l[n]? = some a := by
        obtain ⟨t, ht⟩ := e2.pre
        rw [← ht, List.getElem?_append_left (List.getElem?_eq_some_iff.mp ha).1]; exact ha
      exact ⟨hfr, eu, SR.un hu hfr s2 ha2 (back _ _ upd_same eu)⟩
    match hx : d σ S1, hd with
    | none, hd => cases hd
    | some (.xc _ _ _), hd => cases hd
    | some (.nx σ2 S2), hd =>
      cases hd
      refine ⟨φ, σ, S1, _, s1, he.mono ex, hx, fun φ2 H2 σV2 e2 s2 r2 => ?_⟩
      obtain ⟨f1, f2, f3⟩ := fin e2 s2
      exact ⟨f1, hq φ2 _ σV2 f2 f3 (r2.map (fun _ _ q => fl_un hu f1 q) (fun _ _ q => tp_un hu f1 q) fun _ _ q => xd_un hu f1 q)⟩
    | some (.bk σ2 S2), hd =>
      cases hd
      refine ⟨φ, σ, S1, _, s1, he.mono ex, hx, fun φ2 H2 σV2 e2 s2 r2 => ?_⟩
      obtain ⟨f1, f2, f3⟩ := fin e2 s2
      exact ⟨f1, hq φ2 _ σV2 f2 f3 (r2.map (fun _ _ q => fl_un hu f1 q) (fun _ _ q => tp_un hu f1 q) fun _ _ q => xd_un hu f1 q)⟩
    | some (.ct σ2 S2), hd =>
      cases hd
      refine ⟨φ, σ, S1, _, s1, he.mono ex, hx, fun φ2 H2 σV2 e2 s2 r2 => ?_⟩
      obtain ⟨f1, f2, f3⟩ := fin e2 s2
      exact ⟨f1, hq φ2 _ σV2 f2 f3 (r2.map (fun _ _ q => fl_un hu f1 q) (fun _ _ q => tp_un hu f1 q) fun _ _ q => xd_un hu f1 q)⟩
    | some (.rt w S2), hd =>
      cases hd
      refine ⟨φ, σ, S1, _, s1, he.mono ex, hx, fun φ2 H2 v e2 s2 r2 => ?_⟩
      obtain ⟨f1, f2, f3⟩ := fin e2 s2
      exact ⟨f1, hq φ2 _ v f2 f3 (RW.map (fun _ _ q => fl_un hu f1 q) (fun _ _ q => tp_un hu f1 q) (fun _ _ q => xd_un hu f1 q) r2)⟩
  · cases hd
/-! ### a locked dict is walked -/
def lkKeys (S : So) : W → Option (List PyData)
  | .r n => match S[n]? with
    | some (.lkK kvs) => some (kvs.map fun p => keyD p.1)
    | some (.lkT kvs) => some (keysOf kvs)
    | _ => none
  | _ => none
def dKeys (d : DE) : DI := fun σ S => bnd (d σ S) fun w S1 => giv ((lkKeys S1 w).bind fun xs => if small xs.length = true then some (xs, none) else none) S1
theorem itkt_it {K : PySem.W.Frag} {d : Addr} {o : Obj} {es : List (List Key × V)} {φ : Fi} {H : Hp} (h : H d = some (.frz o (.dT es))) : ItD K (Itkt d o es) (es.map fun p => tupOf p.1) none φ H where
  go := fun φ2 H2 S i x e s _ hi => by
    rw [List.getElem?_map] at hi
    obtain ⟨q, h1, h2⟩ := Option.map_eq_some_iff.mp hi
    refine ⟨⟨e.frz _ _ _ h, (List.getElem?_eq_some_iff.mp h1).1⟩, fun v H' hy => ?_⟩
    obtain ⟨rfl, k, u, b, g1, rfl, g2⟩ := hy
    rw [h1] at g1; cases g1
    subst h2
    exact ⟨.refl, s, b, _, rfl, g2, keysD_rd k⟩
  stop := fun φ2 H2 S e s _ => ⟨e.frz _ _ _ h, by rw [List.length_map]; exact Nat.le_refl _⟩
theorem itk_it {K : PySem.W.Frag} {d : Addr} {o : Obj} {es : List (Key × V)} {φ : Fi} {H : Hp} (h : H d = some (.frz o (.dK es))) : ItD K (Itk d o es) (es.map fun p => keyD p.1) none φ H where
  go := fun φ2 H2 S i x e s _ hi => by
    rw [List.getElem?_map] at hi
    obtain ⟨q, h1, h2⟩ := Option.map_eq_some_iff.mp hi
    refine ⟨⟨e.frz _ _ _ h, (List.getElem?_eq_some_iff.mp h1).1⟩, fun v H' hy => ?_⟩
    obtain ⟨rfl, k, u, g1, rfl⟩ := hy
    rw [h1] at g1; cases g1
    subst h2
    exact ⟨.refl, s, keyD_rd k⟩
  stop := fun φ2 H2 S e s _ => ⟨e.frz _ _ _ h, by rw [List.length_map]; exact Nat.le_refl _⟩
theorem i_keys {tg : Expr} {d : DE} (h : SE X E e d) : SI X E tg e (dKeys d) := by
  refine PIw (pi_keys h) fun σV H R q => ?_
  obtain ⟨φ, σ, S, r', hs, hen, hd, hq⟩ := q
  unfold dKeys at hd
  match ha : d σ S, hd with
  | none, hd => cases hd
  | some (.xc x S1), hd => cases hd; exact ⟨φ, σ, S, .xc x S1, hs, hen, ha, hq⟩
  | some (.ok w S1), hd =>
    refine ⟨φ, σ, S, .ok w S1, hs, hen, ha, fun φ1 H1 v e1 s1 x1 => ?_⟩
    rw [bnd_ok] at hd
    match hg : (lkKeys S1 w).bind (fun xs => if small xs.length = true then some (xs, (none : Option Nat)) else none), hd with
    | none, hd => cases hd
    | some z, hd =>
      cases hd
      obtain ⟨xs, g1, g2⟩ := Option.bind_eq_some_iff.mp hg
      split at g2
      · rename_i hz
        cases g2
        unfold lkKeys at g1
        split at g1
        · rename_i n
          obtain ⟨c, hc, rfl⟩ := x1
          split at g1
          · rename_i kvs hS
            cases g1
            obtain ⟨es, ⟨od, q1⟩, q2, q3⟩ := s1.ob n c _ hc hS
            have eq : (es.map fun p => keyD p.1) = kvs.map fun p => keyD p.1 := by
              have := congrArg (List.map keyD) q2
              rw [List.map_map, List.map_map] at this
              exact this
            refine ⟨c, od, rfl, .inl ⟨es, q1, hq φ1 H1 _ e1 s1 ?_ (small_le hz)⟩⟩
            have it := itk_it (K := X.K) (φ := φ1) q1
            rw [eq] at it
            exact it
          · rename_i kvs hS
            cases g1
            obtain ⟨es, ⟨od, q1⟩, q2, q3⟩ := s1.ob n c _ hc hS
            have eq : (es.map fun p => tupOf p.1) = keysOf kvs := by
              have := congrArg (List.map tupOf) q2
              rw [List.map_map, List.map_map] at this
              exact this
            refine ⟨c, od, rfl, .inr ⟨es, q1, hq φ1 H1 _ e1 s1 ?_ (small_le hz)⟩⟩
            have it := itkt_it (K := X.K) (φ := φ1) q1
            rw [eq] at it
            exact it
          · cases g1
        · cases g1
      · cases g2
/-! ### sorted(d), min(d) of a dict with tuples for keys; len(set(xs)) of texts -/
def dtW (S : So) : W → Option (List (List Key × PyData))
  | .r n => match S[n]? with
    | some (.dt kvs) => some kvs
    | _ => none
  | _ => none
theorem dtW_of {K : PySem.W.Frag} {mg : Str → Option Value} {H : Hp} {φ : Fi} {S : So} {w : W} {v : V} {kvs : List (List Key × PyData)} (hs : SR K H φ S) (hx : RW K H φ mg w v) (h : dtW S w = some kvs) : ∃ a es, v = .ref a ∧ H a = some (.dT es) ∧ KR K H φ kvs es ∧ (es.map fun p => tupOf p.1) = keysOf kvs := by
  unfold dtW at h
  split at h
  · obtain ⟨a, ha, rfl⟩ := hx
    split at h
    · rename_i kvs' hS
      cases h
      obtain ⟨es, q1, q2⟩ := hs.dt ha hS
      refine ⟨a, es, rfl, q1, q2, ?_⟩
      have := congrArg (List.map tupOf) q2.to.1
      rw [List.map_map, List.map_map] at this
      exact this
    · cases h
  · cases h
def sortDG : So → List W → Option (List PyData)
  | S, [w] => (dtW S w).bind fun kvs => if sortOk (keysOf kvs) = true then some (srtD (keysOf kvs)) else none
  | _, _ => none
theorem b_sortedD (hu : X.A.units + 64 < cLine) (hc : X.calm = true := by rfl) : CallR X (.builtin "sorted") (rCN X.K X.mg sortDG) :=
  callw (call_sortedDT hc hu) fun vs H Q ⟨φ, S, ws, xs, hs, hx, hg, hq⟩ => by
    unfold sortDG at hg
    split at hg
    · obtain ⟨v, rfl, hv⟩ := one_of hx
      obtain ⟨kvs, h1, h2⟩ := Option.bind_eq_some_iff.mp hg
      split at h2
      · rename_i ok
        cases h2
        obtain ⟨a, es, rfl, q1, q2, q3⟩ := dtW_of hs hv h1
        refine ⟨a, es, rfl, q1, by rw [q3]; exact ok, fun p bs hp ik => ?_⟩
        have rd := keys_rd (K := X.K) (φ := φ) ik
        rw [q3] at rd
        have := hq φ H p _ .refl hs hp (srt_rd rd)
        rw [q3]
        exact this
      · cases h2
    · cases hg
def minDG : So → List W → Option W
  | S, [w] => (dtW S w).bind fun kvs => match keysOf kvs with
    | x :: r => if (likeAll (x :: r) && decide (PyData.depthAll (x :: r) ≤ 60)) = true then some (.d (PySem.W.minD x r)) else none
    | [] => none
  | _, _ => none
theorem b_minD (hu : X.A.units + 64 < cLine) (hc : X.calm = true := by rfl) : CallR X (.builtin "min") (rC X.K X.mg minDG) :=
  callw (call_minDT hc hu) fun vs H Q ⟨φ, S, ws, w, hs, hx, hg, hq⟩ => by
    unfold minDG at hg
    split at hg
    · obtain ⟨v, rfl, hv⟩ := one_of hx
      obtain ⟨kvs, h1, h2⟩ := Option.bind_eq_some_iff.mp hg
      split at h2
      · rename_i x r hk
        split at h2
        · rename_i ok
          rw [Bool.and_eq_true] at ok
          cases h2
          obtain ⟨a, es, rfl, q1, q2, q3⟩ := dtW_of hs hv h1
          refine ⟨a, es, x, r, rfl, q1, q3.trans hk, ok.1, of_decide_eq_true ok.2, fun b k hb hk2 => hq φ H _ .refl hs ?_⟩
          rw [← hk2]
          exact ⟨b, _, rfl, hb, keysD_rd k⟩
        · cases h2
      · cases h2
    · cases hg
def txts : List PyData → Option (List Str)
  | [] => some []
  | .str x :: r => (txts r).map (x :: ·)
  | _ :: _ => none
theorem txts_of {K : PySem.W.Frag} {H : Hp} {φ : Fi} : ∀ {ds : List PyData} {vs : List V} {xs : List Str}, RDs K H φ ds vs → txts ds = some xs → vs = xs.map V.str
  | [], _, _, h, e => by cases e; exact h
  | .str b :: ds, _, _, ⟨v, r, e1, h1, h2⟩, e => by
    obtain ⟨cs, e2, e3⟩ := Option.map_eq_some_iff.mp e
    subst e3; subst e1
    rw [txts_of h2 e2, show v = .str b from h1]; rfl
  | .none :: _, _, _, _, e => by cases e
  | .int _ :: _, _, _, _, e => by cases e
  | .bool _ :: _, _, _, _, e => by cases e
  | .list _ :: _, _, _, _, e => by cases e
  | .tuple _ :: _, _, _, _, e => by cases e
  | .dict _ :: _, _, _, _, e => by cases e
def setLen (S : So) (w : W) : Option W := (lstW S w).bind fun ds => (txts ds).bind fun xs => if xs.length < 4000 then some (.d (.int ((once xs).length : Nat))) else none
def dLenSet (d : DE) : DE := fun σ S => bnd (d σ S) fun w S1 => giv (setLen S1 w) S1
theorem e_lenSet {a : Expr} {da : DE} {p2 q : Pos} (hm : X.mg "len" = none) (hm2 : X.mg "set" = none) (ha : SE X E a da) (hc : X.calm = true := by rfl) (hg : Gl X "len" := by rfl) (hg2 : Gl X "set" := by rfl)
    (na : starEach [a] X.env = (false, eval a X.env) :: starEach [] X.env := by rfl) : SE X E (.Call (.Name "len" p) [.Call (.Name "set" p2) [a] [] q] [] pos) (dLenSet da) := by
  refine ⟨fun pins s σ H Q I h => ?_⟩
  refine Call_ (ld_blt I hg hm boot_len (PyProof.Rows.callWith_builtin1 (PyProof.Rows.args_cons ?_ rfl) rfl rfl))
  refine Call_ (ld_blt I hg2 hm2 boot_set (PyProof.Rows.callWith_type1 (PyProof.Rows.args_cons ?_ na) na rfl))
  obtain ⟨φ, σ', S, r', hs, he, hd, hq⟩ := h
  have run := ha.run pins s σ H
  unfold dLenSet at hd
  match hda : da σ' S, hd with
  | none, hd => cases hd
  | some (.xc x S1), hd => cases hd; exact thn (run (fun _ _ => False) I ⟨φ, σ', S, .xc x S1, hs, he, hda, hq⟩) fun v s1 ⟨x, H1, I1, r1, q1⟩ => q1.elim
  | some (.ok w S1), hd =>
    refine thn (run (fun x H1 => ∃ φ1, Ext φ H φ1 H1 ∧ SR X.K H1 φ1 S1 ∧ RW X.K H1 φ1 X.mg w x) I ⟨φ, σ', S, .ok w S1, hs, he, hda, fun φ1 H1 v e1 s1 x1 => ⟨φ1, e1, s1, x1⟩⟩) fun v s1 ⟨x, H1, I1, r1, φ1, e1, s1, x1⟩ => PyProof.Rows.args_nil ?_
    rw [bnd_ok] at hd
    match hg : setLen S1 w, hd with
    | none, hd => cases hd
    | some u, hd =>
      cases hd
      obtain ⟨ds, g1, g2⟩ := Option.bind_eq_some_iff.mp hg
      obtain ⟨xs, g3, g4⟩ := Option.bind_eq_some_iff.mp g2
      split at g4
      · rename_i hz
        cases g4
        obtain ⟨l, vs, rfl, f1, q1⟩ := seqL_of s1 x1 (lstW_of g1)
        have e5 := txts_of q1 g3
        subst e5
        cases r1
        obtain ⟨its, rv, pl, _⟩ := I1.list f1
        refine set_texts (I1.ok.hd hc) pl.isList (by simpa using strsAre_of rv) (by unfold scanBound; omega) fun h2 tk hS hk => PyProof.Rows.args_nil ?_
        obtain ⟨o, es, ep, t, ho, hex, hdd, _, _, _, hf, hn⟩ := hS
        have le := once_le xs []
        have le2 : (once xs).length ≤ xs.length := by unfold once; simpa using le
        have I2 : Inv X pins σ H1 _ := I1.kept (t' := tk) fun b o e => hk b o (Heap.lt_size e) e
        refine call_len_set ho hex hdd hf (by rw [hn]; omega) ⟨.int ((once xs).length : Nat), H1, I2.tok _, ⟨_, by rw [hn]⟩, hq φ1 H1 _ e1 s1 rfl⟩
      · cases g4
end
end CL
end

section
/-! part CLCal -/
set_option Elab.async false
set_option linter.all false
set_option maxRecDepth 100000
/-! CLCal: defs by name, for the printer; texts walked too. -/
namespace CL
open PySem PySem.Spec PyProof.Rows L2

theorem hu5_of {A : Around} {k : Nat} (hr : Room k A) : A.units + 65 < cLine := by have := hr.un; omega
/-- a def of the module that may be called by its name -/
structure CalG (P : Program) (w : World) (K : PySem.W.Frag) (mg : Str → Option Value) (base : Heap) (k : Nat) (x : Str) (F : DF) : Prop where
  ex : ∃ (f : Addr) (fd : FuncData) (ps : List Str), FnG P w K mg base CX0 k f fd ps (spF K mg F) ∧ mg x = some (.ref f) ∧ PySem.W.keepIn K (.ref f) = true ∧ Binds K fd ps [] ∧ ∃ (oc : Value) (od : Option Addr) (osl : Array (Option Value)), K.lookup f = some ⟨oc, od, .func fd, osl⟩ ∧ fd.params.args.map (·.arg) = ps
/-- a def as the module has it -/
structure DefG (K : PySem.W.Frag) (mg : Str → Option Value) (x : Str) (st : Stmt) (ps : List Str) : Prop where
  ex : ∃ (f : Addr) (fd : FuncData), Fun K x x st f fd ∧ mg x = some (.ref f) ∧ Binds K fd ps [] ∧ (defArgs st).args.map (·.arg) = ps
theorem _root_.L2.Fun.at_ {K : PySem.W.Frag} {x q : Str} {st : Stmt} {f : Addr} {fd : FuncData} (F : Fun K x q st f fd) {ps : List Str} (h : (defArgs st).args.map (·.arg) = ps) : ∃ (oc : Value) (od : Option Addr) (osl : Array (Option Value)), K.lookup f = some ⟨oc, od, .func fd, osl⟩ ∧ fd.params.args.map (·.arg) = ps := by
  obtain ⟨oc, od, kV, doc, pm, an, cdv, ct, osl, rfl, lk, _⟩ := F.ex
  exact ⟨oc, od, osl, lk, h⟩
theorem calG {P : Program} {w : World} {K : PySem.W.Frag} {mg : Str → Option Value} {base : Heap} {x : Str} {st : Stmt} {N ps : List Str} {k : Nat} {G : Nat → W → So → M W} {d : DS} {F : DF} (D : DefG K mg x st ps) (hG : GcOk G) (Sc : FnScope N ps (defScope st))
    (hbody : ∀ (f : Addr) (cdv : Value) (A : Around) (outer : List Env) (s : Shared) (H : Hp) (E : XK), A.guards = some [] → Room k (A.deeper (envOfC x (defScope st) s.heap.objs.size f cdv)) → SSs (cxOf CX0 P w K mg base N x (defScope st) f cdv A outer s H E).nox (fun _ => E) (defBody st) d)
    (hF : F = fnB G ps.length N.length d := by rfl) : CalG P w K mg base (k + 1) x F := by
  subst hF
  obtain ⟨f, fd, h1, h2, h3, h4⟩ := D.ex
  exact ⟨f, fd, ps, mk_fn hG h1 Sc (hbody f), h2, h1.kp, h3, h1.at_ h4⟩
def noF : DF := fun _ _ => none
theorem calG_none {P : Program} {w : World} {K : PySem.W.Frag} {mg : Str → Option Value} {base : Heap} {x : Str} {st : Stmt} {ps : List Str} {k : Nat} (D : DefG K mg x st ps) : CalG P w K mg base k x noF := by
  obtain ⟨f, fd, h1, h2, h3, h4⟩ := D.ex
  refine ⟨f, fd, ps, ⟨fun vs H Q E h => ?_, fun A outer s H args us vs Q E _ _ _ _ _ h => ?_⟩, h2, h1.kp, h3, h1.at_ h4⟩
  · obtain ⟨_, _, _, _, _, _, h, _⟩ := h; cases h
  · obtain ⟨_, _, _, _, _, _, h, _⟩ := h; cases h
theorem CalG.mono {P : Program} {w : World} {K : PySem.W.Frag} {mg : Str → Option Value} {base : Heap} {x : Str} {j k : Nat} {F : DF} (c : CalG P w K mg base j x F) (h : j ≤ k) : CalG P w K mg base k x F := by
  obtain ⟨f, fd, ps, h1, h2⟩ := c.ex
  exact ⟨f, fd, ps, h1.mono h, h2⟩
section
variable {X : Cx} {E : EK} {pos p : Pos} {a : Expr} {es : List Expr} {das : DA} {x : Str} {F : DF} {j k : Nat}
theorem e_call (c : CalG X.prog X.w X.K X.mg X.base k x F) (hgd : X.A.guards = some []) (hr : Room j X.A) (ha : SA X E (a :: es) das) (hk : k ≤ j := by decide) (hg : Gl X x := by rfl) (hdb : (x == ("__debug__" : Str)) = false := by decide)
    (he : starEach (a :: es) X.env = (false, eval a X.env) :: starEach es X.env := by rfl) (hpl : (backTo pos (starEach es X.env)).any (·.1) = false := by rfl) : SE X E (.Call (.Name x p) (a :: es) [] pos) (dFn F das) := by
  obtain ⟨f, fd, ps, h1, h2, h3, h4, _⟩ := c.ex
  exact e_fn h1 hgd (hr.mono hk) h2 h3 h4 pa0 ha hg hdb he hpl
theorem e_call0 (c : CalG X.prog X.w X.K X.mg X.base k x F) (hgd : X.A.guards = some []) (hr : Room j X.A) (hk : k ≤ j := by decide) (hg : Gl X x := by rfl) (hdb : (x == ("__debug__" : Str)) = false := by decide) : SE X E (.Call (.Name x p) [] [] pos) (dFn F dNil) := by
  obtain ⟨f, fd, ps, h1, h2, h3, h4, _⟩ := c.ex
  exact e_fn0 h1 hgd (hr.mono hk) h2 h3 h4 pa0 hg hdb
theorem e_defG {st : Stmt} {ps : List Str} (D : DefG X.K X.mg x st ps) (hg : Gl X x := by rfl) (hd : (x == ("__debug__" : Str)) = false := by decide) : SE X E (.Name x p) (dG x) := by
  obtain ⟨f, fd, h1, h2, h3, _⟩ := D.ex
  exact e_def h2 hg hd
/-- a table of defs -/
def tabF (l : List (Str × DF)) (x : Str) : Option DF := l.lookup x
theorem fun_name {K : PySem.W.Frag} {x y q q' : Str} {st st' : Stmt} {f : Addr} {fd fd' : FuncData} (h : Fun K x q st f fd) (h' : Fun K y q' st' f fd') : x = y := by
  obtain ⟨oc, od, kV, doc, pm, an, cdv, ct, osl, rfl, lk, _⟩ := h.ex
  obtain ⟨oc', od', kV', doc', pm', an', cdv', ct', osl', rfl, lk', _⟩ := h'.ex
  rw [lk] at lk'
  have e := Option.some.inj lk'
  injection e with _ _ e _
  injection e with e
  exact congrArg FuncData.name e
theorem look_mem {β : Type} : ∀ {l : List (Str × β)} {x : Str} {b : β}, l.lookup x = some b → (x, b) ∈ l
  | (y, c) :: l, x, b, h => by
    rw [List.lookup_cons] at h
    by_cases e : (x == y) = true
    · rw [e] at h; cases h; rw [eq_of_beq e]; exact List.mem_cons_self
    · rw [Bool.not_eq_true] at e; rw [e] at h; exact List.mem_cons_of_mem _ (look_mem h)
theorem e_heldT (i : Nat) {l : List (Str × DF)} (hT : ∀ q ∈ l, CalG X.prog X.w X.K X.mg X.base k q.1 q.2) (hD : ∀ q ∈ l, ∃ st ps, DefG X.K X.mg q.1 st ps) (hgd : X.A.guards = some []) (hr : Room j X.A) (ha : SA X E (a :: es) das) (hk : k ≤ j := by decide)
    (hN : X.N[i]? = some x := by rfl) (hv : Vis X.env.scope x := by first | exact Or.inl rfl | exact Or.inr (Or.inl rfl) | exact Or.inr (Or.inr rfl)) (hdb : (x == ("__debug__" : Str)) = false := by decide) (hcd : (x == ("__classdict__" : Str)) = false := by decide)
    (he : starEach (a :: es) X.env = (false, eval a X.env) :: starEach es X.env := by rfl) (hpl : (backTo pos (starEach es X.env)).any (·.1) = false := by rfl) : SE X E (.Call (.Name x p) (a :: es) [] pos) (dHeld i (tabF l) das) := by
  refine e_held (CX := CX0) (k := k) i (fun y F h => ?_) (fun y z f hy hz my mz => ?_) hgd (hr.mono hk) pa0 ha hN hv hdb hcd he hpl
  · obtain ⟨f, fd, ps, h1, h2, h3, h4, _⟩ := (hT _ (look_mem h)).ex
    exact ⟨f, h2, ⟨fd, ps, h1, h3, h4⟩⟩
  · obtain ⟨b1, h1⟩ := Option.isSome_iff_exists.mp hy
    obtain ⟨b2, h2⟩ := Option.isSome_iff_exists.mp hz
    obtain ⟨_, _, f1, _, F1, m1, _, _⟩ := hD _ (look_mem h1)
    obtain ⟨_, _, f2, _, F2, m2, _, _⟩ := hD _ (look_mem h2)
    rw [my] at m1; rw [mz] at m2
    cases m1; cases m2
    exact fun_name F1 F2
/-! ### a text is walked -/
def signs (z : Str) : List PyData := z.cps.toList.map fun c => .str ⟨#[c]⟩
def strW : W → Option Str
  | .d (.str z) => some z
  | _ => none
def dSigns (d : DE) : DI := fun σ S => bnd (d σ S) fun w S1 => giv ((strW w).bind fun z => if small z.length = true then some (signs z, none) else none) S1
theorem its_it {K : PySem.W.Frag} {z : Str} {φ : Fi} {H : Hp} : ItD K (Its z) (signs z) none φ H where
  go := fun φ2 H2 S i d e s _ hi => by
    unfold signs at hi
    rw [List.getElem?_map] at hi
    obtain ⟨c, h1, h2⟩ := Option.map_eq_some_iff.mp hi
    subst h2
    have hlt := (List.getElem?_eq_some_iff.mp h1).1
    refine ⟨show i < z.cps.size by simpa using hlt, fun x H' ⟨e1, c', h3, h4⟩ => ?_⟩
    subst e1; subst h4
    have h1' : z.cps[i]? = some c := by simpa using h1
    rw [h1'] at h3; cases h3
    exact ⟨.refl, s, rfl⟩
  stop := fun φ2 H2 S e s _ => by show z.cps.size ≤ _; simp [signs]
theorem i_str {tg : Expr} {e : Expr} {d : DE} (h : SE X E e d) : SI X E tg e (dSigns d) := by
  refine PIw (pi_str h) fun σV H R q => ?_
  obtain ⟨φ, σ, S, r', hs, hen, hd, hq⟩ := q
  unfold dSigns at hd
  match ha : d σ S, hd with
  | none, hd => cases hd
  | some (.xc x S1), hd => cases hd; exact ⟨φ, σ, S, .xc x S1, hs, hen, ha, hq⟩
  | some (.ok w S1), hd =>
    refine ⟨φ, σ, S, .ok w S1, hs, hen, ha, fun φ1 H1 v e1 s1 x1 => ?_⟩
    rw [bnd_ok] at hd
    match hg : (strW w).bind (fun z => if small z.length = true then some (signs z, (none : Option Nat)) else none), hd with
    | none, hd => cases hd
    | some q, hd =>
      cases hd
      obtain ⟨z, g1, g2⟩ := Option.bind_eq_some_iff.mp hg
      split at g2
      · rename_i hz
        cases g2
        unfold strW at g1
        split at g1
        · cases g1
          cases x1
          exact ⟨z, rfl, hq φ1 H1 _ e1 s1 its_it (by simp only [signs, List.length_map]; exact small_le hz)⟩
        · cases g1
      · cases g2
end
end CL
end

section
/-! part CLAny -/
set_option Elab.async false
set_option linter.all false
set_option maxRecDepth 100000
/-! CLAny: rules that look at the value: slices, what is walked, constants of the module. -/
namespace CL
section
open PySem in theorem bo_len : bootBuiltins "len" = some (.builtin "len") := by decide +kernel
open PySem in theorem bo_all : bootBuiltins "all" = some (.builtin "all") := by decide +kernel
open PySem in theorem bo_repr : bootBuiltins "repr" = some (.builtin "repr") := by decide +kernel
open PySem in theorem bo_sorted : bootBuiltins "sorted" = some (.builtin "sorted") := by decide +kernel
open PySem in theorem bo_min : bootBuiltins "min" = some (.builtin "min") := by decide +kernel
open PySem in theorem bo_isinstance : bootBuiltins "isinstance" = some (.builtin "isinstance") := by decide +kernel
open PySem in theorem bo_any : bootBuiltins "any" = some (.builtin "any") := by decide +kernel
open PySem in theorem bo_max : bootBuiltins "max" = some (.builtin "max") := by decide +kernel
open PySem in theorem bo_sum : bootBuiltins "sum" = some (.builtin "sum") := by decide +kernel
open PySem in theorem bo_abs : bootBuiltins "abs" = some (.builtin "abs") := by decide +kernel
open PySem in theorem bo_int : bootBuiltins "int" = some (.type "int") := by decide +kernel
open PySem in theorem bo_bool : bootBuiltins "bool" = some (.type "bool") := by decide +kernel
open PySem in theorem bo_str : bootBuiltins "str" = some (.type "str") := by decide +kernel
open PySem in theorem bo_list : bootBuiltins "list" = some (.type "list") := by decide +kernel
open PySem in theorem bo_tuple : bootBuiltins "tuple" = some (.type "tuple") := by decide +kernel
open PySem in theorem bo_set : bootBuiltins "set" = some (.type "set") := by decide +kernel
open PySem in theorem bo_dict : bootBuiltins "dict" = some (.type "dict") := by decide +kernel
open PySem in theorem bo_zip : bootBuiltins "zip" = some (.type "zip") := by decide +kernel
open PySem in theorem bo_range : bootBuiltins "range" = some (.type "range") := by decide +kernel
end
open PySem PySem.Spec PyProof.Rows L2
section
variable {X : Cx} {E : EK} {pos p : Pos} {a b : Expr} {da db : DE}
def cutA (lo hi : Option Int) : PyData → Option PyData
  | .tuple xs => some (.tuple (cutG xs lo hi))
  | .list xs => some (.list (cutG xs lo hi))
  | .str z => if small z.length = true then some (.str (Txt.slice z lo hi)) else none
  | _ => none
def dSlA (a : DE) (l h : DO) : DE := fun σ S => bnd (a σ S) fun w S1 => bnd (l σ S1) fun lo S2 => bnd (h σ S2) fun hi S3 => giv ((rd S3 w).bind fun x => (cutA lo hi x).map W.d) S3
theorem slA_rd {dl dh : DO} (σV : L2.St) (H : Hp) (Q : VK) (h : tE X.K X.mg E (dSlA da dl dh) σV H Q) :
    tSl (fun x lo hi H Q => (rSlA X.K x lo hi H Q ∨ C8.rSlX x lo hi H Q) ∨ rSlL X.K x lo hi H Q) (tE X.K X.mg E da) (tO X.K X.mg E dl) (tO X.K X.mg E dh) σV H Q := by
  obtain ⟨φ, σ, S, r', hs, he, hd, hq⟩ := h
  unfold dSlA at hd
  match ha : da σ S, hd with
  | none, hd => cases hd
  | some (.xc x S1), hd => cases hd; exact ⟨φ, σ, S, .xc x S1, hs, he, ha, hq⟩
  | some (.ok x S1), hd =>
    refine ⟨φ, σ, S, .ok x S1, hs, he, ha, fun φ1 H1 v1 e1 s1 x1 => ?_⟩
    rw [bnd_ok] at hd
    match hb : dl σ S1, hd with
    | none, hd => cases hd
    | some (.xc y S2), hd => cases hd; exact ⟨φ1, σ, S1, .xc y S2, s1, he.mono e1, hb, XR.keep e1 hq⟩
    | some (.ok lo S2), hd =>
      refine ⟨φ1, σ, S1, .ok lo S2, s1, he.mono e1, hb, fun φ2 H2 e2 s2 => ?_⟩
      rw [bnd_ok] at hd
      have e12 := e1.trans e2
      match hc : dh σ S2, hd with
      | none, hd => cases hd
      | some (.xc y S3), hd => cases hd; exact ⟨φ2, σ, S2, .xc y S3, s2, he.mono e12, hc, XR.keep e12 hq⟩
      | some (.ok hi S3), hd =>
        refine ⟨φ2, σ, S2, .ok hi S3, s2, he.mono e12, hc, fun φ3 H3 e3 s3 => ?_⟩
        rw [bnd_ok] at hd
        have e13 := e12.trans e3
        have x3 := (x1.mono e2).mono e3
        match hg : (rd S3 x).bind fun x => (cutA lo hi x).map W.d, hd with
        | none, hd => cases hd
        | some w, hd =>
          cases hd
          obtain ⟨y, h1, h2⟩ := Option.bind_eq_some_iff.mp hg
          obtain ⟨z, h3, h4⟩ := Option.map_eq_some_iff.mp h2
          subst h4
          unfold cutA at h3
          split at h3
          · cases h3
            obtain ⟨l, vs, e5, f1, r1⟩ := tup_of x3 h1
            refine .inl (.inl ⟨l, vs, e5, f1.sq, fun hw => ?_, fun hw p hp => ?_⟩)
            · have e6 := sIx_whole (lo := lo) (hi := hi) r1.length.symm hw
              exact hq φ3 H3 _ e13 s3 ⟨l, vs, rfl, f1, by rw [e6]; exact r1⟩
            · have e := Ext.new (o := .tup (cutV vs lo hi)) hp s3
              exact hq φ3 _ _ (e13.trans e) (s3.new hp) ⟨p, _, rfl, upd_same, RDs.mono e _ _ r1.cutG⟩
          · cases h3
            obtain ⟨l, vs, e5, f1, r1⟩ := seqL_of s3 x3 h1
            refine .inr ⟨l, vs, e5, f1, fun p hp => ?_⟩
            have e := Ext.new (o := .lst (cutV vs lo hi)) hp s3
            exact hq φ3 _ _ (e13.trans e) (s3.new hp) ⟨p, _, rfl, newFL s3 hp, RDs.mono e _ _ r1.cutG⟩
          · split at h3
            · rename_i hz
              cases h3
              exact .inl (.inr ⟨_, str_of x3 h1, small_le hz, hq φ3 H3 _ e13 s3 rfl⟩)
            · cases h3
          · cases h3
theorem e_slA {lo hi : Option Expr} {dl dh : DO} {p2 : Pos} (ha : SE X E a da) (hl : SO X E lo dl) (hh : SO X E hi dh) : SE X E (.Subscript a (.Slice lo hi none p2) pos) (dSlA da dl dh) :=
  PEw (pe_slice ((sl_tupA.or C8.sl_txt).or sl_list) ha hl hh) slA_rd
theorem pi_any {tg l : Expr} {tl : TE} (hl : PE X l tl) : PI X tg l (fun σ H R => tl σ H fun x H1 => (∃ z, x = .str z ∧ R (Its z) H1) ∨ ∃ a xs, x = .ref a ∧
    ((SqL X.K H1 a xs ∧ (xs.length ≤ sizeLine → R (Itl X.K a) H1)) ∨ (SqT X.K H1 a xs ∧ (xs.length ≤ sizeLine → R (Itt X.K a) H1)))) := by
  refine ⟨fun pins s σ H R I h => thn (hl.run pins s σ H _ I h) fun v s1 ⟨x, H1, I1, r1, q1⟩ => ?_⟩
  rcases q1 with ⟨z, e, q⟩ | ⟨a, xs, e, q⟩
  · subst e
    obtain ⟨t, rfl⟩ := r1
    cases hz : z.cps.all (· < 128) with
    | false => exact wpAny_pyIter_wide hz (pi_one (tk := s1.toks) I1 _ (turn_str _ z t "str_iterator" (.inr rfl)) ⟨_, Heap.get?_push_size _ rfl, rfl, rfl⟩ q)
    | true => exact wpAny_pyIter_ascii hz (pi_one (tk := s1.toks) I1 _ (turn_str _ z t "str_ascii_iterator" (.inl rfl)) ⟨_, Heap.get?_push_size _ rfl, rfl, rfl⟩ q)
  · subst e
    cases r1
    rcases q with ⟨hq, q⟩ | ⟨hq, q⟩
    · obtain ⟨its, rv, pl, hz⟩ := I1.list hq
      exact wpAny_pyIter_list pl.isList (pi_one (tk := s1.toks) I1 _ (turn_list a _) ⟨_, Heap.get?_push_size _ rfl, rfl, rfl⟩ (q hz))
    · obtain ⟨its, rv, pl, hz⟩ := I1.tuple hq
      exact wpAny_pyIter_tuple (show s1.heap.IsTuple a its.toArray from pl) (pi_one (tk := s1.toks) I1 _ (turn_tuple a _) ⟨_, Heap.get?_push_size _ rfl, rfl, rfl⟩ (q hz))
/-- the items of what is walked -/
def anyW (S : So) : W → Option (List PyData × Option Nat)
  | .d (.list xs) => some (xs, none)
  | .d (.tuple xs) => some (xs, none)
  | .d (.str z) => if small z.length = true then some (signs z, none) else none
  | .r n => match S[n]? with
    | some (.lst xs) => some (xs, some n)
    | _ => none
  | _ => none
def dAny (d : DE) : DI := fun σ S => bnd (d σ S) fun w S1 => giv (anyW S1 w) S1
theorem i_any {tg e : Expr} {d : DE} (he : SE X E e d) : SI X E tg e (dAny d) := by
  refine PIw (pi_any he) fun σV H R q => ?_
  obtain ⟨φ, σ, S, r', hs, hen, hd, hq⟩ := q
  unfold dAny at hd
  match ha : d σ S, hd with
  | none, hd => cases hd
  | some (.xc x S1), hd => cases hd; exact ⟨φ, σ, S, .xc x S1, hs, hen, ha, hq⟩
  | some (.ok w S1), hd =>
    refine ⟨φ, σ, S, .ok w S1, hs, hen, ha, fun φ1 H1 v e1 s1 x1 => ?_⟩
    rw [bnd_ok] at hd
    match hg : anyW S1 w, hd with
    | none, hd => cases hd
    | some q, hd =>
      cases hd
      unfold anyW at hg
      split at hg
      · cases hg
        obtain ⟨c, vs, rfl, h1, h2⟩ := x1
        exact .inr ⟨c, vs, rfl, .inl ⟨h1.sq, fun hz => hq φ1 H1 _ e1 s1 (itl_it h1 h2) (by rw [← h2.length]; exact hz)⟩⟩
      · cases hg
        obtain ⟨c, vs, rfl, h1, h2⟩ := x1
        exact .inr ⟨c, vs, rfl, .inr ⟨h1.sq, fun hz => hq φ1 H1 _ e1 s1 (itt_it h1 h2) (by rw [← h2.length]; exact hz)⟩⟩
      · split at hg
        · rename_i hz
          cases hg
          cases x1
          exact .inl ⟨_, rfl, hq φ1 H1 _ e1 s1 its_it (by simp only [signs, List.length_map]; exact small_le hz)⟩
        · cases hg
      · rename_i n
        split at hg
        · rename_i xs hS
          cases hg
          obtain ⟨c, hc, rfl⟩ := x1
          obtain ⟨vs, q1, q2⟩ := s1.ob n c _ hc hS
          exact .inr ⟨c, vs, rfl, .inl ⟨.of q1, fun hz => hq φ1 H1 _ e1 s1 (itr_it hc) (by rw [← q2.length]; exact hz)⟩⟩
        · cases hg
      · cases hg
theorem e_globS {x : Str} {z : Str} (h : ∃ t, X.mg x = some (.str z t)) (hg : Gl X x := by rfl) (hd : (x == ("__debug__" : Str)) = false := by decide) : SE X E (.Name x p) (dC (.str z)) := by
  obtain ⟨t, h⟩ := h
  exact e_glob (v := .str z) h ⟨t, rfl⟩ (fun _ _ => rfl) hg hd
theorem e_globI {x : Str} {z : Int} (h : ∃ t, X.mg x = some (.int z t)) (hg : Gl X x := by rfl) (hd : (x == ("__debug__" : Str)) = false := by decide) : SE X E (.Name x p) (dC (.int z)) := by
  obtain ⟨t, h⟩ := h
  exact e_glob (v := .int z) h ⟨t, rfl⟩ (fun _ _ => rfl) hg hd
end
end CL
end

section
/-! part CLRev -/
set_option Elab.async false
set_option linter.all false
set_option maxRecDepth 100000
/-! CLRev: x[::-1] of a list or a tuple. -/
namespace CL
open PySem PySem.Spec PyProof.Rows L2
open HT (slicePart_)
section
variable {P : Program} {w : World} {A : Around} {E : Value → Shared → Prop} {s : Shared}
theorem pick_all {α : Type} (ys : List α) : (List.range ys.length).filterMap (fun k => ys[k]?) = ys := by
  induction ys with
  | nil => rfl
  | cons y ys ih =>
    rw [List.length_cons, List.range_succ_eq_map, List.filterMap_cons]
    simp only [List.getElem?_cons_zero, List.filterMap_map]
    congr 1
theorem fm_congr {α β : Type} {f g : α → Option β} : ∀ {l : List α}, (∀ x ∈ l, f x = g x) → l.filterMap f = l.filterMap g
  | [], _ => rfl
  | x :: l, h => by
    rw [List.filterMap_cons, List.filterMap_cons, h x List.mem_cons_self, fm_congr fun y hy => h y (List.mem_cons_of_mem _ hy)]
theorem pick_rev (xs : Array Value) : ((List.range xs.size).filterMap fun (k : Nat) => xs[(((xs.size : Int) - 1) + (k : Int) * (-1)).toNat]?) = xs.toList.reverse := by
  have h := pick_all xs.toList.reverse
  rw [List.length_reverse, Array.length_toList] at h
  rw [← h]
  refine fm_congr fun k hk => ?_
  have hk := List.mem_range.mp hk
  have e : (((xs.size : Int) - 1) + (k : Int) * (-1)).toNat = xs.size - 1 - k := by omega
  rw [e, List.getElem?_reverse (by simpa using hk), Array.getElem?_toList, Array.length_toList]
theorem tup_rev {t sl : Addr} {items : Array Value} {vl vu vs : Value} {Q : Value → Shared → Prop} (ht : IsTup s.heap t items) (hs : s.heap.IsSliceOf sl vl vu vs) (pl : IsPart vl none) (pu : IsPart vu none) (ps : IsPart vs (some (-1)))
    (h : Q (.ref s.heap.objs.size) { s with heap := s.heap.push { cls := .type "tuple", data := .seq items.toList.reverse.toArray } }) (hz : items.size ≤ sizeLine) : wpAny (model P w) A (getItem (.ref t) (.ref sl)) Q E s := by
  have size : sizeOk (.seq items.toList.reverse.toArray) := by
    show items.toList.reverse.toArray.size ≤ sizeLine
    rw [List.size_toArray, List.length_reverse, Array.length_toList]
    exact hz
  obtain ⟨os, ho, hc, hd⟩ := id hs
  have ty : s.TypeIs (.ref sl) "slice" := ⟨os, ho, hc⟩
  unfold getItem
  try with_reducible refine wpAny_holding ?_
  first | refine wpAny_bind (wpAny_pure ?_) | skip
  refine wpAny_bind (wpAny_sequenceKey ht.typeIs (by decide) (wpAny_bind (wpAny_callSpecial?_slot (name := Str.ofString "__getitem__") ht.typeIs PyProof.Rows.slot_tuple_getitem (wpAny_call_entry PyProof.Rows.slot_tuple_getitem ht.typeIs entry_tuple_getitem ?_ (args_tuple_getitem _ _)))))
  refine wpAny_bind (m := Builtin.Tuple.tupleItemsOf (.ref t)) (tupleItemsOf_ ht (wpAny_bind (wpAny_typeOf ty ?_)))
  rw [if_pos (by decide)]
  refine wpAny_bind (m := Builtin.Slice.sliceApplied (.ref sl) (pure (items.size : Int))) ?_
  unfold Builtin.Slice.sliceApplied Builtin.Slice.sliceFields
  refine wpAny_bind (wpAny_bind (wpAny_field ho hd (x := vl) rfl (wpAny_bind (wpAny_field ho hd (x := vu) rfl (wpAny_bind (wpAny_field ho hd (x := vs) rfl (wpAny_pure ?_)))))))
  refine wpAny_bind (slicePart_ ps ?_)
  show wpAny _ _ (if ((-1 : Int) == 0) = true then _ else _) _ _ s
  rw [if_neg (by decide)]
  refine wpAny_bind (slicePart_ pl (wpAny_bind (slicePart_ pu (wpAny_bind (wpAny_pure ?_)))))
  have adj : Builtin.Slice.sliceAdjust none none (-1) (items.size : Int) = ((items.size : Int) - 1, -1) := rfl
  have plc : Builtin.Slice.slicePlaces ((items.size : Int) - 1) (-1) (-1) = items.size := by
    unfold Builtin.Slice.slicePlaces
    rw [if_neg (by decide)]
    split <;> simp <;> omega
  show wpAny _ _ (match Builtin.Slice.sliceAdjust none none (-1) (items.size : Int) with | (lo, hi) => pure (lo, (-1 : Int), Builtin.Slice.slicePlaces lo hi (-1))) _ _ s
  rw [adj]
  show wpAny _ _ (pure ((items.size : Int) - 1, (-1 : Int), Builtin.Slice.slicePlaces ((items.size : Int) - 1) (-1) (-1))) _ _ s
  rw [plc]
  refine wpAny_pure ?_
  have no : ¬ (((items.size : Int) - 1 == 0 && (-1 : Int) == 1 && items.size == items.size) = true) := by simp
  show wpAny _ _ (if ((items.size : Int) - 1 == 0 && (-1 : Int) == 1 && items.size == items.size) = true then _ else _) _ _ s
  rw [if_neg no, pick_rev]
  first
    | exact wpAny_bind (m := Builtin.Tuple.tupleExact _) (wpAny_newObj_type (wpAny_pure ⟨_, rfl, wpAny_pure h⟩) size)
    | exact wpAny_bind (m := Builtin.Tuple.tupleExact _) (wpAny_newObj_type (wpAny_bind (wpAny_pure (wpAny_pure ⟨_, rfl, wpAny_pure h⟩))) size)
    | exact wpAny_bind (wpAny_bind (m := Builtin.Tuple.tupleExact _) (wpAny_newObj_type (wpAny_pure (wpAny_pure ⟨_, rfl, wpAny_pure h⟩)) size))
    | exact wpAny_bind (wpAny_bind (m := Builtin.Tuple.tupleExact _) (wpAny_newObj_type (wpAny_pure ⟨_, rfl, wpAny_pure h⟩) size))
end
theorem pick_revL (its : List Value) : slicePick its.toArray none none (some (-1)) = its.reverse.toArray := by
  unfold slicePick
  have e1 : sliceBounds none none (some (-1)) its.toArray.size = ((its.toArray.size : Int) - 1, -1, -1) := by
    simp [sliceBounds]
  rw [e1]
  have e2 : sliceRange ((its.toArray.size : Int) - 1) (-1) (-1) = (List.range its.toArray.size).map fun (k : Nat) => (((its.toArray.size : Int) - 1) + (k : Int) * (-1)).toNat := by
    unfold sliceRange
    rw [if_neg (by decide)]
    have : (if (its.toArray.size : Int) - 1 > -1 then ((its.toArray.size : Int) - 1 - -1 - -1 - 1) / (- -1) else 0).toNat = its.toArray.size := by
      rw [show (- -1 : Int) = 1 from rfl, Int.ediv_one]
      split <;> omega
    dsimp only
    rw [this]
    exact List.map_congr_left fun k _ => by rw [Int.mul_comm]
  rw [e2, List.filterMap_map]
  have := pick_rev its.toArray
  simp only [Function.comp_def]
  rw [this]
section
variable {X : Cx} {E : EK} {pos p : Pos} {a : Expr} {da : DE}
def tRevT (K : PySem.W.Frag) (te : TE) : TE := fun σ H Q => te σ H fun x H1 => ∃ a xs, x = .ref a ∧ ((SqT K H1 a xs ∧ ∀ p, H1 p = none → Q (.ref p) (upd H1 p (.tup xs.reverse))) ∨ (SqL K H1 a xs ∧ ∀ p, H1 p = none → Q (.ref p) (upd H1 p (.lst xs.reverse))))
theorem pe_revT {e : Expr} {te : TE} {k : Nat} {p1 p2 p3 pos : Pos} (he : PE X e te) : PE X (.Subscript e (.Slice none none (some (.UnaryOp .USub (.Constant (.int 1) k p1) p2)) p3) pos) (tRevT X.K te) := by
  refine ⟨fun pins s σ H Q I h => Subscript_ (thn (he.run pins s σ H _ I h) fun v s1 ⟨x, H1, I1, r1, c, xs, ex, hx⟩ => ?_)⟩
  subst ex
  cases r1
  have st : PO X (some (.UnaryOp .USub (.Constant (.int 1) k p1) p2)) (tPart (tUn (rU fun i => .int (-i)) (tC (.int 1)))) := po_some (pe_un un_neg pe_int)
  refine wpAny_Slice (thn (po_none.run pins s1 σ H1 (fun o H2 => o = none ∧ H2 = H1) I1 ⟨rfl, rfl⟩) fun vl s2 ⟨l, H2, I2, pl, el, e2⟩ => ?_)
  subst el; subst e2
  refine thn (po_none.run pins s2 σ H2 (fun o H3 => o = none ∧ H3 = H2) I2 ⟨rfl, rfl⟩) fun vu s3 ⟨u, H3, I3, pu, eu, e3⟩ => ?_
  subst eu; subst e3
  refine thn (st.run pins s3 σ H3 (fun o H4 => o = some (-1) ∧ H4 = H3) I3 ⟨1, rfl, -1, rfl, rfl, rfl⟩) fun vs s4 ⟨o, H4, I4, ps, eo, e4⟩ => ?_
  subst eo; subst e4
  have I5 : Inv X pins σ H4 { s4 with heap := s4.heap.push { cls := .type "slice", data := .fields #[vl, vu, vs] } } := I4.kept (t' := s4.toks) fun b ob q => Heap.get?_push_of_some _ q
  rcases hx with ⟨hx, q⟩ | ⟨hx, q⟩
  rotate_left
  · obtain ⟨its, r, ht, hz⟩ := I5.list hx
    show wpAny (model X.prog X.w) X.A (subscriptTail e (.Slice none none (some (.UnaryOp .USub (.Constant (.int 1) k p1) p2)) p3) (.ref c) (.ref s4.heap.objs.size)) (EP X pins σ Q) X.xe { s4 with heap := s4.heap.push { cls := .type "slice", data := .fields #[vl, vu, vs] } }
    refine tail_any (ops := [.ref c, .ref s4.heap.objs.size]) ht.isList.typeIs PySem.slot_list_getitem.lookup (wpAny_getItem_list_slice ht.isList (Heap.IsSliceOf.new _ vl vu vs) pl pu ps (by simp) ?_ (by rw [List.size_toArray, ← r.length]; exact hz)) (by with_unfolding_all rfl)
    rw [pick_revL]
    refine ⟨.ref _, _, I5.laid (t' := s4.toks) (o := .lst xs.reverse) (fun b ob q => Heap.get?_push_of_some _ q) (Nat.le_refl _) ?_, rfl, q _ (I5.hok.fresh (Nat.le_refl _))⟩
    exact ⟨by rw [List.length_reverse]; exact hz, _, 0, r.reverse, Heap.get?_push_size _ rfl⟩
  obtain ⟨its, r, ht, hz⟩ := I5.tuple hx
  show wpAny (model X.prog X.w) X.A (subscriptTail e (.Slice none none (some (.UnaryOp .USub (.Constant (.int 1) k p1) p2)) p3) (.ref c) (.ref s4.heap.objs.size)) (EP X pins σ Q) X.xe { s4 with heap := s4.heap.push { cls := .type "slice", data := .fields #[vl, vu, vs] } }
  refine tail_any (ops := [.ref c, .ref s4.heap.objs.size]) ht.typeIs PyProof.Rows.slot_tuple_getitem.lookup (tup_rev ht (Heap.IsSliceOf.new _ vl vu vs) pl pu ps ?_ (by rw [List.size_toArray, ← r.length]; exact hz)) (by with_unfolding_all rfl)
  refine ⟨.ref _, _, I5.laid (t' := s4.toks) (o := .tup xs.reverse) (fun b ob q => Heap.get?_push_of_some _ q) (Nat.le_refl _) ?_, rfl, q _ (I5.hok.fresh (Nat.le_refl _))⟩
  exact ⟨by rw [List.length_reverse]; exact hz, _, r.reverse, IsTup.new _ _⟩
def revP : PyData → Option PyData
  | .tuple xs => some (.tuple xs.reverse)
  | .list xs => some (.list xs.reverse)
  | _ => none
theorem e_revT {k : Nat} {p1 p2 p3 : Pos} (ha : SE X E a da) : SE X E (.Subscript a (.Slice none none (some (.UnaryOp .USub (.Constant (.int 1) k p1) p2)) p3) pos) (dUn (on1 revP) da) := by
  refine PEw (pe_revT ha) fun σV H Q h => ?_
  obtain ⟨φ, σ, S, r, hs, he, hd, hq⟩ := un_rd (E := E) σV H Q h
  refine ⟨φ, σ, S, r, hs, he, hd, ?_⟩
  cases r with
  | xc y S' => exact hq
  | ok w S' =>
    intro φ1 H1 v e1 s1 x1
    obtain ⟨φ2, S2, x, z, g1, g2, g3, g4⟩ := hq φ1 H1 v e1 s1 x1
    obtain ⟨c, d, h1, h2, rfl⟩ := on1_of g3
    unfold revP at h2
    split at h2
    · cases h2
      obtain ⟨l, vs, rfl, f1, r1⟩ := tup_of g2 h1
      refine ⟨l, vs, rfl, .inl ⟨f1.sq, fun p hp => ?_⟩⟩
      have e := Ext.new (o := .tup vs.reverse) hp g1
      exact g4 φ2 _ _ e (g1.new hp) ⟨p, _, rfl, upd_same, RDs.mono e _ _ (RDs.reverse r1)⟩
    · cases h2
      obtain ⟨l, vs, rfl, f1, r1⟩ := seqL_of g1 g2 h1
      refine ⟨l, vs, rfl, .inr ⟨f1, fun p hp => ?_⟩⟩
      have e := Ext.new (o := .lst vs.reverse) hp g1
      exact g4 φ2 _ _ e (g1.new hp) ⟨p, _, rfl, newFL g1 hp, RDs.mono e _ _ (RDs.reverse r1)⟩
    · cases h2
end
end CL
end

section
/-! part CLExc -/
set_option Elab.async false
set_option linter.all false
set_option maxRecDepth 100000
/-! CLExc: raise, defs that let exceptions out, try .. except. -/
namespace CL
open PySem PySem.Spec PyProof.Rows L2

/-- what is raised here is taken -/
abbrev Tk (X : Cx) (E : EK) : Prop := L2N.Takes X fun cls d σ H => E σ cls d H
/-- as CalG, for a def that may raise -/
structure CalX (P : Program) (w : World) (K : PySem.W.Frag) (mg : Str → Option Value) (base : Heap) (k : Nat) (x : Str) (F : DF) : Prop where
  ex : ∃ (f : Addr) (fd : FuncData) (ps : List Str), FnG P w K mg base (L2N.CX P w) k f fd ps (spF K mg F) ∧ mg x = some (.ref f) ∧ PySem.W.keepIn K (.ref f) = true ∧ Binds K fd ps [] ∧ ∃ (oc : Value) (od : Option Addr) (osl : Array (Option Value)), K.lookup f = some ⟨oc, od, .func fd, osl⟩ ∧ fd.params.args.map (·.arg) = ps
theorem mk_fnX {P : Program} {w : World} {K : PySem.W.Frag} {mg : Str → Option Value} {base : Heap} {x qual : Str} {st : Stmt} {f : Addr} {fd : FuncData} {N ps : List Str} {k : Nat} {G : Nat → W → So → M W} {d : DS} (hG : GcOk G) (F : Fun K x qual st f fd) (Sc : FnScope N ps (defScope st))
    (hbody : ∀ (cdv : Value) (A : Around) (outer : List Env) (s : Shared) (H : Hp) (E : XK), A.guards = some [] → Room k (A.deeper (envOfC qual (defScope st) s.heap.objs.size f cdv)) →
      Tk (cxOf (L2N.CX P w) P w K mg base N qual (defScope st) f cdv A outer s H E) (fun _ => E) →
      PassesOwn (model P w) (cxOf (L2N.CX P w) P w K mg base N qual (defScope st) f cdv A outer s H E).A (cxOf (L2N.CX P w) P w K mg base N qual (defScope st) f cdv A outer s H E).env (cxOf (L2N.CX P w) P w K mg base N qual (defScope st) f cdv A outer s H E).xe →
      SSs (cxOf (L2N.CX P w) P w K mg base N qual (defScope st) f cdv A outer s H E) (fun _ => E) (defBody st) d) :
    FnG P w K mg base (L2N.CX P w) (k + 1) f fd ps (spF K mg (fnB G ps.length N.length d)) := by
  refine fnG_of F Sc (fun vs H Q E h => ?_) (fun cdv A outer s H vs Q E hgd hr h => ?_)
  · obtain ⟨φ, S, ws, r, hs, hw, hF, hq⟩ := h
    unfold fnB at hF
    split at hF
    · rename_i hl; rw [hw.length, hl]
    · cases hF
  · refine ⟨_, hbody cdv A outer s H E hgd hr (L2N.takes_of rfl rfl rfl rfl) (passes_of rfl), ?_⟩
    obtain ⟨φ, S, ws, r, hs, hw, hF, hq⟩ := h
    unfold fnB at hF
    split at hF
    · have en := start_er (N := N) hw
      match hb : d (startW N.length ws) S, hF with
      | none, hF => cases hF
      | some (.nx σ' S'), hF =>
        cases hF
        exact ⟨φ, _, S, _, hs, en, hb, fun φ' H' σV' e s' _ => hq φ H' .non e.cut (s'.cut e hs.len) rfl⟩
      | some (.rt w S'), hF =>
        refine ⟨φ, _, S, _, hs, en, hb, fun φ' H' v e s' xw => ?_⟩
        dsimp only at hF
        rw [← hs.len] at hF
        obtain ⟨w2, S2, φ2, rfl, e2, s2, x2⟩ := hG K mg φ φ' H H' S' w v r e s' xw hF
        exact hq φ2 H' v e2 s2 x2
      | some (.xc y σ' S'), hF =>
        cases hF
        refine ⟨φ, _, S, _, hs, en, hb, fun φ' H' _ e s' _ C hC => ?_⟩
        have := hq φ H' e.cut (s'.cut e hs.len) C hC
        exact ⟨this.1, fun a us h1 h2 => this.2 a us h1 (RDs.cut e h2)⟩
      | some (.bk _ _), hF => cases hF
      | some (.ct _ _), hF => cases hF
    · cases hF
theorem calX {P : Program} {w : World} {K : PySem.W.Frag} {mg : Str → Option Value} {base : Heap} {x : Str} {st : Stmt} {N ps : List Str} {k : Nat} {G : Nat → W → So → M W} {d : DS} {F : DF} (D : DefG K mg x st ps) (hG : GcOk G) (Sc : FnScope N ps (defScope st))
    (hbody : ∀ (f : Addr) (cdv : Value) (A : Around) (outer : List Env) (s : Shared) (H : Hp) (E : XK), A.guards = some [] → Room k (A.deeper (envOfC x (defScope st) s.heap.objs.size f cdv)) →
      Tk (cxOf (L2N.CX P w) P w K mg base N x (defScope st) f cdv A outer s H E) (fun _ => E) →
      PassesOwn (model P w) (cxOf (L2N.CX P w) P w K mg base N x (defScope st) f cdv A outer s H E).A (cxOf (L2N.CX P w) P w K mg base N x (defScope st) f cdv A outer s H E).env (cxOf (L2N.CX P w) P w K mg base N x (defScope st) f cdv A outer s H E).xe →
      SSs (cxOf (L2N.CX P w) P w K mg base N x (defScope st) f cdv A outer s H E) (fun _ => E) (defBody st) d)
    (hF : F = fnB G ps.length N.length d := by rfl) : CalX P w K mg base (k + 1) x F := by
  subst hF
  obtain ⟨f, fd, h1, h2, h3, h4⟩ := D.ex
  exact ⟨f, fd, ps, mk_fnX hG h1 Sc (hbody f), h2, h1.kp, h3, h1.at_ h4⟩
theorem calX_none {P : Program} {w : World} {K : PySem.W.Frag} {mg : Str → Option Value} {base : Heap} {x : Str} {st : Stmt} {ps : List Str} {k : Nat} (D : DefG K mg x st ps) : CalX P w K mg base k x noF := by
  obtain ⟨f, fd, h1, h2, h3, h4⟩ := D.ex
  refine ⟨f, fd, ps, ⟨fun vs H Q E h => ?_, fun A outer s H args us vs Q E _ _ _ _ _ h => ?_⟩, h2, h1.kp, h3, h1.at_ h4⟩
  · obtain ⟨_, _, _, _, _, _, h, _⟩ := h; cases h
  · obtain ⟨_, _, _, _, _, _, h, _⟩ := h; cases h
section
variable {X : Cx} {E : EK} {pos p : Pos} {a e : Expr} {es : List Expr} {das : DA} {x : Str} {F : DF} {j k : Nat} {f : Addr} {fd : FuncData} {ps : List Str} {sp : Sp}
theorem tk0 : Tk X (fun _ => E0) := fun u s' h => by
  obtain ⟨_, _, _, _, _, _, _, _, _, _, _, _, _, _, _, _, z⟩ := h
  exact z.elim
theorem paX (tk : Tk X E) : PaAt (L2N.CX X.prog X.w) X E := fun σ pins H s e s' I c => tk e s' (L2N.XE.of_call I (fun _ _ _ h => h) c)
theorem e_callX (c : CalX X.prog X.w X.K X.mg X.base k x F) (hgd : X.A.guards = some []) (hr : Room j X.A) (tk : Tk X E) (ha : SA X E (a :: es) das) (hk : k ≤ j := by decide) (hg : Gl X x := by rfl) (hdb : (x == ("__debug__" : Str)) = false := by decide)
    (he : starEach (a :: es) X.env = (false, eval a X.env) :: starEach es X.env := by rfl) (hpl : (backTo pos (starEach es X.env)).any (·.1) = false := by rfl) : SE X E (.Call (.Name x p) (a :: es) [] pos) (dFn F das) := by
  obtain ⟨f, fd, ps, h1, h2, h3, h4, _⟩ := c.ex
  exact e_fn h1 hgd (hr.mono hk) h2 h3 h4 (paX tk) ha hg hdb he hpl

/-! ### raise -/
/-- a class's own __init__ with two parameters, each kept under its name -/
def spIn (K : PySem.W.Frag) (a b : Str) : Sp := fun vs H Q _ => ∃ (e C : Addr) (v1 v2 : V), vs = [.ref e, v1, v2] ∧ H e = some (exo e C none) ∧ OexC K C ∧ PySem.W.findIn K (.ref C) a = some none ∧ PySem.W.findIn K (.ref C) b = some none ∧
  ∀ d, H d = none → d ≠ e → Q .non (upd (upd (upd H d (exd d [(a, v1)])) e (exo e C (some d))) d (exd d [(b, v2), (a, v1)]))
structure ErrG (P : Program) (w : World) (K : PySem.W.Frag) (mg : Str → Option Value) (base : Heap) (x a b : Str) : Prop where
  ex : ∃ (C fI : Addr) (fd : FuncData), mg x = some (.ref C) ∧ OexC K C ∧ PySem.W.findIn K (.ref C) a = some none ∧ PySem.W.findIn K (.ref C) b = some none ∧ PySem.W.findIn K (.ref C) "__init__" = some (some (.ref fI)) ∧
    PySem.W.typeIn K (.ref fI) = some (.type "function") ∧ Binds K fd ["self", a, b] [] ∧ FnOk P w K mg base CX0 1 fI fd ["self", a, b] (spIn K a b)
theorem pmkN {CX : CXT} {x : Str} {C fI : Addr} {k : Nat} {fd : FuncData} {ps : List Str} {sp : Sp} {ta : TA} (T : OexC X.K C) (iC : PySem.W.findIn X.K (.ref C) "__init__" = some (some (.ref fI))) (tI : PySem.W.typeIn X.K (.ref fI) = some (.type "function"))
    (F1 : FnOk X.prog X.w X.K X.mg X.base CX k fI fd ps sp) (hr : Room (k + 1) X.A) (hb : Binds X.K fd ps []) (hx : Passes CX X (fun _ _ _ => False)) (hg : Gl X x) (hm : X.mg x = some (.ref C)) (ha : PA X (e :: es) ta)
    (hdb : (x == ("__debug__" : Str)) = false := by decide) (he : starEach (e :: es) X.env = (false, eval e X.env) :: starEach es X.env := by rfl) (hpl : (backTo pos (starEach es X.env)).any (·.1) = false := by rfl) :
    L2N.PMk X (.Call (.Name x p) (e :: es) [] pos) (tMkO C sp [] ta) := fun pins s σ H Q I h => by
  obtain ⟨nm, q, N, bs, bm, sn, sub, ab, col, dd, k0, k1, k2, k3, k5, hC, hbm⟩ := T.cls
  refine wpAny_Call_Name_kw (ld_glob I hg hm (PySem.W.callWith_K (h₀ := X.base) I.ok.mod.kin T.kC (thn (ha.run pos pins s σ H _ I h) fun us s1 ⟨vs, H1, I1, r1, hz, q1⟩ => ⟨I1.kIn, ?_⟩) he hpl) hdb)
  show wpAny _ _ (call (.ref C) us) _ _ _
  obtain ⟨hp, g, dr, tk, os⟩ := s1
  generalize hA : hp.objs.size + 1 = A1
  have hsz : hp.objs.size ≤ A1 := by omega
  have hq := q1 A1 (I1.hok.fresh hsz)
  rw [List.append_nil] at hq
  have kk : ∀ b o, hp.get? b = some o → ((hp.push (PySem.W.kdv_tup us)).push (PySem.HandSPX.excO C hp.objs.size)).get? b = some o := fun b o z => Heap.get?_push_of_some _ (Heap.get?_push_of_some _ z)
  have hget : ((hp.push (PySem.W.kdv_tup us)).push (PySem.HandSPX.excO C hp.objs.size)).get? A1 = some (PySem.HandSPX.excO C hp.objs.size) := by rw [← hA]; heap_get
  have I2 := I1.laid (t' := tk) (a := A1) (o := exo A1 C none) kk hsz (exo_ok hget)
  have hus : us.length ≤ sizeLine := by rw [← Paired.length r1, sizeLine_eq]; omega
  have r2 : Vals (V.ref A1 :: vs) (Value.ref A1 :: us) := .cons rfl r1
  have hl : (Value.ref A1 :: us ++ []).length = ps.length := by
    have z := r2.length
    rw [F1.len _ _ _ _ hq] at z
    rw [List.append_nil]; exact z.symm
  have b2 := hb _ (Value.ref A1 :: us) I2.kIn hl
  rw [List.append_nil] at b2
  subst hA
  refine wpAny_call (PySem.HandSPX.call_own F.excBase_ValueError (fun Y => PySem.HandSPX.refsVE_contains Y bm hbm) (I1.kIn _ _ hC) (PySem.W.looks_findIn I1.kIn iC) (fun self => PySem.W.bind_fn I1.kIn self tI) hus
    (codeAny_mono (F1.run _ X.stack _ _ ⟨Value.ref (hp.objs.size + 1) :: us, []⟩ _ _ _ (fun _ _ _ => False) (hr.make C us []) (I2.env0.make C us []) b2 r2 hq) fun r s' z => ?_))
  match r, z with
  | .error er, z => exact hx pins σ _ _ er s' I2 z
  | .ok (.ret u), z =>
    obtain ⟨v, H2, os2, bare2, un2, hok2, rv, ev, d, fs, ea, ed, hd1, q2⟩ := z
    subst ev
    obtain ⟨h2, g2, d2, t2, os'⟩ := s'
    obtain ⟨t0, G, J, kG, ge, hoe, na⟩ := mk_end0 (d2 := d2) (t2 := t2) I1 hsz kk un2 hok2 os2 bare2 ea ed hd1
    exact ⟨rv, _, _, _, ⟨G, g2, d2, t2, os'⟩, _, .ref C, some d, rfl, J, kG, ge, hoe, ⟨rfl, rfl, fun vs hv => by cases hv; rfl⟩, rfl, rfl, na, rfl, bare2, raises_own T.exC T.tyC, q2⟩
  | .ok .next, z => exact z.elim
  | .ok .brk, z => exact z.elim
  | .ok .cont, z => exact z.elim
/-- raise x(..) of such a class -/
def sRaise (x a b : Str) (as : DA) : DS := fun σ S => bndS σ (as σ S) fun ws S1 => match datz ws with
  | some [u, v] => some (.xc ⟨x, [(b, v), (a, u)]⟩ σ S1)
  | _ => none
theorem s_raise {n1 n2 : Str} {pos2 : Pos} (R : ErrG X.prog X.w X.K X.mg X.base x n1 n2) (hr : Room j X.A) (tk : Tk X E) (ha : SA X E (e :: es) das) (hj : 2 ≤ j := by decide) (hc : X.calm = true := by rfl) (hg : Gl X x := by rfl)
    (hdb : (x == ("__debug__" : Str)) = false := by decide) (he : starEach (e :: es) X.env = (false, eval e X.env) :: starEach es X.env := by rfl) (hpl : (backTo pos (starEach es X.env)).any (·.1) = false := by rfl) :
    SS X E (.Raise (some (.Call (.Name x p) (e :: es) [] pos)) none pos2) (sRaise x n1 n2 das) := by
  obtain ⟨C, fI, fd, hm, T, c1, c2, iC, tI, hb, F1⟩ := R.ex
  refine PSw (L2N.ps_raise hc tk (pmkN T iC tI F1 (hr.mono hj) hb (fun _ _ _ _ _ _ _ z => z.elim) hg hm ha hdb he hpl)) fun D σV H q => ?_
  obtain ⟨φ, σ, S, o, hs, hen, hd, hq⟩ := q
  unfold sRaise at hd
  match ha : das σ S, hd with
  | none, hd => cases hd
  | some (.xc x S1), hd => cases hd; exact ⟨φ, σ, S, .xc x S1, hs, hen, ha, fun φ' H' e s => hq φ' H' σV e s (hen.mono e)⟩
  | some (.ok ws S1), hd =>
    rw [bndS_ok] at hd
    refine ⟨φ, σ, S, .ok ws S1, hs, hen, ha, fun φ1 H1 vs e1 s1 x1 => ?_⟩
    split at hd
    · rename_i u v hz
      cases hd
      have rd := dats_rd x1 (datz_of hz).2
      obtain ⟨v1, r1, rfl, y1, z1⟩ := rd
      obtain ⟨v2, r2, rfl, y2, z2⟩ := z1
      cases z2
      refine ⟨by simp, fun A1 hA => ?_⟩
      refine ⟨A1, C, v1, v2, rfl, upd_same, T, c1, c2, fun d hd hne => ⟨rfl, d, _, (upd_ne hne.symm).trans upd_same, upd_same, ?_, ?_⟩⟩
      · rw [upd_ne hne] at hd; exact hd
      · have hd1 : H1 d = none := by rw [upd_ne hne] at hd; exact hd
        have eH : upd (del (upd (upd (upd (upd H1 A1 (exo A1 C none)) d (exd d [(n1, v1)])) A1 (exo A1 C (some d))) d (exd d [(n2, v2), (n1, v1)])) A1) d (.xd [(n2, v2), (n1, v1)]) = upd H1 d (.xd [(n2, v2), (n1, v1)]) := by
          funext b
          by_cases h1 : b = d
          · subst h1; rw [upd_same, upd_same]
          · rw [upd_ne h1, upd_ne h1]
            by_cases h2 : b = A1
            · subst h2; rw [del_same, hA]
            · rw [del_ne h2, upd_ne h1, upd_ne h2, upd_ne h1, upd_ne h2]
        rw [eH]
        have ex := Ext.new (o := .xd [(n2, v2), (n1, v1)]) hd1 s1
        have := hq φ1 _ σV (e1.trans ex) (s1.new hd1) ((hen.mono e1).mono ex) C hm
        exact this.2 d [v2, v1] upd_same ⟨v2, _, rfl, RD.mono ex _ _ y2, v1, _, rfl, RD.mono ex _ _ y1, rfl⟩
    · cases hd

/-! ### try -/
def noX : Option Out → Option Out
  | some (.xc _ _ _) => none
  | o => o
/-- try: body / except (a class that catches cs): suite -/
def sTryO (cs : List Str) (body su : DS) : DS := fun σ S => match body σ S with
  | some (.xc x σ1 S1) => if x.cls ∈ cs then noX (su σ1 S1) else none
  | o => o
theorem takesN {X : Cx} {W : WX} (t : L2.Takes X W) : L2N.Takes X W := fun u s' ⟨a, B, sI, pins, σ, H, cls, d, e, I, nb, up, sky, na, os, ag, q⟩ => t u s' ⟨a, B, sI, pins, σ, H, cls, d, e, I, nb, up, by
  rcases sky with ⟨h1, h2, h3, oe, vs, h4, h5, h6⟩ | ⟨h1, h2, h3, oe, vs, T, oT, ts, h4, h5, h6⟩ | ⟨h1, h2, h3, oe, vs, T, oT, ts, h4, h5, h6⟩
  · exact .inl ⟨h1, h2, h3, oe, vs, h4, h5.zc, h6⟩
  · exact .inr (.inl ⟨h1, h2, h3, oe, vs, T, oT, ts, h4, h5.zc, h6⟩)
  · exact .inr (.inr ⟨h1, h2, h3, oe, vs, T, oT, ts, h4, h5.zc, h6⟩), na, os, ag, q⟩
theorem s_tryO {cs : List Str} {c : Value} {body suite : List Stmt} {b₀ : Stmt} {np pos' : Pos} {db dsu : DS} (hcat : ∀ y ∈ cs, ∀ C, X.mg y = some (.ref C) → PySem.W.exmOne X.K (.ref C) c = some true)
    (hb : ∀ (E' : EK) (pn : List (Addr × Obj)) (xe : Value → Shared → Prop), Tk (X.tr pn xe) E' → PassesOwn (model X.prog X.w) X.A X.env xe → SSs (X.tr pn xe) E' body db)
    (hsu : ∀ (a : Addr) (oe : Obj) (pn : List (Addr × Obj)), SSs (X.suite a ((a, oe) :: pn)) (fun _ => E0) (b₀ :: suite) dsu) (hc : Names X x c) (hs : X.stack = X.env :: X.outer := by rfl) (hf : X.env.frame = some X.env.locals := by rfl) :
    SS X E (.Try body [.ExceptHandler (some (.Name x np)) none (b₀ :: suite) pos'] [] [] pos) (sTryO cs db dsu) := by
  refine PSw (ps_try_only (c := c) (Wout := fun _ _ _ _ => False) (tb := fun W => tS X.K X.mg (fun σ cls d H => W cls d σ H) db) (ts := fun _ _ _ => tS X.K X.mg (fun _ => E0) dsu) hs hf hc
    (fun u s' h => by obtain ⟨_, _, _, _, _, _, _, _, _, _, _, _, _, _, _, _, z⟩ := h; exact z.elim) (fun W pn xe tk po => hb _ pn xe (takesN tk) po) (fun a oe cls d pn _ _ => hsu a oe pn)) fun D σV H q => ?_
  obtain ⟨φ, σ, S, o, hs, hen, hd, hq⟩ := q
  unfold sTryO at hd
  match ha : db σ S, hd with
  | none, hd => cases hd
  | some (.nx _ _), hd => cases hd; exact ⟨φ, σ, S, _, hs, hen, ha, hq⟩
  | some (.rt _ _), hd => cases hd; exact ⟨φ, σ, S, _, hs, hen, ha, hq⟩
  | some (.bk _ _), hd => cases hd; exact ⟨φ, σ, S, _, hs, hen, ha, hq⟩
  | some (.ct _ _), hd => cases hd; exact ⟨φ, σ, S, _, hs, hen, ha, hq⟩
  | some (.xc y σ1 S1), hd =>
    dsimp only at hd
    split at hd
    · rename_i hy
      refine ⟨φ, σ, S, _, hs, hen, ha, fun φ1 H1 σV1 e1 s1 n1 C hC => ?_⟩
      have go : ∀ d, wOnly X.K c (fun _ _ _ => tS X.K X.mg (fun _ => E0) dsu) (fun _ _ _ _ => False) D (.ref C) d σV1 H1 := fun d => by
        refine ⟨true, hcat _ hy C hC, fun _ a _ => ?_, fun z => by cases z⟩
        match hsu2 : dsu σ1 S1, hd with
        | none, hd => cases hd
        | some (.nx _ _), hd => cases hd; exact ⟨φ1, σ1, S1, _, s1, n1, hsu2, fun φ' H' σV' e' => hq φ' H' σV' (e1.trans e')⟩
        | some (.rt _ _), hd => cases hd; exact ⟨φ1, σ1, S1, _, s1, n1, hsu2, fun φ' H' σV' e' => hq φ' H' σV' (e1.trans e')⟩
        | some (.bk _ _), hd => cases hd; exact ⟨φ1, σ1, S1, _, s1, n1, hsu2, fun φ' H' σV' e' => hq φ' H' σV' (e1.trans e')⟩
        | some (.ct _ _), hd => cases hd; exact ⟨φ1, σ1, S1, _, s1, n1, hsu2, fun φ' H' σV' e' => hq φ' H' σV' (e1.trans e')⟩
        | some (.xc _ _ _), hd => cases hd
      exact ⟨fun _ => go none, fun a vs _ _ => go (some a)⟩
    · cases hd
end
end CL
end

section
/-! part CLMore -/
set_option Elab.async false
set_option linter.all false
set_option maxRecDepth 100000
/-! CLMore: x in d, any, min of two, extend, dict(pairs). -/
namespace CL
open PySem PySem.Spec PyProof.Rows L2

section
variable {X : Cx} {E : EK} {pos p p2 : Pos} {a b : Expr} {da db : DE}
/-! ### is the key there -/
def dhasW (neg : Bool) (S : So) : W → W → Option W
  | .d y, .r n => match S[n]? with
    | some (.dk kvs) => (keyP y).map fun k => .d (.bool ((valD kvs k).isSome != neg))
    | some (.dt kvs) => match y with
      | .tuple ys => (keysP ys).map fun k => .d (.bool ((valD kvs k).isSome != neg))
      | _ => none
    | _ => none
  | _, _ => none
theorem KR.isSome {α : Type} [DecidableEq α] {K : PySem.W.Frag} {H : Hp} {φ : Fi} {kvs : List (α × PyData)} {es : List (α × V)} (h : KR K H φ kvs es) (k : α) : (valV es k).isSome = (valD kvs k).isSome := by
  cases e : valD kvs k with
  | none => rw [h.none e]; rfl
  | some z => obtain ⟨w, h1, _⟩ := h.val e; rw [h1]; rfl
theorem dhas_rd {neg : Bool} (σV : L2.St) (H : Hp) (Q : VK) (h : tE X.K X.mg E (dBin (dhasW neg) da db) σV H Q) :
    tE X.K X.mg E da σV H fun y H1 => tE X.K X.mg E db σV H1 fun x H2 => ∃ a o, x = .ref a ∧ DGet H2 a y o ∧ Q (.bl (o.isSome != neg)) H2 := by
  refine tE2 (W0 := fun x y S => giv (dhasW neg S x y) S) (R := fun y x H2 Q => ∃ a o, x = .ref a ∧ DGet H2 a y o ∧ Q (.bl (o.isSome != neg)) H2) σV H Q h fun φ H S x y v u r Q hs hx hy hg hq => ?_
  match hw : dhasW neg S x y, hg with
  | none, hg => cases hg
  | some w, hg =>
    cases hg
    unfold dhasW at hw
    split at hw
    · rename_i y n
      obtain ⟨a, ha, rfl⟩ := hy
      split at hw
      · rename_i kvs hS
        obtain ⟨es, h1, h2⟩ := hs.dk ha hS
        obtain ⟨k, h3, h4⟩ := Option.map_eq_some_iff.mp hw
        subst h4
        exact ⟨a, _, rfl, by rw [keyP_of hx h3]; exact DGet.k h1, hq φ H _ .refl hs (by rw [h2.isSome]; rfl)⟩
      · rename_i kvs hS
        split at hw
        · rename_i ys
          obtain ⟨es, h1, h2⟩ := hs.dt ha hS
          obtain ⟨k, h3, h4⟩ := Option.map_eq_some_iff.mp hw
          subst h4
          obtain ⟨b, us, rfl, h9, h10⟩ := hx
          exact ⟨a, _, rfl, DGet.t h1 (by rw [← keysP_of h10 h3]; exact h9), hq φ H _ .refl hs (by rw [h2.isSome]; rfl)⟩
        · cases hw
      · cases hw
    · cases hw
theorem pc_dhas (hu : X.A.units + 1 < cLine) (ha : SE X E a da) (hb : SE X E b db) : PC X .In a b (tE X.K X.mg E (dBin (dhasW false) da db)) :=
  ⟨fun pins s σ H Q I h => (pc_din hu ha hb).run pins s σ H Q I (by simpa [tDIn] using dhas_rd (neg := false) σ H Q h)⟩
theorem pc_dhasnt (hu : X.A.units + 1 < cLine) (ha : SE X E a da) (hb : SE X E b db) : PC X .NotIn a b (tE X.K X.mg E (dBin (dhasW true) da db)) :=
  ⟨fun pins s σ H Q I h => (pc_dnotin hu ha hb).run pins s σ H Q I (by simpa [tDNotIn] using dhas_rd (neg := true) σ H Q h)⟩
theorem e_dhas (hu : X.A.units + 1 < cLine) (ha : SE X E a da) (hb : SE X E b db) (hm : behindInMarks .In b = false := by first | exact nomark _ | rfl) : SE X E (.Compare a [.In] [b] pos) (dBin (dhasW false) da db) := pe_cmp (pc_dhas hu ha hb) hm
theorem e_dhasnt (hu : X.A.units + 1 < cLine) (ha : SE X E a da) (hb : SE X E b db) (hm : behindInMarks .NotIn b = false := by first | exact nomark _ | rfl) : SE X E (.Compare a [.NotIn] [b] pos) (dBin (dhasW true) da db) := pe_cmp (pc_dhasnt hu ha hb) hm
theorem t_dhas (hu : X.A.units + 1 < cLine) (ha : SE X E a da) (hb : SE X E b db) (hm : behindInMarks .In b = false := by first | exact nomark _ | rfl) : ST X E (.Compare a [.In] [b] pos) (dB (dBin (dhasW false) da db)) :=
  PTw (pt_cmp (pc_dhas hu ha hb) hm) fun σV H Q q => b_rd σV H Q q
theorem t_dhasnt (hu : X.A.units + 1 < cLine) (ha : SE X E a da) (hb : SE X E b db) (hm : behindInMarks .NotIn b = false := by first | exact nomark _ | rfl) : ST X E (.Compare a [.NotIn] [b] pos) (dB (dBin (dhasW true) da db)) :=
  PTw (pt_cmp (pc_dhasnt hu ha hb) hm) fun σV H Q q => b_rd σV H Q q
/-! ### any(xs), min(i, j) -/
def anyP : PyData → Option PyData
  | .list xs => (bools xs).map fun bs => .bool (bs.any id)
  | _ => none
theorem b_any (hc : X.calm = true := by rfl) : CallR X (.builtin "any") (rC X.K X.mg (c1 anyP)) :=
  callw (cr_any hc) fun vs H Q ⟨φ, S, ws, w, hs, hx, hg, hq⟩ => by
    obtain ⟨u, x, c, rfl, h1, h2, rfl⟩ := c1_of hg
    obtain ⟨v, rfl, hv⟩ := one_of hx
    unfold anyP at h2
    split at h2
    · obtain ⟨bs, h3, h4⟩ := Option.map_eq_some_iff.mp h2
      subst h4
      obtain ⟨l, vs, rfl, f1, r1⟩ := seqL_of hs hv h1
      rw [bools_of r1 h3] at f1
      exact ⟨l, bs, rfl, f1, hq φ H _ .refl hs rfl⟩
    · cases h2
def min2W : So → List W → Option W
  | _, [.d (.int i), .d (.int j)] => some (.d (.int (if j < i then j else i)))
  | _, _ => none
theorem b_min2 (hc : X.calm = true := by rfl) : CallR X (.builtin "min") (rC X.K X.mg min2W) :=
  callw (call_min2 hc) fun vs H Q ⟨φ, S, ws, w, hs, hx, hg, hq⟩ => by
    unfold min2W at hg
    split at hg
    · cases hg
      obtain ⟨u1, r1, rfl, x1, y1⟩ := hx
      obtain ⟨u2, r2, rfl, x2, y2⟩ := y1
      cases y2; cases x1; cases x2
      exact ⟨_, _, rfl, hq φ H _ .refl hs rfl⟩
    · cases hg
/-! ### l.extend(xs) -/
def seqD (S : So) (w : W) : Option (List PyData) := (rd S w).bind fun
  | .list xs => some xs
  | .tuple xs => some xs
  | _ => none
theorem extend_as {l b : Addr} {items items2 : Array Value} {n n2 : Nat} {T : String} {dct : Option Addr} {sl : Array (Option Value)} (hT : T = "list" ∨ T = "tuple") (hc0 : ¬(!items.isEmpty && Builtin.List.listTooLong (items.size + items2.size)) = true) (hc1 : items.size ≤ sizeLine) (hs2 : items.size + items2.size ≤ sizeLine + 1) :
    Meets (Builtin.«list.extend» ⟨[.ref l, .ref b], []⟩) (fun _ R s => s.heap.get? l = some { cls := .type "list", dict := none, data := .seq items n, slots := #[] } ∧ s.heap.get? b = some { cls := .type T, dict := dct, data := .seq items2 n2, slots := sl } ∧
      R (.ok (.ret Value.none)) { s with heap := s.heap.update l (Obj.mapSeq fun x => x ++ items2), toks := s.toks }) := by
  rcases hT with rfl | rfl
  · refine .of_wp fun prog w A R s h => ?_
    obtain ⟨hp, g, d, tk, os⟩ := s
    obtain ⟨hl, hb, h⟩ := h
    have f1 := AutoSeq1.idx_int; have f2 := AutoSeq1.sub_tuple_tuple; have f3 := AutoSeq1.sub_list_list; have f4 := AutoSeq1.sub_tuple_list; have f5 := AutoSeq1.sub_list_tuple
    have hz' : (items ++ items2).size ≤ sizeLine + 1 := by rw [Array.size_append]; exact hs2
    wp_walk using (wpAny_updateSeq hl rfl (hz := hc1) (_hz' := hz')), AutoSeq1.wpAny_loadPart' hl, AutoSeq1.wpAny_loadPart' hb
    exact ⟨_, rfl, h⟩
  · refine .of_wp fun prog w A R s h => ?_
    obtain ⟨hp, g, d, tk, os⟩ := s
    obtain ⟨hl, hb, h⟩ := h
    have f1 := AutoSeq1.idx_int; have f2 := AutoSeq1.sub_tuple_tuple; have f3 := AutoSeq1.sub_list_list; have f4 := AutoSeq1.sub_tuple_list; have f5 := AutoSeq1.sub_list_tuple
    have hz' : (items ++ items2).size ≤ sizeLine + 1 := by rw [Array.size_append]; exact hs2
    wp_walk using (wpAny_updateSeq hl rfl (hz := hc1) (_hz' := hz')), AutoSeq1.wpAny_loadPart' hl, AutoSeq1.wpAny_loadPart' hb
    exact ⟨_, rfl, h⟩
def rExtS (K : PySem.W.Frag) : V → List V → Hp → VK → Prop := fun x vs H Q => ∃ l b xs zs, x = .ref l ∧ vs = [.ref b] ∧ H l = some (.lst xs) ∧ (SqL K H b zs ∨ SqT K H b zs) ∧ xs.length + zs.length ≤ sizeLine ∧ Q .non (upd H l (.lst (xs ++ zs)))
theorem mt_extS : MtM X "list.extend" (rExtS X.K) := by
  intro pins s σ H x vs v us Q I rx rv h
  obtain ⟨l, b, xs, zs, rfl, rfl, hH, hB, hz, q⟩ := h
  cases rx
  obtain ⟨u, rfl, ru⟩ := rv.one
  cases ru
  obtain ⟨z, its, n, r, hl, e⟩ := I.lstM hH
  obtain ⟨its2, r2, T, dct, n2, sl, hT, e2⟩ : ∃ its2 : List Value, Vals zs its2 ∧ ∃ (T : String) (dct : Option Addr) (n2 : Nat) (sl : Array (Option Value)), (T = "list" ∨ T = "tuple") ∧ s.heap.get? b = some { cls := .type T, dict := dct, data := .seq its2.toArray n2, slots := sl } := by
    rcases hB with hB | hB
    · obtain ⟨its2, r2, ⟨o, n2, e2, hc, _, hd⟩, _⟩ := I.list hB
      obtain ⟨c, dct, dt, sl⟩ := o
      cases hc; cases hd
      exact ⟨its2, r2, _, dct, n2, sl, .inl rfl, e2⟩
    · obtain ⟨its2, r2, ⟨o, e2, hc, n2, hd⟩, _⟩ := I.tuple hB
      obtain ⟨c, dct, dt, sl⟩ := o
      cases hc; cases hd
      exact ⟨its2, r2, _, dct, n2, sl, .inr rfl, e2⟩
  have hl2 := r2.length
  have hsz : its.toArray.size + its2.toArray.size ≤ sizeLine := by rw [List.size_toArray, List.size_toArray]; omega
  have hlong : ¬ (!its.toArray.isEmpty && Builtin.List.listTooLong (its.toArray.size + its2.toArray.size)) = true := by
    rw [notLongL hsz, Bool.and_false]; exact Bool.false_ne_true
  refine call_meets F.slot_list_extend ⟨_, e, rfl⟩ F.entry_list_extend (F.args_list_extend_2 _ _) (extend_as hT hlong (by rw [List.size_toArray]; omega) (by omega)) ⟨e, e2, ?_⟩
  refine ⟨.non, _, I.lset (its' := its ++ its2) hH e (by simp) (r.append r2) ?_, rfl, q⟩
  rw [List.length_append]; omega
def gExt : GM
  | S, .r n, [w] => match S[n]?, seqD S w with
    | some (.lst xs), some ys => if small (xs.length + ys.length) = true then some (.d .none, S.set n (.lst (xs ++ ys))) else none
    | _, _ => none
  | _, _, _ => none
theorem seqD_of {K : PySem.W.Frag} {mg : Str → Option Value} {H : Hp} {φ : Fi} {S : So} {w : W} {v : V} {ds : List PyData} (hs : SR K H φ S) (h : RW K H φ mg w v) (e : seqD S w = some ds) : ∃ a vs, v = .ref a ∧ (SqL K H a vs ∨ SqT K H a vs) ∧ RDs K H φ ds vs := by
  obtain ⟨x, h1, h2⟩ := Option.bind_eq_some_iff.mp e
  split at h2
  · cases h2; obtain ⟨a, vs, e1, q1, q2⟩ := seqL_of hs h h1; exact ⟨a, vs, e1, .inl q1, q2⟩
  · cases h2; obtain ⟨a, vs, e1, q1, q2⟩ := seqT_of h h1; exact ⟨a, vs, e1, .inr q1, q2⟩
  · cases h2
theorem e_extend {o e : Expr} {dO : DE} {das : DA} {apos cpos : Pos} (ho : SE X E o dO) (ha : SA X E [e] das) (hbase : attributeBase o "extend" X.env (eval o X.env) = eval o X.env := by rfl)
    (hfew : ((backTo cpos (starEach [e] X.env)).all (fun x => !x.1) && (backToKw cpos (keywordEach [] X.env)).all (fun x => x.1.isSome) && decide (([e] : List Expr).length + ([] : List Keyword).length + (if ([] : List Keyword).isEmpty then 0 else 1) < 30)) = true := by rfl)
    (hline : (apos.endLine == cpos.line) = true := by rfl) (hs : starEach [e] X.env = (false, eval e X.env) :: starEach [] X.env := by rfl) (hplain : (backTo cpos (starEach [] X.env)).any (·.1) = false := by rfl) :
    SE X E (.Call (.Attribute o "extend" apos) [e] [] cpos) (dMeth "list" gExt dO das) :=
  e_meth mt_extS (fun v1 vs H Q h => by
    obtain ⟨φ, S, x, ws, w, S', hs, hx, hws, hg, hq⟩ := h
    unfold gExt at hg
    split at hg
    · rename_i n y
      split at hg
      · rename_i xs ys hS hy
        split at hg
        · rename_i hz
          cases hg
          obtain ⟨c, ha, rfl⟩ := hx
          obtain ⟨v, rfl, hv⟩ := one_of hws
          obtain ⟨b, zs, rfl, f1, f2⟩ := seqD_of hs hv hy
          obtain ⟨us, q1, q2⟩ := hs.ob n c _ ha hS
          have nl : notLk S[n]? := by rw [hS]; trivial
          have ex := Ext.wr (o := .lst (us ++ zs)) hs ha nl
          refine ⟨c, b, us, zs, rfl, rfl, q1, f1, by rw [q2.length, f2.length]; exact small_le hz, hq φ _ _ ex (hs.wr ha nl ⟨_, upd_same, RDs.append (RDs.mono ex _ _ q2) (RDs.mono ex _ _ f2)⟩) rfl⟩
        · cases hg
      · cases hg
    · cases hg) F.plainAttrs_list F.slot_list_extend F.type_list_extend ho ha hbase hfew hline hs hplain
end
end CL
end

section
/-! part CLKw -/
set_option Elab.async false
set_option linter.all false
set_option maxRecDepth 100000
/-! CLKw: calls of defs by keywords alone; dict comprehensions; items of a dict. -/
namespace CL
open PySem PySem.Spec PyProof.Rows L2
section
variable {X : Cx} {E : EK} {pos p : Pos} {e : Expr} {kws : List Keyword} {de : DE} {das : DA} {x : Str} {F : DF} {j k : Nat} {CX : CXT}
/-! ### f(k = e, ..) -/
abbrev SK (X : Cx) (E : EK) (kws : List Keyword) (d : DA) : Prop := PK X kws (tA X.K X.mg E d)
theorem PKw {kws : List Keyword} {t t' : TA} (h : PK X kws t) (k : ∀ σ H Q, t' σ H Q → t σ H Q) : PK X kws t' := ⟨fun ps pins s σ H Q I q => h.run ps pins s σ H Q I (k σ H Q q)⟩
theorem cons_rd {dr : DA} (σV : L2.St) (H : Hp) (Q : List V → Hp → Prop) (q : tA X.K X.mg E (dCons de dr) σV H Q) : tCons (tE X.K X.mg E de) (tA X.K X.mg E dr) σV H Q := by
  obtain ⟨φ, σ, S, r', hs, he, hd, hq⟩ := q
  unfold dCons at hd
  match ha : de σ S, hd with
  | none, hd => cases hd
  | some (.xc x S1), hd => cases hd; exact ⟨φ, σ, S, .xc x S1, hs, he, ha, hq⟩
  | some (.ok x S1), hd =>
    refine ⟨φ, σ, S, .ok x S1, hs, he, ha, fun φ1 H1 v1 e1 s1 x1 => ?_⟩
    rw [bnd_ok] at hd
    match hb : dr σ S1, hd with
    | none, hd => cases hd
    | some (.xc y S2), hd => cases hd; exact ⟨φ1, σ, S1, .xc y S2, s1, he.mono e1, hb, XR.keep e1 hq⟩
    | some (.ok xs S2), hd =>
      cases hd
      exact ⟨φ1, σ, S1, .ok xs S2, s1, he.mono e1, hb, fun φ2 H2 vs e2 s2 y2 => hq φ2 H2 (v1 :: vs) (e1.trans e2) s2 ⟨v1, vs, rfl, x1.mono e2, y2⟩⟩
theorem k_nil : SK X E [] dNil := PKw pk_nil fun σV H Q ⟨φ, σ, S, r, hs, he, hd, hq⟩ => by cases hd; exact hq φ H [] .refl hs rfl
theorem k_cons {nm : Option Str} {kp : Pos} {dr : DA} (ha : SE X E e de) (hr : SK X E kws dr) : SK X E (⟨nm, e, kp⟩ :: kws) (dCons de dr) := PKw (pk_cons ha hr) cons_rd
/-- the arguments in the parameters' order -/
def pick {α : Type} (π : List Nat) (l : List α) : List α := π.filterMap fun i => l[i]?
theorem pick_vals {vs : List V} {us : List Value} (r : Vals vs us) : ∀ π : List Nat, Vals (pick π vs) (pick π us)
  | [] => .nil
  | i :: π => by
    have ih := pick_vals r π
    unfold pick at ih ⊢
    rw [List.filterMap_cons, List.filterMap_cons]
    cases h : vs[i]? with
    | none =>
      have hl := r.length
      have : us[i]? = none := by
        rw [List.getElem?_eq_none_iff] at h ⊢; omega
      rw [this]; exact ih
    | some v =>
      obtain ⟨u, h1, h2⟩ := r.get h
      rw [h1]; exact .cons h2 ih
theorem pick_rws {K : PySem.W.Frag} {H : Hp} {φ : Fi} {mg : Str → Option Value} {ws : List W} {vs : List V} (r : RWs K H φ mg ws vs) : ∀ π : List Nat, RWs K H φ mg (pick π ws) (pick π vs)
  | [] => rfl
  | i :: π => by
    have ih := pick_rws r π
    unfold pick at ih ⊢
    rw [List.filterMap_cons, List.filterMap_cons]
    cases h : ws[i]? with
    | none =>
      have hl := r.length
      have : vs[i]? = none := by
        rw [List.getElem?_eq_none_iff] at h ⊢; omega
      rw [this]; exact ih
    | some v =>
      obtain ⟨u, h1, h2⟩ := r.get h
      rw [h1]; exact ⟨u, _, rfl, h2, ih⟩
def dFnK (F : DF) (π : List Nat) (as : DA) : DE := fun σ S => bnd (as σ S) fun ws S1 => if ws.length = π.length then F (pick π ws) S1 else none
theorem e_fnK {π : List Nat} {ks ps : List Str} {f : Addr} {fd : FuncData} (hF : FnG X.prog X.w X.K X.mg X.base CX k f fd ps (spF X.K X.mg F)) (hgd : X.A.guards = some []) (hr : Room k X.A) (hm : X.mg x = some (.ref f)) (hk : PySem.W.keepIn X.K (.ref f) = true)
    (hb : ∀ (s : Shared) (us : List Value), us.length = π.length → BindsTo s fd ⟨[], ks.zip us⟩ (ps.zip (pick π us))) (hx : PaAt CX X E) (ha : SK X E kws das) (hg : Gl X x := by rfl)
    (hall : (backToKw pos (keywordEach kws X.env)).all (·.1.isSome) = true := by rfl) (hks : (backToKw pos (keywordEach kws X.env)).filterMap (·.1) = ks := by rfl) (hdb : (x == ("__debug__" : Str)) = false := by decide)
    (hpl : ((backTo pos (starEach [] X.env)).any (·.1) || (backToKw pos (keywordEach kws X.env)).any (·.1.isNone)) = false := by rfl) : SE X E (.Call (.Name x p) [] kws pos) (dFnK F π das) := by
  refine ⟨fun pins s σ H Q I h => wpAny_Call_Name_kw (ld_glob I hg hm (PySem.W.callWith_KW0 (h₀ := X.base) I.ok.mod.kin hk hall ?_ hpl) hdb)⟩
  obtain ⟨φ, σ', S, r', hs, he, hd, hq⟩ := h
  unfold dFnK at hd
  match hda : das σ' S, hd with
  | none, hd => cases hd
  | some (.xc y S1), hd => cases hd; exact thn (ha.run pos pins s σ H (fun _ _ => False) I ⟨φ, σ', S, .xc y S1, hs, he, hda, hq⟩) fun us s1 ⟨vs, H1, I1, r, z⟩ => z.elim
  | some (.ok ws S1), hd =>
    refine thn (ha.run pos pins s σ H (fun vs H1 => ∃ φ1, Ext φ H φ1 H1 ∧ SR X.K H1 φ1 S1 ∧ RWs X.K H1 φ1 X.mg ws vs) I ⟨φ, σ', S, .ok ws S1, hs, he, hda, fun φ1 H1 v e1 s1 x1 => ⟨φ1, e1, s1, x1⟩⟩) fun us s1 ⟨vs, H1, I1, r, φ1, e1, s1', x1⟩ => ⟨I1.kIn, ?_⟩
    rw [hks]
    rw [bnd_ok] at hd
    split at hd
    · rename_i hl
      have hlu : us.length = π.length := by rw [← r.length, x1.length, hl]
      have hsp : spF X.K X.mg F (pick π vs) H1 Q (E σ) := ⟨φ1, S1, _, r', s1', pick_rws x1 π, hd, by
        cases r' with
        | ok w S2 => exact fun φ' H' v e' => hq φ' H' v (e1.trans e')
        | xc y S2 => exact XR.keep e1 hq⟩
      apply wpAny_call
      refine codeAny_mono (hF.run X.A X.stack s1 H1 ⟨[], ks.zip us⟩ _ _ Q (E σ) hgd hr I1.env0 (hb s1 us hlu) (pick_vals r π) hsp) ?_
      intro r2 s' hq2
      match r2, hq2 with
      | .error er, hq2 => exact hx σ pins H1 s1 er s' I1 hq2
      | .ok (.ret u), hq2 => exact I1.after hq2
    · cases hd
theorem kw_binds {K : PySem.W.Frag} {x : Str} {st : Stmt} {f : Addr} {fd fd' : FuncData} {π : List Nat} {ks ps : List Str} (F : Fun K x x st f fd') (lk : ∃ (oc : Value) (od : Option Addr) (osl : Array (Option Value)), K.lookup f = some ⟨oc, od, .func fd, osl⟩ ∧ fd.params.args.map (·.arg) = ps)
    (hb : ∀ (kV doc pm : Value) (an : Option Addr) (cdv ct : Value) (us : List Value), us.length = π.length → bindArgs (PySem.W.fnOf x x (defArgs st) (defBody st) (defScope st) .none kV doc pm an cdv ct) ⟨[], ks.zip us⟩ = pure (((defArgs st).args.map (·.arg)).zip (pick π us))) :
    ∀ (s : Shared) (us : List Value), us.length = π.length → BindsTo s fd ⟨[], ks.zip us⟩ (ps.zip (pick π us)) := by
  obtain ⟨oc, od, osl, l1, l2⟩ := lk
  obtain ⟨oc', od', kV, doc, pm, an, cdv, ct, osl', rfl, l3, _⟩ := F.ex
  rw [l1] at l3
  have e := Option.some.inj l3
  injection e with _ _ e _
  injection e with e
  subst e
  subst l2
  exact fun s us hl => .of_eq (hb kV doc pm an cdv ct us hl)
theorem e_callK {π : List Nat} {ks : List Str} {st : Stmt} {ps0 : List Str} (c : CalG X.prog X.w X.K X.mg X.base k x F) (D : DefG X.K X.mg x st ps0) (hgd : X.A.guards = some []) (hr : Room j X.A) (ha : SK X E kws das)
    (hb : ∀ (kV doc pm : Value) (an : Option Addr) (cdv ct : Value) (us : List Value), us.length = π.length → bindArgs (PySem.W.fnOf x x (defArgs st) (defBody st) (defScope st) .none kV doc pm an cdv ct) ⟨[], ks.zip us⟩ = pure (((defArgs st).args.map (·.arg)).zip (pick π us)))
    (hk : k ≤ j := by decide) (hg : Gl X x := by rfl)
    (hall : (backToKw pos (keywordEach kws X.env)).all (·.1.isSome) = true := by rfl) (hks : (backToKw pos (keywordEach kws X.env)).filterMap (·.1) = ks := by rfl) (hdb : (x == ("__debug__" : Str)) = false := by decide)
    (hpl : ((backTo pos (starEach [] X.env)).any (·.1) || (backToKw pos (keywordEach kws X.env)).any (·.1.isNone)) = false := by rfl) : SE X E (.Call (.Name x p) [] kws pos) (dFnK F π das) := by
  obtain ⟨f, fd, ps1, h1, h2, h3, h4, h5⟩ := c.ex
  obtain ⟨f', fd', F1, h6, _⟩ := D.ex
  rw [h2] at h6
  cases h6
  exact e_fnK h1 hgd (hr.mono hk) h2 h3 (kw_binds F1 h5 hb) pa0 ha hg hall hks hdb hpl
theorem e_callKX {π : List Nat} {ks : List Str} {st : Stmt} {ps0 : List Str} (c : CalX X.prog X.w X.K X.mg X.base k x F) (D : DefG X.K X.mg x st ps0) (hgd : X.A.guards = some []) (hr : Room j X.A) (tk : Tk X E) (ha : SK X E kws das)
    (hb : ∀ (kV doc pm : Value) (an : Option Addr) (cdv ct : Value) (us : List Value), us.length = π.length → bindArgs (PySem.W.fnOf x x (defArgs st) (defBody st) (defScope st) .none kV doc pm an cdv ct) ⟨[], ks.zip us⟩ = pure (((defArgs st).args.map (·.arg)).zip (pick π us)))
    (hk : k ≤ j := by decide) (hg : Gl X x := by rfl)
    (hall : (backToKw pos (keywordEach kws X.env)).all (·.1.isSome) = true := by rfl) (hks : (backToKw pos (keywordEach kws X.env)).filterMap (·.1) = ks := by rfl) (hdb : (x == ("__debug__" : Str)) = false := by decide)
    (hpl : ((backTo pos (starEach [] X.env)).any (·.1) || (backToKw pos (keywordEach kws X.env)).any (·.1.isNone)) = false := by rfl) : SE X E (.Call (.Name x p) [] kws pos) (dFnK F π das) := by
  obtain ⟨f, fd, ps1, h1, h2, h3, h4, h5⟩ := c.ex
  obtain ⟨f', fd', F1, h6, _⟩ := D.ex
  rw [h2] at h6
  cases h6
  exact e_fnK h1 hgd (hr.mono hk) h2 h3 (kw_binds F1 h5 hb) (paX tk) ha hg hall hks hdb hpl
/-! ### a dict comprehension -/
/-- .. makes a new object of the store; k: its number -/
def dcGo (o : Option Nat) (all : List PyData) (k : Nat) (vs : List Nat) (σ : En) (tg : Tg) (cond : DT) (key val : DE) : List PyData → So → M W
  | [], S => if keepB o all S = true then some (.ok (.r k) S) else none
  | x :: xs, S => if keepB o all S = true then
      match bindT tg (.d x) (wipeW σ vs) with
      | none => none
      | some σ1 => match cond σ1 S with
        | some (.ok true S1) => match key σ1 S1 with
          | some (.ok (.d y) S2) => match val σ1 S2 with
            | some (.ok (.d z) S3) => match S3[k]?, keyP y with
              | some (.dk kvs), some ky => if small (kvs.length + 1) = true then dcGo o all k vs σ tg cond key val xs (S3.set k (.dk (putD kvs ky z))) else none
              | _, _ => none
            | _ => none
          | _ => none
        | some (.ok false S1) => dcGo o all k vs σ tg cond key val xs S1
        | _ => none
    else none
def dDc (vs : List Nat) (it : DI) (tg : Tg) (cond : DT) (key val : DE) : DE := fun σ S => bnd (it σ S) fun p S1 => dcGo p.2 p.1 S1.length vs σ tg cond key val p.1 (S1 ++ [.dk []])
theorem dc_rd {vs : List Nat} {di : DI} {tgd : Tg} {dt : DT} {dk dv : DE} (hsub : subT tgd vs = true) (σV : L2.St) (H : Hp) (Q : VK) (q : tE X.K X.mg E (dDc vs di tgd dt dk dv) σV H Q) :
    tDc (iD X.K X.mg E di) (gT X.K tgd) (tT X.K X.mg EN dt) (tE X.K X.mg EN dk) (tE X.K X.mg EN dv) vs σV H Q := by
  obtain ⟨φ, σ, S, r, hs, hen, hd, hq⟩ := q
  unfold dDc at hd
  match ha : di σ S, hd with
  | none, hd => cases hd
  | some (.xc x S1), hd => cases hd; exact ⟨φ, σ, S, .xc x S1, hs, hen, ha, hq⟩
  | some (.ok (ds, o) S1), hd =>
    rw [bnd_ok] at hd
    refine ⟨φ, σ, S, .ok (ds, o) S1, hs, hen, ha, fun φ1 H1 J e1 s1 itd hz D hD => ?_⟩
    have ep := Ext.push (o := .dK []) hD s1
    have sp : SR X.K (upd H1 D (.dK [])) (φ1.push D) (S1 ++ [.dk []]) := s1.push hD (.dk' upd_same rfl)
    have kD : (φ1.push D).l[S1.length]? = some D := by
      show (φ1.l ++ [D])[S1.length]? = some D
      rw [← s1.len]; simp
    have up : ∀ {φ2 H2}, Ext (φ1.push D) (upd H1 D (.dK [])) φ2 H2 → φ2.l[S1.length]? = some D := fun {φ2 H2} e => by
      obtain ⟨t, ht⟩ := e.pre
      rw [← ht, List.getElem?_append_left (List.getElem?_eq_some_iff.mp kD).1]; exact kD
    refine ⟨fun i m H2 => ∃ φ2 S2, i + m = ds.length ∧ Ext (φ1.push D) (upd H1 D (.dK [])) φ2 H2 ∧ SR X.K H2 φ2 S2 ∧ ER X.K H2 φ2 X.mg σV σ ∧ dcGo o ds S1.length vs σ tgd dt dk dv (ds.drop i) S2 = some r,
      ⟨ds.length, _, _, by omega, .refl, sp, (hen.mono e1).mono ep, hd⟩, fun i m H2 hW => ?_⟩
    obtain ⟨φ2, S2, hm, e2, s2, en2, hf⟩ := hW
    by_cases hlt : i < ds.length
    · have hdr : ds.drop i = ds[i] :: ds.drop (i + 1) := List.drop_eq_getElem_cons hlt
      rw [hdr] at hf
      unfold dcGo at hf
      split at hf
      · rename_i hk
        obtain ⟨go, yl⟩ := itd.go φ2 H2 S2 i ds[i] (ep.trans e2) s2 hk (List.getElem?_eq_getElem hlt)
        refine .inr ⟨go, fun H' => ∃ φ3 S3, i + 1 + (m - 1) = ds.length ∧ Ext (φ1.push D) (upd H1 D (.dK [])) φ3 H' ∧ SR X.K H' φ3 S3 ∧ ER X.K H' φ3 X.mg σV σ ∧ dcGo o ds S1.length vs σ tgd dt dk dv (ds.drop (i + 1)) S3 = some r,
          fun H' hN => ⟨m - 1, by omega, hN⟩, fun x H3 hy => ?_⟩
        obtain ⟨e3, s3, x3⟩ := yl x H3 hy
        have e23 := e2.trans e3
        match hbd : bindT tgd (.d ds[i]) (wipeW σ vs), hf with
        | none, hf => cases hf
        | some σ3, hf =>
          refine gT_wipe (wipe_er (en2.mono e3) vs) (w := .d ds[i]) x3 hbd hsub fun σV3 en3 hw => ⟨hw, ?_⟩
          dsimp only at hf
          match hct : dt σ3 S2, hf with
          | none, hf => cases hf
          | some (.xc x S4), hf => cases hf
          | some (.ok false S4), hf =>
            exact ⟨φ2, σ3, S2, _, s3, en3, hct, fun φ4 H4 e4 s4 => iteF ⟨φ4, S4, by omega, e23.trans e4, s4, (en2.mono e3).mono e4, hf⟩⟩
          | some (.ok true S4), hf =>
            refine ⟨φ2, σ3, S2, _, s3, en3, hct, fun φ4 H4 e4 s4 => iteT ?_⟩
            dsimp only at hf
            match hky : dk σ3 S4, hf with
            | none, hf => cases hf
            | some (.xc x S5), hf => cases hf
            | some (.ok (.r _) S5), hf => cases hf
            | some (.ok (.g _) S5), hf => cases hf
            | some (.ok (.s _) S5), hf => cases hf
            | some (.ok (.p _ _) S5), hf => cases hf
            | some (.ok (.x _) S5), hf => cases hf
            | some (.ok (.d y) S5), hf =>
              refine ⟨φ4, σ3, S4, _, s4, en3.mono e4, hky, fun φ5 H5 v5 e5 s5 y5 => ?_⟩
              dsimp only at hf
              match hvl : dv σ3 S5, hf with
              | none, hf => cases hf
              | some (.xc x S6), hf => cases hf
              | some (.ok (.r _) S6), hf => cases hf
              | some (.ok (.g _) S6), hf => cases hf
              | some (.ok (.s _) S6), hf => cases hf
              | some (.ok (.p _ _) S6), hf => cases hf
              | some (.ok (.x _) S6), hf => cases hf
              | some (.ok (.d z) S6), hf =>
                refine ⟨φ5, σ3, S5, _, s5, (en3.mono e4).mono e5, hvl, fun φ6 H6 v6 e6 s6 z6 => ?_⟩
                dsimp only at hf
                split at hf
                · rename_i kvs ky hS hP
                  split at hf
                  · rename_i hsm
                    have eall := ((e23.trans e4).trans e5).trans e6
                    have haD := up eall
                    obtain ⟨es, h1, h2⟩ := s6.dk haD hS
                    have hl : es.length < sizeLine := by rw [h2.length]; exact small_le hsm
                    have nl : notLk S6[S1.length]? := by rw [hS]; trivial
                    have ex := Ext.wr (o := .dK (putK es ky v6)) s6 haD nl
                    refine ⟨es, ky, keyP_of (RD.mono e6 _ _ y5) hP, h1, hl, φ6, _, by omega, eall.trans ex, s6.wr haD nl (.dk' upd_same ((h2.mono ex).put (RD.mono ex _ _ z6))), ((((en2.mono e3).mono e4).mono e5).mono e6).mono ex, hf⟩
                  · cases hf
                · cases hf
      · cases hf
    · have hi : i = ds.length := by omega
      subst hi
      rw [List.drop_length] at hf
      unfold dcGo at hf
      split at hf
      · rename_i hk
        cases hf
        exact .inl ⟨itd.stop φ2 H2 S2 (ep.trans e2) s2 hk, hq φ2 H2 _ ((e1.trans ep).trans e2) s2 ⟨D, up e2, rfl⟩⟩
      · cases hf
theorem e_dc {kx vx tg iter : Expr} {ifs : List Expr} {scope : Scope} (own : List (Str × Nat)) {di : DI} {tgd : Tg} {dt : DT} {dk dv : DE} (hN : X.N.Nodup) (hi : SI X E tg iter di) (ok : BlkOk X.N X.env.scope scope own)
    (hg : ∀ (s : Shared) (H : Hp) (C : Addr) (cl : List (Str × Addr)) (fp : List Addr), PG (X.blk s H scope (compEnvC scope cl C X.env) fp) tg (gT X.K tgd)) (ht : ∀ (s : Shared) (H : Hp) (C : Addr) (cl : List (Str × Addr)) (fp : List Addr), STs (X.blk s H scope (compEnvC scope cl C X.env) fp) EN ifs dt)
    (hk : ∀ (s : Shared) (H : Hp) (C : Addr) (cl : List (Str × Addr)) (fp : List Addr), SE (X.blk s H scope (compEnvC scope cl C X.env) fp) EN kx dk) (he : ∀ (s : Shared) (H : Hp) (C : Addr) (cl : List (Str × Addr)) (fp : List Addr), SE (X.blk s H scope (compEnvC scope cl C X.env) fp) EN vx dv)
    (hsub : subT tgd (own.map (·.2)) = true := by rfl) (hc : X.calm = true := by rfl) (hs : ∀ x, foldedSetIterable iter X.env x = pure x := by intro _; rfl) :
    SE X E (.DictComp kx vx [⟨tg, iter, ifs, 0⟩] scope pos) (dDc (own.map (·.2)) di tgd dt dk dv) :=
  PEw (pe_dc (g := gT X.K tgd) (tt := tT X.K X.mg EN dt) (tk := tE X.K X.mg EN dk) (tv := tE X.K X.mg EN dv) hc hN hi ok hg ht hk he hs) (dc_rd hsub)
/-! ### what reads a dict that is walked -/
def dLockE (i : Nat) (d : DE) : DE := fun σ S => match lockS σ i S with
  | some (n, ob, S1) => match d σ S1 with
    | some (.ok w S2) => some (.ok w (S2.set n ob))
    | _ => none
  | none => none
theorem e_lock (i : Nat) {d : DE} (h : SE X E e d) : SE X E e (dLockE i d) := by
  refine PEw (pe_lock h) fun σV H Q q => ?_
  obtain ⟨φ, σ, S, r, hs, he, hd, hq⟩ := q
  unfold dLockE at hd
  split at hd
  · rename_i n ob S1 hl
    obtain ⟨a, u, hu, h0, mu, ha, or, back, lk⟩ := lock_of hs he hl
    refine ⟨a, u, h0, mu, fun od => ?_⟩
    obtain ⟨ex, s1⟩ := lk od
    split at hd
    · rename_i w S2 hx
      cases hd
      refine ⟨φ, σ, S1, .ok w S2, s1, he.mono ex, hx, fun φ2 H2 v e2 s2 x2 => ?_⟩
      have hfr : H2 a = some (.frz od u) := e2.frz a od u upd_same
      have eu := Ext.un hu h0 (List.mem_of_getElem? ha) e2
      have ha2 : φ2.l[n]? = some a := by
        obtain ⟨t, ht⟩ := e2.pre
        rw [← ht, List.getElem?_append_left (List.getElem?_eq_some_iff.mp ha).1]; exact ha
      exact ⟨hfr, hq φ2 _ v eu (SR.un hu hfr s2 ha2 (back _ _ upd_same eu)) (RW.map (fun _ _ q => fl_un hu hfr q) (fun _ _ q => tp_un hu hfr q) (fun _ _ q => xd_un hu hfr q) x2)⟩
    · cases hd
  · cases hd
def lkItems (S : So) : W → Option (List PyData)
  | .r n => match S[n]? with
    | some (.lkK kvs) => some (kvs.map fun p => .tuple [keyD p.1, p.2])
    | _ => none
  | _ => none
def dItems (d : DE) : DI := fun σ S => bnd (d σ S) fun w S1 => giv ((lkItems S1 w).bind fun xs => if small xs.length = true then some (xs, none) else none) S1
theorem KR.at_ {κ : Type} {K : PySem.W.Frag} {H : Hp} {φ : Fi} : ∀ {kvs : List (κ × PyData)} {es : List (κ × V)} {i : Nat} {q : κ × PyData} {ky : κ} {u : V}, KR K H φ kvs es → kvs[i]? = some q → es[i]? = some (ky, u) → q.1 = ky ∧ RD K H φ q.2 u
  | [], _, _, _, _, _, _, h, _ => by simp at h
  | p :: kvs, _, 0, q, ky, u, ⟨v, t, e1, h3, h4⟩, h, g => by
    subst e1
    simp at h g
    subst h
    obtain ⟨a1, a2⟩ := g
    subst a1; subst a2
    exact ⟨rfl, h3⟩
  | p :: kvs, _, i + 1, q, ky, u, ⟨v, t, e1, h3, h4⟩, h, g => by
    subst e1
    exact KR.at_ h4 (by simpa using h) (by simpa using g)
theorem iti_it {K : PySem.W.Frag} {d : Addr} {o : Obj} {es : List (Key × V)} {kvs : List (Key × PyData)} {φ : Fi} {H : Hp} (h : H d = some (.frz o (.dK es))) (k : KR K H φ kvs es) : ItD K (Iti d o es) (kvs.map fun p => .tuple [keyD p.1, p.2]) none φ H where
  go := fun φ2 H2 S i x e s _ hi => by
    rw [List.getElem?_map] at hi
    obtain ⟨q, h1, h2⟩ := Option.map_eq_some_iff.mp hi
    have hl := k.length
    have hlt := (List.getElem?_eq_some_iff.mp h1).1
    refine ⟨⟨e.frz _ _ _ h, by omega⟩, fun v H' hy => ?_⟩
    obtain ⟨T, ky, u, g1, rfl, hT, rfl⟩ := hy
    subst h2
    have g2 := KR.at_ k h1 g1
    obtain ⟨rfl, g2⟩ := g2
    exact pair_new s hT (keyD_rd q.1) (RD.mono e _ _ g2)
  stop := fun φ2 H2 S e s _ => ⟨e.frz _ _ _ h, by rw [List.length_map, k.length]; exact Nat.le_refl _⟩
theorem i_items {d : DE} {elts : List Expr} {kk : Nat} {tp apos cpos : Pos} (h : SE X E e d) (hbase : attributeBase e "items" X.env (eval e X.env) = eval e X.env := by rfl) (hline : (apos.endLine == cpos.line) = true := by rfl) :
    SI X E (.Tuple elts kk tp) (.Call (.Attribute e "items" apos) [] [] cpos) (dItems d) := by
  refine PIw (pi_items h hbase hline) fun σV H R q => ?_
  obtain ⟨φ, σ, S, r', hs, hen, hd, hq⟩ := q
  unfold dItems at hd
  match ha : d σ S, hd with
  | none, hd => cases hd
  | some (.xc x S1), hd => cases hd; exact ⟨φ, σ, S, .xc x S1, hs, hen, ha, hq⟩
  | some (.ok w S1), hd =>
    refine ⟨φ, σ, S, .ok w S1, hs, hen, ha, fun φ1 H1 v e1 s1 x1 => ?_⟩
    rw [bnd_ok] at hd
    match hg : (lkItems S1 w).bind (fun xs => if small xs.length = true then some (xs, (none : Option Nat)) else none), hd with
    | none, hd => cases hd
    | some z, hd =>
      cases hd
      obtain ⟨xs, g1, g2⟩ := Option.bind_eq_some_iff.mp hg
      split at g2
      · rename_i hz
        cases g2
        unfold lkItems at g1
        split at g1
        · rename_i n
          obtain ⟨c, hc, rfl⟩ := x1
          split at g1
          · rename_i kvs hS
            cases g1
            obtain ⟨es, ⟨od, q1⟩, q2, q3⟩ := s1.ob n c _ hc hS
            exact ⟨c, od, es, rfl, q1, hq φ1 H1 _ e1 s1 (iti_it q1 (.of q2 q3)) (small_le hz)⟩
          · cases g1
        · cases g1
      · cases g2
end
end CL
end

section
/-! part CLTset -/
set_option Elab.async false
set_option linter.all false
set_option maxRecDepth 100000
set_option maxHeartbeats 4000000
/-! CLTset: sorted(set(xs)) where xs is a list of tuples of texts and ints: the set's table in any World, then its items in some order. -/
namespace CL
open PySem PySem.Spec PyProof.Rows L2

section
variable {P : Program} {w : World} {A : Around} {E : Value → Shared → Prop} {s : Shared}
abbrev KT (P : Program) (w : World) (h : Heap) (k : List Key) (b : Addr) : Prop := IsTupleKey (mixKind P w) h k b
abbrev khash (P : Program) (w : World) (k : List Key) : Int := tupleKeyHash (mixKind P w) k
def Flat (v : Value) : Prop := (∃ i t, v = .int i t) ∨ ∃ z t, v = .str z t
theorem flat_of {k : List Key} {vs : List Value} (h : ItemsAre (mixKind P w) k vs) : ∀ v ∈ vs, Flat v := by
  induction h with
  | nil => exact fun v hv => nomatch hv
  | cons h1 _ ih =>
    intro v hv
    rcases List.mem_cons.mp hv with e | hv
    · subst e
      rcases keyIs_shape h1 with ⟨i, t, _, e⟩ | ⟨z, t, _, e⟩
      · exact .inl ⟨i, t, e⟩
      · exact .inr ⟨z, t, e⟩
    · exact ih v hv
theorem ofA_flat (n : Nat) {v : Value} (h : Flat v) : ofAClassStatement n v = pure false := by
  rcases h with ⟨i, t, e⟩ | ⟨z, t, e⟩ <;> subst e <;> cases n <;> rfl
theorem hashBy_flat (n : Nat) {v : Value} (h : Flat v) : ∃ b, hashByValue n v = pure b := by
  rcases h with ⟨i, t, e⟩ | ⟨z, t, e⟩ <;> subst e <;> cases n <;> exact ⟨_, rfl⟩
theorem noClass {k : List Key} {b : Addr} {Q : Bool → Shared → Prop} (hk : KT P w s.heap k b) (q : Q false s) : wpAny (model P w) A (ofAClassStatement 8 (.ref b)) Q E s := by
  have hT := hk.typeIs
  obtain ⟨o, its, n, ho, hc, hd, hi⟩ := hk
  unfold ofAClassStatement
  refine wpAny_bind (wpAny_typeOf hT ?_)
  dsimp only
  rw [show (("tuple" : String) == "tuple") = true from rfl]
  simp only [if_true, Bool.not_true, Bool.false_eq_true, if_false]
  try refine wpAny_bind (wpAny_pure ?_)
  try simp only [Bool.not_true, Bool.false_eq_true, if_false]
  show wpAny _ _ (seqItems? (.ref b) >>= _) _ _ s
  refine wpAny_bind (wpAny_seqItems ho hd (wpAny_bind ?_))
  show wpAny _ _ (forIn its _ _) _ _ s
  rw [← Array.forIn_toList]
  refine wpAny_forIn_list _ (fun l r s' => (r.1 = none ∧ s' = s) ∧ ∀ v ∈ l, Flat v) _ (fun v l r s' h => ?_) (fun r s' h => ?_) _ _ ⟨⟨rfl, rfl⟩, flat_of hi⟩
  · obtain ⟨⟨h1, rfl⟩, h2⟩ := h
    rw [ofA_flat _ (h2 v List.mem_cons_self)]
    refine wpAny_bind (wpAny_pure ?_)
    simp only [Bool.false_eq_true, if_false]
    exact wpAny_pure ⟨⟨rfl, rfl⟩, fun u hu => h2 u (List.mem_cons_of_mem _ hu)⟩
  · obtain ⟨⟨h1, rfl⟩, _⟩ := h
    obtain ⟨r1, r2⟩ := r
    cases h1
    exact wpAny_pure q
/-- whether a tuple's hash goes by value is left open -/
theorem hashAny {k : List Key} {b : Addr} {Q : Bool → Shared → Prop} (hk : KT P w s.heap k b) (q : ∀ v, Q v s) : wpAny (model P w) A (hashByValue 8 (.ref b)) Q E s := by
  have hT := hk.typeIs
  obtain ⟨o, its, n, ho, hc, hd, hi⟩ := hk
  unfold hashByValue
  refine wpAny_bind (wpAny_specialOf hT F.slot_tuple_hash.lookup ?_)
  show wpAny _ _ (seqItems? (.ref b) >>= _) _ _ s
  refine wpAny_bind (wpAny_seqItems ho hd (wpAny_bind ?_))
  show wpAny _ _ (forIn its _ _) _ _ s
  rw [← Array.forIn_toList]
  refine wpAny_forIn_list _ (fun l r s' => (r.1 = none ∧ s' = s) ∧ ∀ v ∈ l, Flat v) _ (fun v l r s' h => ?_) (fun r s' h => ?_) _ _ ⟨⟨rfl, rfl⟩, flat_of hi⟩
  · obtain ⟨⟨h1, rfl⟩, h2⟩ := h
    obtain ⟨bv, e⟩ := hashBy_flat 7 (h2 v List.mem_cons_self)
    rw [e]
    refine wpAny_bind (wpAny_pure ?_)
    cases bv with
    | true =>
      simp only [Bool.not_true, Bool.false_eq_true, if_false]
      exact wpAny_pure ⟨⟨rfl, rfl⟩, fun u hu => h2 u (List.mem_cons_of_mem _ hu)⟩
    | false =>
      simp only [Bool.not_false, if_true]
      exact wpAny_pure (wpAny_pure (q _))
  · obtain ⟨⟨h1, rfl⟩, _⟩ := h
    obtain ⟨r1, r2⟩ := r
    cases h1
    exact wpAny_pure (q _)
theorem unseen {k : List Key} {b : Addr} {Q : Bool → Shared → Prop} (hk : KT P w s.heap k b) {ys : List Value} (hy : ∀ y ∈ ys, ∃ k' c, y = .ref c ∧ KT P w s.heap k' c) (q : Q false s) : wpAny (model P w) A (searchCouldBeSeen (.ref b) ys) Q E s := by
  unfold searchCouldBeSeen
  refine wpAny_bind (wpAny_forIn_list _ (fun l r s' => (r.1 = none ∧ s' = s) ∧ ∀ y ∈ l, ∃ k' c, y = .ref c ∧ KT P w s.heap k' c) _ (fun v l r s' h => ?_) (fun r s' h => ?_) _ _ ⟨⟨rfl, rfl⟩, hy⟩)
  · obtain ⟨⟨h1, e⟩, h2⟩ := h
    subst e
    obtain ⟨k', c, e, hc⟩ := h2 v List.mem_cons_self
    subst e
    have go : ∀ r' : Option Bool × PUnit, r'.1 = none → (r'.1 = none ∧ s' = s') ∧ ∀ y ∈ l, ∃ k' c, y = Value.ref c ∧ KT P w s'.heap k' c := fun r' e => ⟨⟨e, rfl⟩, fun u hu => h2 u (List.mem_cons_of_mem _ hu)⟩
    dsimp only
    by_cases hv : (b == c || (carriedByValue (.ref b) && carriedByValue (.ref c))) = true
    · exact wp_if_pos hv (wpAny_pure (go _ rfl))
    · refine wp_if_neg hv (wpAny_bind (wpAny_eqIsQuiet_tuple hk ?_))
      simp only [Bool.not_true, Bool.false_eq_true, if_false]
      refine wpAny_bind (wpAny_eqIsQuiet_tuple hc ?_)
      simp only [Bool.not_true, Bool.false_eq_true, if_false]
      refine wpAny_bind (noClass hk ?_)
      simp only [Bool.false_eq_true, if_false]
      refine wpAny_bind (noClass hc ?_)
      simp only [Bool.false_eq_true, if_false]
      exact wpAny_pure (go _ rfl)
  · obtain ⟨⟨h1, rfl⟩, _⟩ := h
    obtain ⟨r1, r2⟩ := r
    cases h1
    exact wpAny_pure q
/-! ### the table and what stands in it -/
def entT (P : Program) (w : World) (q : Addr × List Key) : Int × Value := (khash P w q.2, .ref q.1)
structure SetS (P : Program) (w : World) (h : Heap) (a : Addr) (L : List (Addr × List Key)) (es : Array (Int × Value)) (ep : Nat) (t : SetTable) : Prop where
  ob : ∃ o, h.get? a = some o ∧ o.ExactSet ∧ o.data = .set es ep t
  rows : es.toList = L.map (entT P w)
  tab : TabOk t (L.map fun q => khash P w q.2)
  nd : (L.map (·.2)).Nodup
  key : ∀ q ∈ L, KT P w h q.2 q.1
  led : w.params.followText "set-order" = true ∨ t.led = true
  room : L.length * 5 < t.mask * 3
  few : L.length < 64
variable {a : Addr} {L : List (Addr × List Key)} {es : Array (Int × Value)} {ep : Nat} {t : SetTable}
theorem SetS.size (R : SetS P w s.heap a L es ep t) : es.size = L.length := by
  simpa using congrArg List.length R.rows
theorem fits_of (T : t.place.size = es.size) (D : t.dummies = #[]) (le : es.size ≤ t.mask) : t.fits es.size = true := by
  unfold SetTable.fits SetTable.fill
  rw [D, Bool.and_eq_true, beq_iff_eq, decide_eq_true_eq]
  exact ⟨T, by show t.place.size + 0 ≤ t.mask; omega⟩
theorem SetS.fits (R : SetS P w s.heap a L es ep t) : t.fits es.size = true := by
  have h1 := R.tab.sz
  have h2 := R.size
  have h3 := R.room
  rw [List.length_map] at h1
  exact fits_of (by omega) R.tab.dm (by omega)
theorem SetS.at_ (R : SetS P w s.heap a L es ep t) {i : Nat} {q : Addr × List Key} (h : L[i]? = some q) : es[i]? = some (khash P w q.2, .ref q.1) := by
  rw [← Array.getElem?_toList, R.rows, List.getElem?_map, h]; rfl
theorem dummy_nth (m : Nat) : ∀ (n : Nat) (p : SetTable.Probe), p.dummy = none → (nth m p n).dummy = none
  | 0, _, h => h
  | n + 1, p, h => dummy_nth m n (adv m p) (by unfold adv; split <;> exact h)
/-- the search of a tuple that is to be added -/
theorem seek (R : SetS P w s.heap a L es ep t) {x : Addr} {k : List Key} (hx : KT P w s.heap k x) (hu : A.units < cLine) {Q : SetFound → Shared → Prop} (hin : k ∈ L.map (·.2) → Q (.there none) s)
    (hout : ∀ K, k ∉ L.map (·.2) → way t.mask (khash P w k) K ∉ t.place.toList → (∀ c, c < K → way t.mask (khash P w k) c ∈ t.place.toList) → Q (.free (way t.mask (khash P w k) K) false) s) :
    wpAny (model P w) A (setSearch a (.ref x) (khash P w k) true) Q E s := by
  have hroom := R.room
  obtain ⟨K, hKf, hK, hKb⟩ := R.tab.first (by rw [List.length_map]; omega) (khash P w k)
  obtain ⟨o, ho, hex, hd⟩ := R.ob
  generalize eN : (fun c => nth t.mask (runAt t.mask (SetTable.bits (khash P w k) % (t.mask + 1)) (SetTable.bits (khash P w k))) c) = N
  have nw : ∀ c, (N c).j = way t.mask (khash P w k) c := fun c => by rw [← eN]
  have nn : ∀ c q, nth t.mask (N c) q = N (c + q) := fun c q => by rw [← eN]; exact (nth_add t.mask c _ q).symm
  have nd : ∀ c, (N c).dummy = none := fun c => by rw [← eN]; exact dummy_nth _ _ _ rfl
  have hz : ∀ (i : Nat) q, L[i]? = some q → (es[i]?.map (·.1)).getD 0 = khash P w q.2 := fun i q hq => by rw [R.at_ hq]; rfl
  suffices main : ∀ (f c : Nat) (stand : Option SetTable.Probe), stand.getD (t.probeStart (khash P w k)) = N c → c ≤ K → K - c < f →
      (∀ (i : Nat) q, L[i]? = some q → q.2 = k → ∃ c', c ≤ c' ∧ c' < K ∧ t.place.toList[i]? = some (N c').j) → wpAny (model P w) A (setSearchFrom a (.ref x) (khash P w k) true f stand) Q E s by
    unfold setSearch
    have big : 10 * SetTable.turns t.mask ≤ 1420 := by
      unfold SetTable.turns
      rcases R.tab.mok with e | e | e <;> omega
    refine main 100000 0 none (by rw [← eN]; rfl) (Nat.zero_le _) (by omega) fun i q hq hk => ?_
    have hi : (L.map fun q => khash P w q.2)[i]? = some (khash P w k) := by rw [List.getElem?_map, hq, ← hk]; rfl
    have hsz := R.tab.sz
    rw [List.length_map] at hsz
    have hil : i < t.place.toList.length := by
      have h1 : i < L.length := (List.getElem?_eq_some_iff.mp hq).1
      rw [Array.length_toList]; omega
    have hj := List.getElem?_eq_getElem hil
    obtain ⟨c, hc, e⟩ := R.tab.before hK hi hj
    exact ⟨c, Nat.zero_le _, hc, by rw [hj, nw, e]⟩
  intro f
  induction f with
  | zero => exact fun c stand _ _ hf => absurd hf (Nat.not_lt_zero _)
  | succ f ih =>
    intro c stand hst hc hf hre
    rw [setSearchFrom_succ]
    refine wpAny_bind (wpAny_setState_of ho hd R.fits ?_)
    dsimp only
    have gw : ¬ t.gaveWay = true := by unfold SetTable.gaveWay; rw [mask_odd R.tab.mok]; decide
    refine wp_if_neg gw ?_
    try refine wpAny_bind (wpAny_pure ?_)
    have spec := go_spec t R.tab.ris R.tab.dm (fun i => (es[i]?.map (·.1)).getD 0) (khash P w k) (10 * SetTable.turns t.mask) (K - c) (N c) (nd c) (by omega)
      (fun q hq => by rw [nn, nw]; exact hKb (c + q) (by omega)) (by rw [nn, nw, show c + (K - c) = K by omega]; exact hK)
    rcases spec with ⟨q, i, hq, hi, hh, hno, hpr⟩ | ⟨hno, hpr⟩
    · have pr : t.probe (fun i => (es[i]?.map (·.1)).getD 0) (khash P w k) (stand.getD (t.probeStart (khash P w k))) = some (.candidate (N (c + q)).j i (N (c + (q + 1)))) := by
        rw [hst, ← nn, ← nn]; exact hpr
      rw [pr]
      dsimp only
      rw [nn] at hi
      have hil : i < L.length := by
        have h1 := (List.getElem?_eq_some_iff.mp hi).1
        have h2 := R.tab.sz
        rw [List.length_map] at h2
        rw [Array.length_toList] at h1
        omega
      have hr : L[i]? = some L[i] := List.getElem?_eq_getElem hil
      generalize L[i] = r at hr
      have hm : r ∈ L := List.mem_of_getElem? hr
      have rest : wpAny (model P w) A (searchRest a (.ref x) (khash P w k) true f es t (N (c + q)).j i (N (c + (q + 1)))) Q E s := by
        unfold searchRest
        rw [R.at_ hr]
        refine wpAny_bind (wpAny_holding (wpAny_eqBool_tuple hu (R.key r hm) hx ?_))
        refine wpAny_bind (wpAny_setState_of ho hd R.fits ?_)
        by_cases hk : r.2 = k
        · exact wp_if_pos (by simp [hk]) (wpAny_pure (hin (List.mem_map.mpr ⟨r, hm, hk⟩)))
        · refine wp_if_neg (by simp [hk]) ?_
          try refine wpAny_bind (wpAny_pure ?_)
          rw [sameMem]
          have hsl : t.slot (N (c + q)).j = .live i := slot_live R.tab.ris hi
          simp only [if_true, hsl, R.at_ hr]
          refine wpAny_bind (wpAny_isSame_ref_self (wpAny_bind (wpAny_pure ?_)))
          simp only [if_true]
          refine wp_if_neg (by simp [hk]) (ih (c + (q + 1)) _ rfl (by omega) (by omega) fun i0 r0 h0 k0 => ?_)
          obtain ⟨c', a1, a2, a3⟩ := hre i0 r0 h0 k0
          refine ⟨c', ?_, a2, a3⟩
          by_cases z : c' < c + q
          · exact absurd ((hz i0 r0 h0).trans (congrArg (khash P w) k0)) (hno (c' - c) i0 (by omega) (by rw [nn, show c + (c' - c) = c' by omega]; exact a3))
          · by_cases y : c' = c + q
            · subst y
              have s0 := slot_live R.tab.ris a3
              rw [hsl] at s0
              injection s0 with s0
              rw [← s0, hr] at h0
              exact absurd ((congrArg Prod.snd (Option.some.inj h0)).trans k0) hk
            · omega
      by_cases hl : t.led = true
      · refine wp_if_neg (by simp [hl]) ?_
        try refine wpAny_bind (wpAny_pure ?_)
        exact rest
      · refine wp_if_pos (by simp [hl]) (wpAny_bind (unseen hx (fun y hy => ?_) (wp_if_neg (by decide) ?_)))
        · obtain ⟨e, he, ee⟩ := List.mem_map.mp hy
          have he2 : e ∈ es.toList := by
            have he1 : e ∈ es ∧ e.1 = khash P w k := by simpa using he
            simpa using he1.1
          rw [R.rows] at he2
          obtain ⟨r2, m2, e2⟩ := List.mem_map.mp he2
          exact ⟨r2.2, r2.1, by rw [← ee, ← e2]; rfl, R.key r2 m2⟩
        · try refine wpAny_bind (wpAny_pure ?_)
          exact rest
    · have pr : t.probe (fun i => (es[i]?.map (·.1)).getD 0) (khash P w k) (stand.getD (t.probeStart (khash P w k))) = some (.empty (way t.mask (khash P w k) K) none) := by
        have e2 : way t.mask (khash P w k) K = (nth t.mask (N c) (K - c)).j := by rw [nn, nw, show c + (K - c) = K by omega]
        rw [hst, e2]; exact hpr
      rw [pr]
      dsimp only
      refine wpAny_pure (hout K (fun hm => ?_) hK hKb)
      obtain ⟨r0, m0, k0⟩ := List.mem_map.mp hm
      obtain ⟨i0, hi0, e0⟩ := List.getElem_of_mem m0
      have h0 : L[i0]? = some r0 := by rw [List.getElem?_eq_getElem hi0, e0]
      obtain ⟨c', a1, a2, a3⟩ := hre i0 r0 h0 k0
      exact hno (c' - c) i0 (by omega) (by rw [nn, show c + (c' - c) = c' by omega]; exact a3) ((hz i0 r0 h0).trans (congrArg (khash P w) k0))
/-! ### the table laid anew; one more row -/
theorem kt_off {h h' : Heap} {k : List Key} {a b : Addr} {o : Obj} {es : Array (Int × Value)} {ep : Nat} {t : SetTable} (hb : KT P w h k b) (ho : h.get? a = some o) (hd : o.data = .set es ep t) (hs : Heap.SameBut a h h') : KT P w h' k b := by
  obtain ⟨u, its, n, hu, r, d, q⟩ := hb
  refine ⟨u, its, n, ?_, r, d, q⟩
  rw [hs.2 b ?_]; exact hu
  rintro rfl
  rw [hu] at ho; cases ho
  rw [hd] at d; cases d
theorem picked (es : Array (Int × Value)) (L : List (Addr × List Key)) (hr : es.toList = L.map (entT P w)) (order : Array Nat) (hp : order.toList.Perm (List.range L.length)) :
    ∃ L2 : List (Addr × List Key), (order.filterMap (es[·]?)).toList = L2.map (entT P w) ∧ L2.Perm L ∧ (L2.map fun q => khash P w q.2) = order.toList.map fun i => (es.map (·.1)).getD i 0 := by
  have at_ : ∀ i : Nat, es[i]? = (L[i]?).map (entT P w) := fun i => by rw [← Array.getElem?_toList, hr, List.getElem?_map]
  refine ⟨order.toList.filterMap fun i => L[i]?, ?_, ?_, ?_⟩
  · rw [Array.toList_filterMap, List.map_filterMap]
    exact congrArg (fun f => List.filterMap f order.toList) (funext fun i => at_ i)
  · have h1 := hp.filterMap fun i => L[i]?
    refine h1.trans ?_
    have h2 : (List.range L.length).map (fun i => L[i]?) = L.map some := by
      apply List.ext_getElem
      · simp
      · intro i h1 h2; simp at h1 ⊢
    have h3 : (List.range L.length).filterMap (fun i => L[i]?) = L := by
      have : (List.range L.length).filterMap (fun i => L[i]?) = ((List.range L.length).map fun i => L[i]?).filterMap id := by rw [List.filterMap_map]; rfl
      rw [this, h2, List.filterMap_map]
      simp
    rw [h3]
  · have go : ∀ l : List Nat, (∀ i ∈ l, i < L.length) → ((l.filterMap fun i => L[i]?).map fun q => khash P w q.2) = l.map fun i => (es.map (·.1)).getD i 0 := by
      intro l
      induction l with
      | nil => exact fun _ => rfl
      | cons i l ih =>
        intro hl
        have hi := hl i List.mem_cons_self
        have e1 : (es.map (·.1)).getD i 0 = khash P w (L[i]).2 := by
          have : (es.map (·.1))[i]? = some (khash P w (L[i]).2) := by rw [Array.getElem?_map, at_, List.getElem?_eq_getElem hi]; rfl
          simp [Array.getD_eq_getD_getElem?, this]
        rw [List.filterMap_cons_some (List.getElem?_eq_getElem hi), List.map_cons, List.map_cons, ih fun j hj => hl j (List.mem_cons_of_mem _ hj), e1]
    exact go _ fun i hi => List.mem_range.mp (hp.mem_iff.mp hi)
theorem relay {o : Obj} (ho : s.heap.get? a = some o) (hex : o.ExactSet) (hd : o.data = .set es ep t) (hr : es.toList = L.map (entT P w)) (hsz : t.place.size = es.size) (hdm : t.dummies = #[]) (hfl : es.size ≤ t.mask)
    (nd : (L.map (·.2)).Nodup) (key : ∀ q ∈ L, KT P w s.heap q.2 q.1) (ld : w.params.followText "set-order" = true ∨ t.led = true) (few : L.length < 64) {wanted M : Nat}
    (hw : SetTable.sizeAbove wanted - 1 = M) (hM : MaskOk M) (hw2 : SetTable.sizeAbove wanted ≤ 128) (hn : L.length * 5 < M * 3) {Q : Unit → Shared → Prop}
    (q : ∀ h' L' es' ep' t', Heap.SameBut a s.heap h' → SetS P w h' a L' es' ep' t' → L'.Perm L → Q () { s with heap := h' }) : wpAny (model P w) A (setRelay a wanted) Q E s := by
  have hl : es.size = L.length := by simpa using congrArg List.length hr
  obtain ⟨t', order, e, hp, T, em, el, ep', ed⟩ := relaid_ok t (hs := es.map (·.1)) (wanted := wanted) hw hM (by rw [Array.size_map, hl]; omega)
  rw [Array.size_map, hl] at hp
  obtain ⟨L2, r1, r2, r3⟩ := picked (P := P) (w := w) es L hr order hp
  rw [← r3] at T
  have hs2 : (order.filterMap (es[·]?)).size = es.size := by
    have h := congrArg List.length r1
    rw [Array.length_toList, List.length_map, r2.length_eq] at h
    omega
  rw [setRelay_eq]
  refine wpAny_bind (wpAny_setState_of ho hd (fits_of hsz hdm hfl) (wp_if_neg (by rw [sizeLine_eq]; omega) ?_))
  try refine wpAny_bind (wpAny_pure ?_)
  rw [e]
  refine wpAny_bind (wp_if_neg (by rw [hs2]; simp) ?_)
  try refine wpAny_bind (wpAny_pure ?_)
  refine wpAny_pure (wpAny_storeSet_of ho hd ?_ (by rw [hs2, hl, sizeLine_eq]; omega))
  have sb : Heap.SameBut a s.heap (s.heap.update a (Obj.putSet (order.filterMap (es[·]?)) t')) := .update ..
  exact q _ L2 _ (ep + 1) t' sb ⟨⟨_, store_at ho hd, ⟨hex.1, hex.2.1, hex.2.2⟩, rfl⟩, r1, T, (r2.map (·.2)).nodup_iff.mpr nd, fun z hz => kt_off (key z (r2.mem_iff.mp hz)) ho hd sb, by rw [el]; exact ld, by rw [r2.length_eq, em]; exact hn, by rw [r2.length_eq]; exact few⟩ r2
theorem addS1 (R : SetS P w s.heap a L es ep t) {x : Addr} {k : List Key} (hx : KT P w s.heap k x) (hu : A.units < cLine) (hf : L.length + 1 < 64) {Q : Bool → Shared → Prop}
    (q : ∀ b h' L' es' ep' t', Heap.SameBut a s.heap h' → SetS P w h' a L' es' ep' t' → (k ∈ L.map (·.2) ∧ L' = L ∨ k ∉ L.map (·.2) ∧ L'.Perm ((x, k) :: L)) → Q b { s with heap := h' }) :
    wpAny (model P w) A (setAddHashed a (.ref x) (khash P w k)) Q E s := by
  obtain ⟨o, ho, hex, hd⟩ := R.ob
  have hl := R.size
  have hroom := R.room
  unfold setAddHashed
  refine wpAny_holding ?_
  rw [show (100000 : Nat) = 99999 + 1 from rfl, setAddHashedIn_succ]
  refine wpAny_bind (wpAny_setState_of ho hd R.fits (wp_if_neg (by simp [byScan, Value.scannable]) ?_))
  try refine wpAny_bind (wpAny_pure ?_)
  refine wpAny_bind (seek R hx hu (fun hm => wpAny_pure (q false s.heap L es ep t (.refl a s.heap) R (.inl ⟨hm, rfl⟩))) fun K hm hK hb => ?_)
  refine wpAny_bind (wpAny_setState_of ho hd R.fits ?_)
  dsimp only
  obtain ⟨q1, q2, q3, q4, q5, q6, q7, q8, q9⟩ := R.tab.put hK hb
  generalize t.put (way t.mask (khash P w k) K) = pt at q1 q3 q4 q5 q6 q7 q8 q9 ⊢
  obtain ⟨t1, c⟩ := pt
  dsimp only at q1 q3 q4 q5 q6 q7 q8 q9 ⊢
  subst q1
  have hin : (SetTable.insertAt es (SetTable.below t.place (way t.mask (khash P w k) K)) (khash P w k, Value.ref x)).toList = (L.take (SetTable.below t.place (way t.mask (khash P w k) K)) ++ (x, k) :: L.drop (SetTable.below t.place (way t.mask (khash P w k) K))).map (entT P w) := by
    rw [SetTable.toList_insertAt, R.rows, List.map_append, List.map_cons, List.map_take, List.map_drop]; rfl
  generalize hc : SetTable.below t.place (way t.mask (khash P w k) K) = c at q2 q3 hin ⊢
  have pm : (L.take c ++ (x, k) :: L.drop c).Perm ((x, k) :: L) := by
    have := List.perm_middle (a := (x, k)) (l₁ := L.take c) (l₂ := L.drop c)
    rwa [List.take_append_drop] at this
  have hhs : (L.take c ++ (x, k) :: L.drop c).map (fun q => khash P w q.2) = (L.map fun q => khash P w q.2).take c ++ khash P w k :: (L.map fun q => khash P w q.2).drop c := by
    rw [List.map_append, List.map_cons, List.map_take, List.map_drop]
  rw [← hhs] at q3
  generalize L.take c ++ (x, k) :: L.drop c = L1 at pm q3 hin
  generalize SetTable.insertAt es c (khash P w k, Value.ref x) = es1 at hin ⊢
  have hl1 : L1.length = L.length + 1 := pm.length_eq
  have nd1 : (L1.map (·.2)).Nodup := (pm.map (·.2)).nodup_iff.mpr (List.nodup_cons.mpr ⟨hm, R.nd⟩)
  have he1 : es1.size = L.length + 1 := by rw [← hl1]; simpa using congrArg List.length hin
  -- whatever is kept of the hash's kind
  have fin : ∀ pl : Bool, ∀ t2 : SetTable, t2 = (if pl then t1 else { t1 with plain := false }) → wpAny (model P w) A (do storeSet a es1 t2; if (!false && t2.tooFull) = true then (do setRelay a (SetTable.grown (es.size + 1)); pure true) else pure true) Q E s := by
    intro pl t2 e2
    have T2 : TabOk t2 (L1.map fun q => khash P w q.2) ∧ t2.mask = t.mask ∧ t2.led = t.led ∧ t2.fill = L.length + 1 ∧ t2.tooFull = t1.tooFull := by
      rw [List.length_map] at q9
      cases pl with
      | true => rw [if_pos rfl] at e2; subst e2; exact ⟨q3, q4, q5, q9, rfl⟩
      | false => rw [if_neg Bool.false_ne_true] at e2; subst e2; exact ⟨⟨q3.ris, q3.dm, q3.sz, q3.mok, q3.bd, q3.reach⟩, q4, q5, q9, rfl⟩
    obtain ⟨w1, w2, w3, w4, _⟩ := T2
    refine wpAny_bind (wpAny_storeSet_of ho hd ?_ (by rw [he1, sizeLine_eq]; omega))
    have sb : Heap.SameBut a s.heap (s.heap.update a (Obj.putSet es1 t2)) := .update ..
    have ho1 := store_at (es' := es1) (t' := t2) ho hd
    generalize s.heap.update a (Obj.putSet es1 t2) = h1 at sb ho1 ⊢
    have key1 : ∀ z ∈ L1, KT P w h1 z.2 z.1 := fun z hz => by
      rcases List.mem_cons.mp (pm.mem_iff.mp hz) with e | hz
      · rw [e]; exact kt_off hx ho hd sb
      · exact kt_off (R.key z hz) ho hd sb
    have ld1 : w.params.followText "set-order" = true ∨ t2.led = true := by rw [w3]; exact R.led
    by_cases hfu : t2.tooFull = true
    · refine wp_if_pos (by simp [hfu]) (wpAny_bind ?_)
      have full : (L.length + 1) * 5 ≥ t2.mask * 3 := by
        have h := hfu
        unfold SetTable.tooFull at h
        rw [decide_eq_true_eq, w4] at h
        exact h
      rw [hl]
      have two : (t.mask = 7 ∧ L.length = 4) ∨ (t.mask = 31 ∧ L.length = 18) := by
        rw [w2] at full
        rcases R.tab.mok with e | e | e
        · left; rw [e] at full hroom; exact ⟨e, by omega⟩
        · right; rw [e] at full hroom; exact ⟨e, by omega⟩
        · exfalso; rw [e] at full; omega
      have go : ∀ M, SetTable.sizeAbove (SetTable.grown (L.length + 1)) - 1 = M → MaskOk M → SetTable.sizeAbove (SetTable.grown (L.length + 1)) ≤ 128 → (L.length + 1) * 5 < M * 3 →
          wpAny (model P w) A (setRelay a (SetTable.grown (L.length + 1))) (fun _ s' => wpAny (model P w) A (pure true) Q E s') E { s with heap := h1 } := fun M g1 g2 g3 g4 =>
        relay (s := { s with heap := h1 }) ho1 ⟨hex.1, hex.2.1, hex.2.2⟩ rfl hin (by rw [w1.sz, List.length_map, hl1, he1]) w1.dm (by rw [he1, w2]; rcases two with ⟨e, e2⟩ | ⟨e, e2⟩ <;> omega) nd1 key1 ld1 (by rw [hl1]; exact hf) g1 g2 g3 (by rw [hl1]; exact g4)
          fun h2 L2 es2 ep2 t2 sb2 R2 pm2 => wpAny_pure (q true h2 L2 es2 ep2 t2 (sb.trans sb2) R2 (.inr ⟨hm, pm2.trans pm⟩))
      rcases two with ⟨_, e2⟩ | ⟨_, e2⟩
      · exact go 31 (by rw [e2, size_20]) (.inr (.inl rfl)) (by rw [e2, size_20]; decide) (by omega)
      · exact go 127 (by rw [e2, size_76]) (.inr (.inr rfl)) (by rw [e2, size_76]; decide) (by omega)
    · refine wp_if_neg (by simp [hfu]) ?_
      refine wpAny_pure (q true h1 L1 es1 (ep + 1) t2 sb ⟨⟨_, ho1, ⟨hex.1, hex.2.1, hex.2.2⟩, rfl⟩, hin, w1, nd1, key1, ld1, ?_, by rw [hl1]; exact hf⟩ (.inr ⟨hm, pm⟩))
      have h := hfu
      unfold SetTable.tooFull at h
      rw [decide_eq_true_eq, w4] at h
      rw [hl1]; omega
  by_cases hp : t1.plain = true
  · first
      | (refine wpAny_bind ?_; refine wp_if_pos hp ?_; refine hashAny hx fun v => ?_)
      | refine wp_if_pos hp (wpAny_bind (hashAny hx fun v => ?_))
    exact fin v _ rfl
  · first
      | (refine wpAny_bind ?_; refine wp_if_neg hp ?_; refine wpAny_pure ?_)
      | refine wp_if_neg hp (wpAny_bind (wpAny_pure ?_))
    exact fin true _ rfl
/-! ### set(l) of a list of such tuples -/
structure Took (ks : List (Addr × List Key)) (i : Nat) (L : List (Addr × List Key)) : Prop where
  sub : ∀ q ∈ L, q ∈ ks
  all : ∀ q ∈ ks.take i, q.2 ∈ L.map (·.2)
  len : L.length ≤ i
theorem Took.step {ks L L' : List (Addr × List Key)} {i : Nat} {x : Addr} {k : List Key} (g : Took ks i L) (h : ks[i]? = some (x, k)) (c : k ∈ L.map (·.2) ∧ L' = L ∨ k ∉ L.map (·.2) ∧ L'.Perm ((x, k) :: L)) : Took ks (i + 1) L' := by
  have ht : ks.take (i + 1) = ks.take i ++ [(x, k)] := by rw [List.take_add_one, h]; rfl
  rcases c with ⟨c, e⟩ | ⟨c, p⟩
  · subst e
    refine ⟨g.sub, fun q hq => ?_, Nat.le_succ_of_le g.len⟩
    rw [ht] at hq
    rcases List.mem_append.mp hq with z | z
    · exact g.all q z
    · rw [List.mem_singleton.mp z]; exact c
  · refine ⟨fun q hq => ?_, fun q hq => ?_, ?_⟩
    · rcases List.mem_cons.mp (p.mem_iff.mp hq) with e | z
      · rw [e]; exact List.mem_of_getElem? h
      · exact g.sub q z
    · rw [(p.map (·.2)).mem_iff]
      rw [ht] at hq
      rcases List.mem_append.mp hq with z | z
      · exact List.mem_cons_of_mem _ (g.all q z)
      · rw [List.mem_singleton.mp z]; exact List.mem_cons_self
    · have := p.length_eq
      have := g.len
      simp at *; omega
theorem kt_keep {h h' : Heap} {k : List Key} {b : Addr} (x : KT P w h k b) (e : ∀ c o, h.get? c = some o → h'.get? c = some o) : KT P w h' k b := by
  obtain ⟨o, its, n, ho, r⟩ := x
  exact ⟨o, its, n, e b o ho, r⟩
theorem SetS.moved {h h' : Heap} (R : SetS P w h a L es ep t) (e : ∀ o, h.get? a = some o → h'.get? a = some o) (k : ∀ q ∈ L, KT P w h' q.2 q.1) : SetS P w h' a L es ep t :=
  ⟨let ⟨o, ho, r⟩ := R.ob; ⟨o, e o ho, r⟩, R.rows, R.tab, R.nd, k, R.led, R.room, R.few⟩
theorem set_empty {h : Heap} (ho : h.get? a = some { cls := .type "set", dict := none, data := .set #[] 0 (.fresh 0 0 (!w.params.followText "set-order")) }) : SetS P w h a [] #[] 0 (.fresh 0 0 (!w.params.followText "set-order")) := by
  have T : TabOk (.fresh 0 0 (!w.params.followText "set-order")) [] := ⟨List.Pairwise.nil, rfl, rfl, .inl rfl, fun x hx => (nomatch hx), fun i h j hi _ => (by cases i <;> cases hi)⟩
  have D : w.params.followText "set-order" = true ∨ (SetTable.fresh 0 0 (!w.params.followText "set-order")).led = true := by
    show _ ∨ (!w.params.followText "set-order") = true
    cases w.params.followText "set-order" <;> simp
  exact { ob := ⟨_, ho, ⟨rfl, rfl, rfl⟩, rfl⟩, rows := rfl, tab := T, nd := List.nodup_nil, key := fun q hq => (nomatch hq), led := D, room := (by show 0 * 5 < 7 * 3; decide), few := (by decide) }
theorem tup_loop {R : Result → Shared → Prop} {I : Addr} {fp wr : List Addr} {G : Array GenState → Array GenState → Prop} {n : Nat} {Pv : Nat → Value → Prop} {St : Nat → Shared → Prop} (W : WalksS P w A.in1 I fp wr G n Pv St) (Z : Addr) (hZ : Z ∉ fp)
    (ks : List (Addr × List Key)) (hn : n = ks.length) (hv : ∀ i v, Pv i v → ∃ q, ks[i]? = some q ∧ v = .ref q.1) (hb : n < 64) (hu : A.in1.units < cLine) (h0 : Heap) (hk : ∀ q ∈ ks, KT P w h0 q.2 q.1) (z0 : h0.get? Z = none) (w0 : ∀ b ∈ wr, h0.get? b = none) (m : Nat) :
    ∀ (i : Nat) (s : Shared), i + m = n → St i s → (∀ b o, h0.get? b = some o → s.heap.get? b = some o) → (∃ L es ep t, SetS P w s.heap Z L es ep t ∧ Took ks i L) →
      (∀ s' L es ep t, Moved (Z :: wr) G s s' → SetS P w s'.heap Z L es ep t → Took ks n L → (∀ b o, h0.get? b = some o → s'.heap.get? b = some o) → R (.ok (.ret .none)) s') →
      codeAny (model P w) A (.builtin "set.update.loop" ⟨[.ref Z, .ref I], []⟩) R s := by
  have hZw : Z ∉ wr := fun h => hZ (W.sub _ h)
  have up : ∀ b ∈ wr, b ∈ Z :: wr := fun b h => List.mem_cons_of_mem _ h
  have kp : ∀ {s s' : Shared}, Moved wr G s s' → (∀ b o, h0.get? b = some o → s.heap.get? b = some o) → ∀ b o, h0.get? b = some o → s'.heap.get? b = some o := fun mv hkp b o e =>
    mv.heap b o (fun hb => by rw [w0 b hb] at e; cases e) (hkp b o e)
  induction m with
  | zero =>
    intro i s hi st hkp hS hR
    obtain ⟨L, es, ep, t, hS, g⟩ := hS
    have ei : i = n := by omega
    subst ei
    refine codeAny_builtin PyProof.Rows.F.entry_set_update_loop ?_
    rw [Around.under_plainId PyProof.Rows.F.plain_set_update_loop _]
    exact wpAny_bind (m := pyNext (.ref I)) (W.done s _ _ st fun s' mv => wpAny_pure (hR s' L es ep t (mv.mono up) (hS.moved (fun o ho => mv.heap Z o hZw ho) fun q hq => kt_keep (hk q (g.sub q hq)) (kp mv hkp)) g (kp mv hkp)))
  | succ m ih =>
    intro i s hi st hkp hS hR
    obtain ⟨L, es, ep, t, hS, g⟩ := hS
    refine codeAny_builtin PyProof.Rows.F.entry_set_update_loop ?_
    rw [Around.under_plainId PyProof.Rows.F.plain_set_update_loop _]
    refine wpAny_bind (m := pyNext (.ref I)) (W.item i s _ _ (by omega) st fun v s' pv st' mv => ?_)
    obtain ⟨⟨x, k⟩, hx, rfl⟩ := hv i v pv
    have hkp' := kp mv hkp
    have hS1 : SetS P w s'.heap Z L es ep t := hS.moved (fun o ho => mv.heap Z o hZw ho) fun q hq => kt_keep (hk q (g.sub q hq)) hkp'
    have kx : KT P w s'.heap k x := kt_keep (hk (x, k) (List.mem_of_getElem? hx)) hkp'
    refine wpAny_bind (m := holding [Value.ref x] (setAdd Z (.ref x))) (wpAny_holding ?_)
    unfold setAdd
    refine wpAny_holding (wpAny_bind (wpAny_pyHash_tuple hu kx ?_))
    refine addS1 (s := { s' with toks := s'.toks + (k.length + 1) }) hS1 kx hu (by have := g.len; omega) fun b h' L' es' ep' t' sb hS2 c => ?_
    have hkp2 : ∀ b o, h0.get? b = some o → h'.get? b = some o := fun b o e => (sb.2 b (fun z => by rw [z, z0] at e; cases e)).trans (hkp' b o e)
    refine wpAny_pure ⟨plainId_quiet PyProof.Rows.F.plain_set_update_loop _, ih (i + 1) _ (by omega) (W.frame _ s' _ _ st' (Nat.le_add_right _ _) fun b hb' o eo => ?_) hkp2 ⟨L', es', ep', t', hS2, g.step hx c⟩ fun s2 L2 es2 ep2 t2 mv2 hS3 g3 kp3 =>
      hR s2 L2 es2 ep2 t2 (Moved.trans W.gtrans ((mv.mono up).then_heap (Nat.le_add_right _ _) fun b o hb' eo => ?_) mv2) hS3 g3 kp3⟩
    · rw [sb.2 b fun e : b = Z => hZ (e ▸ hb')]; exact eo
    · rw [sb.2 b fun e : b = Z => hb' (e ▸ List.mem_cons_self)]; exact eo
theorem set_tups {l : Addr} {its : Array Value} {ks : List (Addr × List Key)} {Q : Value → Shared → Prop} (h0 : A.handled = none) (hl : s.heap.IsList l its) (hi : its.toList = ks.map fun q => Value.ref q.1) (hk : ∀ q ∈ ks, KT P w s.heap q.2 q.1) (hb : ks.length < 64) (hu : A.units + 3 < cLine)
    (hQ : ∀ (h2 : Heap) (tk : Nat) L es ep t, SetS P w h2 s.heap.objs.size L es ep t → Took ks ks.length L → (∀ b o, s.heap.get? b = some o → h2.get? b = some o) → Q (.ref s.heap.objs.size) { s with heap := h2, toks := tk }) :
    wpAny (model P w) A (call (.type "set") [.ref l]) Q E s := by
  obtain ⟨m0, m1, m2⟩ := F.called_set.mro
  have y1 := F.called_set.made; have y2 := F.called_set.sub; have y3 := F.called_set.notType; have y4 := F.called_set.canCreate; have y5 := F.typeCall_set_1 (.ref l)
  refine wpAny_call (codeAny_of_tree (show wpAny _ _ (callAny (.type "set") _) _ _ _ from wpAny_pure ⟨Code.quiet_builtin _ (by decide +kernel), codeAny_builtin F.entry_type_call ?_⟩))
  rw [Around.under_plain (weight_type_call_type "set" [Value.ref l] ([] : List (Str × Value))) rfl]
  repeat (any_goals (first | wp_step | assumption))
  let H0 : Heap := s.heap.push { cls := .type "set", dict := none, data := .set #[] 0 (.fresh 0 0 (!w.params.followText "set-order")) }
  refine codeAny_mono (code_set_led1 (Value.ref l) (E := E) (Q₁ := fun u s1 => u = .ref s.heap.objs.size ∧ s1 = { s with heap := H0 }) ⟨rfl, rfl⟩) fun r s1 hr => ?_
  match r, hr with
  | .error e, hr => exact hr
  | .ok .next, hr => exact hr.elim
  | .ok .brk, hr => exact hr.elim
  | .ok .cont, hr => exact hr.elim
  | .ok (.ret u), hr =>
    obtain ⟨e1, e2⟩ := hr
    subst e1; subst e2
    have g0 : H0.get? s.heap.objs.size = some { cls := .type "set", dict := none, data := .set #[] 0 (.fresh 0 0 (!w.params.followText "set-order")) } := Heap.get?_push_size _ rfl
    have t0 : Shared.TypeIs { s with heap := H0 } (.ref s.heap.objs.size) "set" := ⟨_, g0, rfl⟩
    have i1 := F.called_set.init.lookup; have i2 := F.called_set.init.bind (Value.ref s.heap.objs.size)
    repeat (any_goals (first | wp_step | assumption))
    refine codeAny_mono (codeAny_call_builtin (R := wants (fun r s2 => r = .none ∧ ∃ h2 tk L es ep t, s2 = { s with heap := h2, toks := tk } ∧ SetS P w h2 s.heap.objs.size L es ep t ∧ Took ks ks.length L ∧ ∀ b o, s.heap.get? b = some o → h2.get? b = some o) E)
      F.called_set.init.plain F.entry_set_init (check_set_init_1 t0 ?_)) fun r2 s2 hr2 => ?_
    · obtain ⟨⟨oc, od, oda, osl⟩, ho, hc, nl, hd⟩ := id hl
      dsimp only at hc hd
      subst hc hd
      have g1 : H0.get? l = some { cls := .type "list", dict := od, data := .seq its nl, slots := osl } := Heap.get?_push_of_some _ ho
      have z1 := F.sub_list_set; have z2 := F.sub_list_frozenset
      have z3 : (Value.type "list" == Value.type "dict") = false := by decide
      have l1 : H0.IsList l its := ⟨_, g1, rfl, nl, rfl⟩
      have lS : l < s.heap.objs.size := Heap.lt_size ho
      have sz : H0.objs.size = s.heap.objs.size + 1 := Heap.size_push _ _
      unfold Builtin.«set.__init__» noKeywords Builtin.Frozenset.updateFrom
      generalize hPy : pyIter = Py
      wp_walk
      subst hPy
      refine wpAny_pyIter_list l1 (wpAny_bind (wpAny_runValue ?_))
      have len : ks.length = its.size := by rw [← Array.length_toList, hi, List.length_map]
      have nI : l ≠ H0.objs.size := by rw [sz]; exact Nat.ne_of_lt (Nat.lt_succ_of_lt lS)
      have nS : s.heap.objs.size ∉ [H0.objs.size, l] := by
        rw [sz]
        intro hm
        rcases List.mem_cons.mp hm with e | hm
        · exact Nat.ne_of_lt (Nat.lt_succ_self _) e
        · exact Nat.ne_of_gt lS (List.mem_singleton.mp hm)
      refine tup_loop ((Walks.list (by simp [h0]) _ l nI its).toS) s.heap.objs.size nS ks len.symm (fun i v hv => ?_) (by rw [← len]; exact hb) hu s.heap hk (Heap.get?_none_of_le (Nat.le_refl _)) (fun b hb => ?_) its.size 0 _ (by omega)
        ⟨⟨_, Heap.get?_push_size _ rfl, rfl, rfl⟩, l1.push _⟩ (fun b o e => Heap.get?_push_of_some _ (Heap.get?_push_of_some _ e)) ⟨[], _, _, _, set_empty (Heap.get?_push_of_some _ g0), ⟨fun q hq => (nomatch hq), fun q hq => by simp at hq, Nat.le_refl _⟩⟩ fun s' L es ep t mv q g k => ?_
      · have e : its.toList[i]? = some v := by rw [Array.getElem?_toList]; exact hv
        rw [hi, List.getElem?_map] at e
        obtain ⟨q, e1, e2⟩ := Option.map_eq_some_iff.mp e
        exact ⟨q, e1, e2.symm⟩
      · have e5 := List.mem_singleton.mp hb
        rw [e5, sz]
        exact Heap.get?_none_of_le (Nat.le_succ _)
      · obtain ⟨h2, gg, dd, tk, os⟩ := s'
        have e1 : gg = s.gens := mv.gens
        have e2 : dd = s.drawn := mv.drawn
        have e3 : os = s.os := mv.os
        subst e1; subst e2; subst e3
        rw [← len] at g
        exact wpAny_pure (wpAny_pure ⟨rfl, h2, tk, L, es, ep, t, rfl, q, g, k⟩)
    · match r2, hr2 with
      | .error e, hr2 => exact hr2
      | .ok .next, hr2 => exact hr2.elim
      | .ok .brk, hr2 => exact hr2.elim
      | .ok .cont, hr2 => exact hr2.elim
      | .ok (.ret v), hr2 =>
        obtain ⟨rfl, h2, tk, L, es, ep, t, rfl, q, g, k⟩ := hr2
        repeat (any_goals (first | wp_step | assumption))
        exact hQ _ _ _ _ _ _ q g k
end
end CL
end

section
/-! part CLTsort -/
set_option Elab.async false
set_option linter.all false
set_option maxRecDepth 100000
set_option maxHeartbeats 2000000
/-! CLTsort: sorted(set(xs)). -/
namespace CL
open PySem PySem.Spec PyProof.Rows L2

theorem perm_map_inv {α β : Type} {f : α → β} : ∀ {L : List α} {l : List β}, l.Perm (L.map f) → ∃ L' : List α, L'.Perm L ∧ l = L'.map f
  | [], l, h => ⟨[], .refl _, by simpa using h⟩
  | x :: L, l, h => by
    obtain ⟨l1, l2, e⟩ := List.append_of_mem (h.mem_iff.mpr (List.mem_map_of_mem (a := x) List.mem_cons_self))
    subst e
    have h2 : (l1 ++ l2).Perm (L.map f) := (List.perm_middle.symm.trans h).cons_inv
    obtain ⟨L', p, e⟩ := perm_map_inv h2
    obtain ⟨a, b, e1, e2, e3⟩ := List.map_eq_append_iff.mp e.symm
    subst e1
    exact ⟨a ++ x :: b, List.perm_middle.trans (p.cons x), by rw [List.map_append, List.map_cons, e2, e3]⟩
section
variable {P : Program} {w : World} {A : Around} {E : Value → Shared → Prop} {s : Shared}
theorem items_reads {h : Heap} {k : List Key} {vs : List Value} (x : ItemsAre (mixKind P w) k vs) : ReadsAll h vs (k.map keyD) [] := by
  induction x with
  | nil => exact .nil
  | cons h1 _ ih =>
    rcases keyIs_shape h1 with ⟨i, t, e1, e2⟩ | ⟨z, t, e1, e2⟩ <;> subst e1 <;> subst e2
    · exact .cons (as := []) (.int i t) ih
    · exact .cons (as := []) (.str z t) ih
theorem kt_reads {h : Heap} {k : List Key} {b : Addr} (x : KT P w h k b) : Reads h (.ref b) (tupOf k) [] := by
  obtain ⟨o, its, n, ho, hc, hd, hi⟩ := x
  exact .tuple ho hc hd (items_reads hi)
theorem each_refs {h : Heap} {p : Addr} : ∀ {L : List (Addr × List Key)}, (∀ q ∈ L, KT P w h q.2 q.1) → PySem.W.EachIs (fun (v : Value) (q : Addr × List Key) => ∃ as, Reads h v (tupOf q.2) as ∧ p ∉ as) (L.map fun q => .ref q.1) L
  | [], _ => .nil
  | q :: L, k => .cons ⟨[], kt_reads (k q List.mem_cons_self), List.not_mem_nil⟩ (each_refs fun z hz => k z (List.mem_cons_of_mem _ hz))
theorem each_self : ∀ L : List (Addr × List Key), PySem.W.EachIs (fun (v : Value) (q : Addr × List Key) => v = .ref q.1) (L.map fun q => .ref q.1) L
  | [] => .nil
  | q :: L => .cons rfl (each_self L)
theorem self_each : ∀ {L : List (Addr × List Key)} {vs : List Value}, PySem.W.EachIs (fun (v : Value) (q : Addr × List Key) => v = .ref q.1) vs L → vs = L.map fun q => .ref q.1
  | [], _, .nil => rfl
  | q :: L, _, .cons e t => by rw [self_each t, e]; rfl
theorem sorted_setS {a : Addr} {L : List (Addr × List Key)} {es : Array (Int × Value)} {ep : Nat} {t : SetTable} {Q : Value → Shared → Prop} (R : SetS P w s.heap a L es ep t) (hh : A.handled = none) (hu : A.units + 64 < cLine) (ok : sortOk (L.map fun q => tupOf q.2) = true)
    (q : ∀ s' p c (L' : List (Addr × List Key)), (∀ b o, s.heap.get? b = some o → s'.heap.get? b = some o) → s'.gens = s.gens → s'.os = s.os → s.heap.objs.size ≤ p → L'.Perm L →
      s'.heap.get? p = some (seqObj "list" ((L'.mergeSort (PySem.W.dataLe false fun q => tupOf q.2)).map fun q => Value.ref q.1).toArray c) → Q (.ref p) s') :
    wpAny (model P w) A (call (.builtin "sorted") [.ref a]) Q E s := by
  obtain ⟨o, ho, hex, hd⟩ := R.ob
  have hsz := R.size
  have hfew := R.few
  obtain ⟨o1, o2, o3, o4⟩ := sortOk_of ok
  refine Calls.call_function_entry kind_sorted plain_sorted entry_sorted (args_sorted1 _) ?_
  unfold Builtin.«sorted»
  refine wpAny_bind (m := checkCount "sorted" 1 1 _) (wpAny_pure (wpAny_bind (collect_set (A := A.in1) hh ⟨o, ho, hex.1, hd⟩ R.fits (by unfold scanBound; omega) R.tab.ris R.led fun s1 vs k1 hz g1 x1 pm => ?_)))
  have hes : es.toList.map (·.2) = L.map fun q => Value.ref q.1 := by rw [R.rows, List.map_map]; rfl
  rw [hes] at pm
  obtain ⟨L', pL, e⟩ := perm_map_inv pm
  subst e
  have hl : (L'.map fun q => Value.ref q.1).length < 64 := by rw [List.length_map, pL.length_eq]; exact hfew
  refine wpAny_bind (wpAny_newList ?_ (by rw [sizeLine_eq]; omega))
  have hoL : (s1.heap.push (seqObj "list" (L'.map fun q => Value.ref q.1).toArray 0)).get? s1.heap.objs.size = some (seqObj "list" (L'.map fun q => Value.ref q.1).toArray 0) := Heap.get?_push_size _ rfl
  have up : ∀ b u, s.heap.get? b = some u → (s1.heap.push (seqObj "list" (L'.map fun q => Value.ref q.1).toArray 0)).get? b = some u := fun b u e => Heap.get?_push_of_some _ (k1 b u e)
  have key : ∀ q ∈ L', KT P w (s1.heap.push (seqObj "list" (L'.map fun q => Value.ref q.1).toArray 0)) q.2 q.1 := fun q hq => kt_keep (R.key q (pL.mem_iff.mp hq)) up
  have pe : (L'.map fun q => tupOf q.2).Perm (L.map fun q => tupOf q.2) := pL.map _
  refine wpAny_bind (wpAny_holding (PySem.W.list_sort_data (s := { s1 with heap := s1.heap.push (seqObj "list" (L'.map fun q => Value.ref q.1).toArray 0) }) (enc := fun q : Addr × List Key => tupOf q.2) hoL (each_self L') (each_refs key)
    (fun d hd e he => o1 d (pe.mem_iff.mp hd) e (pe.mem_iff.mp he)) ?_ (by rw [sizeLine_eq]; rw [List.length_map] at hl; omega) (fun b hb => ?_) fun out hlo eo => ?_))
  · rcases o2 with o2 | o2
    · exact .inl fun d hd => o2 d (pe.mem_iff.mp hd)
    · exact .inr fun d hd => o2 d (pe.mem_iff.mp hd)
  · have := o3 (tupOf b.2) (pe.mem_iff.mp (List.mem_map.mpr ⟨b, hb, rfl⟩))
    have e1 : A.in1.units ≤ A.units + 2 := by first | exact Nat.le_succ _ | exact Nat.le_refl _ | simp [Around.in1]
    omega
  · have e := self_each eo
    subst e
    obtain ⟨c, hc⟩ := sortedHeap_at (vs := L'.map fun q => Value.ref q.1) (out := ((L'.mergeSort (PySem.W.dataLe false fun q => tupOf q.2)).map fun q => Value.ref q.1).toArray) hoL
    refine wpAny_pure ⟨_, rfl, q _ s1.heap.objs.size c L' (fun b u e => ?_) g1 x1 hz pL hc⟩
    have hlt := Heap.lt_size (k1 b u e)
    show (sortedHeap (s1.heap.push (seqObj "list" (L'.map fun q => Value.ref q.1).toArray 0)) s1.heap.objs.size (L'.map fun q => Value.ref q.1) ((L'.mergeSort (PySem.W.dataLe false fun q => tupOf q.2)).map fun q => Value.ref q.1).toArray).get? b = some u
    rw [sortedHeap_old (Nat.ne_of_lt hlt) (by rw [size_push']; exact Nat.lt_succ_of_lt hlt)]
    exact up b u e
end

/-! ### the order of such tuples is one -/
theorem key_tri {x y : Key} (h : PySem.W.alike (keyD x) (keyD y) = true) (h1 : ltD (keyD x) (keyD y) = false) (h2 : ltD (keyD y) (keyD x) = false) : x = y := by
  cases x <;> cases y
  · rename_i i j
    simp [keyD, ltD] at h1 h2
    rw [show i = j by omega]
  · simp [keyD, PySem.W.alike] at h
  · simp [keyD, PySem.W.alike] at h
  · rename_i a b
    simp only [keyD, ltD, decide_eq_false_iff_not] at h1 h2
    have e : a.cps.toList = b.cps.toList := List.le_antisymm (List.not_lt.mp h2) (List.not_lt.mp h1)
    have : a = b := by
      obtain ⟨a⟩ := a
      obtain ⟨b⟩ := b
      exact congrArg _ (Array.toList_inj.mp e)
    rw [this]
theorem keyD_eqv {x y : Key} (h : PySem.W.alike (keyD x) (keyD y) = true) (e : PyData.eqv (keyD x) (keyD y) = true) : x = y := by
  cases x <;> cases y
  · simp [keyD, PyData.eqv] at e; rw [e]
  · simp [keyD, PySem.W.alike] at h
  · simp [keyD, PySem.W.alike] at h
  · simp [keyD, PyData.eqv] at e; rw [e]
theorem eqv_refl_key (x : Key) : PyData.eqv (keyD x) (keyD x) = true := by cases x <;> simp [keyD, PyData.eqv]
theorem keys_tri : ∀ {k l : List Key}, PySem.W.alikeAll (k.map keyD) (l.map keyD) = true → ltDs (k.map keyD) (l.map keyD) = false → ltDs (l.map keyD) (k.map keyD) = false → k = l
  | [], [], _, _, _ => rfl
  | [], _ :: _, _, h, _ => by simp [ltDs] at h
  | _ :: _, [], _, _, h => by simp [ltDs] at h
  | x :: k, y :: l, h, h1, h2 => by
    obtain ⟨a1, a2⟩ := PySem.W.alike_all_cons (show PySem.W.alikeAll (keyD x :: k.map keyD) (keyD y :: l.map keyD) = true from h)
    simp only [List.map_cons, ltDs] at h1 h2
    by_cases e : PyData.eqv (keyD x) (keyD y) = true
    · have e' := keyD_eqv a1 e
      subst e'
      rw [if_pos e] at h1 h2
      rw [keys_tri a2 h1 h2]
    · have e2 : ¬ PyData.eqv (keyD y) (keyD x) = true := fun q => e (by
        have : x = y := by
          cases x <;> cases y <;> simp [keyD, PyData.eqv, PySem.W.alike] at q a1 ⊢ <;> exact q.symm
        subst this; exact eqv_refl_key x)
      rw [if_neg e] at h1
      rw [if_neg e2] at h2
      exact absurd (key_tri a1 h1 h2) fun q => e (by subst q; exact eqv_refl_key x)
theorem srt_perm {ks ls : List (List Key)} (p : ks.Perm ls) (ok : likeAll (ks.map tupOf) = true) : srtD (ks.map tupOf) = srtD (ls.map tupOf) := by
  have al := likeAll_of ok
  have T : PySem.W.TotalLe (PySem.W.dataLe false (id : PyData → PyData)) := PySem.W.sortLe_total ..
  unfold srtD
  refine List.Perm.eq_of_pairwise (le := fun a b => PySem.W.dataLe false id a b = true) (fun a b ha hb h1 h2 => ?_) (PySem.W.sort_pairwise T _) (PySem.W.sort_pairwise T _) ((List.mergeSort_perm _ _).trans ((p.map tupOf).trans (List.mergeSort_perm _ _).symm))
  have ma := List.mem_mergeSort.mp ha
  have mb := List.mem_mergeSort.mp hb
  obtain ⟨k, hk, rfl⟩ := List.mem_map.mp ma
  obtain ⟨l, hl, rfl⟩ := List.mem_map.mp mb
  have m2 : tupOf l ∈ ks.map tupOf := List.mem_map.mpr ⟨l, p.mem_iff.mpr hl, rfl⟩
  have a1 := al _ ma _ m2
  have a2 := al _ m2 _ ma
  have g1 : (!PySem.W.dataLt (tupOf l) (tupOf k)) = true := h1
  have g2 : (!PySem.W.dataLt (tupOf k) (tupOf l)) = true := h2
  rw [dataLt_eq _ _ a2, Bool.not_eq_true'] at g1
  rw [dataLt_eq _ _ a1, Bool.not_eq_true'] at g2
  have : k = l := keys_tri (by simpa [tupOf, PySem.W.alike] using a1) (by simpa [tupOf, ltD] using g2) (by simpa [tupOf, ltD] using g1)
  rw [this]
/-! ### the rule -/
def onceK (acc : List (List Key)) (x : List Key) : List (List Key) := if (acc.any fun y => decide (y = x)) = true then acc else acc ++ [x]
def tupsK : List PyData → Option (List (List Key))
  | [] => some []
  | .tuple ys :: r => match keysP ys, tupsK r with
    | some k, some ks => some (k :: ks)
    | _, _ => none
  | _ :: _ => none
/-- each item once -/
def onceKs (ks : List (List Key)) : List (List Key) := ks.foldl onceK []
theorem onceKs_spec (ks : List (List Key)) : ∀ acc : List (List Key), acc.Nodup → (ks.foldl onceK acc).Nodup ∧ ∀ x, x ∈ ks.foldl onceK acc ↔ x ∈ acc ∨ x ∈ ks := by
  induction ks with
  | nil => exact fun acc h => ⟨h, fun x => by simp⟩
  | cons k ks ih =>
    intro acc h
    rw [List.foldl_cons]
    by_cases hk : k ∈ acc
    · have e : onceK acc k = acc := if_pos (by simpa using hk)
      rw [e]
      obtain ⟨h1, h2⟩ := ih acc h
      refine ⟨h1, fun x => (h2 x).trans ⟨fun q => q.imp id (List.mem_cons_of_mem _), fun q => ?_⟩⟩
      rcases q with q | q
      · exact .inl q
      · rcases List.mem_cons.mp q with e | q
        · subst e; exact .inl hk
        · exact .inr q
    · have e : onceK acc k = acc ++ [k] := if_neg (by simpa using hk)
      rw [e]
      obtain ⟨h1, h2⟩ := ih (acc ++ [k]) (by
        rw [List.nodup_append]
        exact ⟨h, by simp, fun a ha b hb => by rw [List.mem_singleton.mp hb]; rintro rfl; exact hk ha⟩)
      refine ⟨h1, fun x => (h2 x).trans ?_⟩
      simp [or_assoc]
theorem onceKs_nodup (ks : List (List Key)) : (onceKs ks).Nodup := (onceKs_spec ks [] List.nodup_nil).1
theorem onceKs_mem (ks : List (List Key)) (x : List Key) : x ∈ onceKs ks ↔ x ∈ ks := ((onceKs_spec ks [] List.nodup_nil).2 x).trans (by simp)
def sortSet (xs : List PyData) : Option (List PyData) := (tupsK xs).bind fun ks => if (decide (ks.length < 64) && sortOk ((onceKs ks).map tupOf)) = true then some (srtD ((onceKs ks).map tupOf)) else none
def dSortSet (d : DE) : DN := fun σ S => bnd (d σ S) fun w S1 => giv ((lstW S1 w).bind sortSet) S1
section
variable {X : Cx} {E : EK} {pos p p2 q : Pos} {a : Expr} {da : DE}
theorem tups_of {K : PySem.W.Frag} {H : Hp} {φ : Fi} : ∀ {ds : List PyData} {vs : List V} {ks : List (List Key)}, RDs K H φ ds vs → tupsK ds = some ks → ∃ L : List (Addr × List Key), L.map (·.2) = ks ∧ vs = L.map (fun q => V.ref q.1) ∧ ∀ q ∈ L, H q.1 = some (.tup (q.2.map kV))
  | [], _, _, h, e => by cases e; cases h; exact ⟨[], rfl, rfl, fun q hq => nomatch hq⟩
  | .tuple ys :: ds, _, ks, ⟨v, r, e1, h1, h2⟩, e => by
    subst e1
    unfold tupsK at e
    match hp : keysP ys, hr : tupsK ds, e with
    | none, _, e => cases e
    | some _, none, e => cases e
    | some k, some ls, e =>
      cases e
      obtain ⟨L, g1, g2, g3⟩ := tups_of h2 hr
      obtain ⟨b, us, rfl, h3, h4⟩ := h1
      refine ⟨(b, k) :: L, by rw [List.map_cons, g1], by rw [List.map_cons, g2], fun q hq => ?_⟩
      rcases List.mem_cons.mp hq with e | hq
      · subst e; rw [← keysP_of h4 hp]; exact h3
      · exact g3 q hq
  | .none :: _, _, _, _, e => by cases e
  | .int _ :: _, _, _, _, e => by cases e
  | .bool _ :: _, _, _, _, e => by cases e
  | .list _ :: _, _, _, _, e => by cases e
  | .str _ :: _, _, _, _, e => by cases e
  | .dict _ :: _, _, _, _, e => by cases e
theorem refs_of : ∀ {L : List (Addr × List Key)} {us : List Value}, Vals (L.map fun q => V.ref q.1) us → us = L.map fun q => Value.ref q.1
  | [], _, .nil => rfl
  | _ :: _, _, .cons r t => by cases r; rw [refs_of t]; rfl
theorem vals_refs : ∀ L : List (Addr × List Key), Vals (L.map fun q => V.ref q.1) (L.map fun q => Value.ref q.1)
  | [] => .nil
  | q :: L => .cons rfl (vals_refs L)
theorem n_sortedSet (hu : X.A.units + 65 < cLine) (hm : X.mg "sorted" = none) (hm2 : X.mg "set" = none) (ha : SE X E a da) (hc : X.calm = true := by rfl) (hg : Gl X "sorted" := by rfl) (hg2 : Gl X "set" := by rfl)
    (na : starEach [a] X.env = (false, eval a X.env) :: starEach [] X.env := by rfl) : SN X E (.Call (.Name "sorted" p) [.Call (.Name "set" p2) [a] [] q] [] pos) (dSortSet da) := by
  refine ⟨fun pins s σ H Q I h => ?_⟩
  refine Call_ (ld_blt I hg hm boot_sorted (PyProof.Rows.callWith_builtin1 (PyProof.Rows.args_cons ?_ rfl) rfl rfl))
  refine Call_ (ld_blt I hg2 hm2 boot_set (PyProof.Rows.callWith_type1 (PyProof.Rows.args_cons ?_ na) na rfl))
  obtain ⟨φ, σ', S, r', hs, he, hd, hq⟩ := h
  have run := ha.run pins s σ H
  unfold dSortSet at hd
  match hda : da σ' S, hd with
  | none, hd => cases hd
  | some (.xc x S1), hd => cases hd; exact thn (run (fun _ _ => False) I ⟨φ, σ', S, .xc x S1, hs, he, hda, hq⟩) fun v s1 ⟨x, H1, I1, r1, q1⟩ => q1.elim
  | some (.ok w S1), hd =>
    refine thn (run (fun x H1 => ∃ φ1, Ext φ H φ1 H1 ∧ SR X.K H1 φ1 S1 ∧ RW X.K H1 φ1 X.mg w x) I ⟨φ, σ', S, .ok w S1, hs, he, hda, fun φ1 H1 v e1 s1 x1 => ⟨φ1, e1, s1, x1⟩⟩) fun v s1 ⟨x, H1, I1, r1, φ1, e1, s1', x1⟩ => PyProof.Rows.args_nil ?_
    rw [bnd_ok] at hd
    match hg : (lstW S1 w).bind sortSet, hd with
    | none, hd => cases hd
    | some out, hd =>
      cases hd
      obtain ⟨ds, g1, g2⟩ := Option.bind_eq_some_iff.mp hg
      obtain ⟨ks, g3, g4⟩ := Option.bind_eq_some_iff.mp g2
      split at g4
      · rename_i ok
        cases g4
        rw [Bool.and_eq_true, decide_eq_true_eq] at ok
        obtain ⟨l, vs, rfl, f1, q1⟩ := seqL_of s1' x1 (lstW_of g1)
        obtain ⟨L, l1, l2, l3⟩ := tups_of q1 g3
        subst l2
        cases r1
        obtain ⟨its, rv, pl, _⟩ := I1.list f1
        have hu' := hu
        have kt : ∀ q ∈ L, KT X.prog X.w s1.heap q.2 q.1 := fun q hq => key_of I1.hok (l3 q hq)
        refine set_tups (P := X.prog) (w := X.w) (I1.ok.hd hc) pl.isList (by simpa using refs_of rv) kt (by rw [← List.length_map (f := (·.2)), l1]; exact ok.1) (by omega) fun h2 tk L2 es ep t R g k => PyProof.Rows.args_nil ?_
        have I2 : Inv X pins σ H1 { s1 with heap := h2, toks := tk } := I1.kept k
        have m2 : (L2.map (·.2)).Perm (onceKs ks) := (List.perm_ext_iff_of_nodup R.nd (onceKs_nodup ks)).mpr fun x => by
          rw [onceKs_mem, ← l1]
          constructor
          · intro h
            obtain ⟨q, hq, e⟩ := List.mem_map.mp h
            exact List.mem_map.mpr ⟨q, g.sub q hq, e⟩
          · intro h
            obtain ⟨q, hq, e⟩ := List.mem_map.mp h
            rw [← e]; exact g.all q (by rw [List.take_length]; exact hq)
        have mm : (L2.map fun q => tupOf q.2) = (L2.map (·.2)).map tupOf := by rw [List.map_map]; rfl
        have lk : likeAll ((L2.map (·.2)).map tupOf) = true := by
          have o1 := (sortOk_of ok.2).1
          refine List.all_eq_true.mpr fun x hx => List.all_eq_true.mpr fun y hy => o1 x ((m2.map tupOf).mem_iff.mp hx) y ((m2.map tupOf).mem_iff.mp hy)
        have ok2 : sortOk (L2.map fun q => tupOf q.2) = true := by
          rw [mm]
          have pm := m2.map tupOf
          have := ok.2
          unfold sortOk at this ⊢
          simp only [Bool.and_eq_true, Bool.or_eq_true] at this ⊢
          obtain ⟨⟨⟨_, b2⟩, b3⟩, b4⟩ := this
          refine ⟨⟨⟨lk, ?_⟩, ?_⟩, by rw [pm.length_eq]; exact b4⟩
          · exact b2.imp (fun h => List.all_eq_true.mpr fun x hx => List.all_eq_true.mp h x (pm.mem_iff.mp hx)) (fun h => List.all_eq_true.mpr fun x hx => List.all_eq_true.mp h x (pm.mem_iff.mp hx))
          · exact List.all_eq_true.mpr fun x hx => List.all_eq_true.mp b3 x (pm.mem_iff.mp hx)
        refine sorted_setS R (I2.ok.hd hc) (by omega) ok2 fun s' p c L' k2 gg oo hp pL hget => ?_
        have hn : H1 p = none := I2.hok.fresh hp
        have kt' : ∀ q ∈ L', H1 q.1 = some (.tup (q.2.map kV)) := fun q hq => l3 q (g.sub q (pL.mem_iff.mp hq))
        have hlen : ((L'.mergeSort (PySem.W.dataLe false fun q => tupOf q.2)).map fun q => V.ref q.1).length ≤ sizeLine := by
          rw [List.length_map, List.length_mergeSort, pL.length_eq, sizeLine_eq]
          have := R.few; omega
        have J : Inv X pins σ (upd H1 p (.lst ((L'.mergeSort (PySem.W.dataLe false fun q => tupOf q.2)).map fun q => V.ref q.1))) { ({ s1 with heap := h2, toks := tk } : Shared) with heap := s'.heap, gens := s'.gens, drawn := s'.drawn, toks := s'.toks } :=
          I2.call (ch := []) (Un.laid k2 hp hn) (I2.hok.laid k2 hp ⟨hlen, _, c, vals_refs _, hget⟩) (by rw [gg]; exact I2.bare) (fun _ z => nomatch z)
        have e : s' = { s1 with heap := s'.heap, gens := s'.gens, drawn := s'.drawn, toks := s'.toks } := by
          cases s'; cases s1; cases oo; rfl
        rw [e]
        refine ⟨.ref p, _, J, rfl, hq φ1 H1 p _ e1 s1' hn ?_⟩
        have ee : srtD ((onceKs ks).map tupOf) = (L'.mergeSort (PySem.W.dataLe false fun q => tupOf q.2)).map fun q => tupOf q.2 := by
          rw [List.map_mergeSort (r := PySem.W.dataLe false fun q : Addr × List Key => tupOf q.2) (s := PySem.W.dataLe false id) (f := fun q : Addr × List Key => tupOf q.2) (fun a _ b _ => rfl)]
          have p2 : (L'.map (·.2)).Perm (onceKs ks) := (pL.map _).trans m2
          have lk2 : likeAll ((L'.map (·.2)).map tupOf) = true := by
            have o1 := (sortOk_of ok.2).1
            exact List.all_eq_true.mpr fun x hx => List.all_eq_true.mpr fun y hy => o1 x ((p2.map tupOf).mem_iff.mp hx) y ((p2.map tupOf).mem_iff.mp hy)
          rw [← srt_perm p2 lk2, List.map_map]; rfl
        rw [ee]
        have go : ∀ M : List (Addr × List Key), (∀ q ∈ M, H1 q.1 = some (.tup (q.2.map kV))) → RDs X.K H1 φ1 (M.map fun q => tupOf q.2) (M.map fun q => V.ref q.1) := by
          intro M
          induction M with
          | nil => exact fun _ => rfl
          | cons q M ih => exact fun h => ⟨_, _, rfl, ⟨q.1, _, rfl, h q List.mem_cons_self, keysD_rd q.2⟩, ih fun z hz => h z (List.mem_cons_of_mem _ hz)⟩
        exact go _ fun q hq => kt' q (List.mem_mergeSort.mp hq)
      · cases g4
end
end CL
end

section
/-! part CLLz -/
set_option Elab.async false
set_option linter.all false
set_option maxRecDepth 100000
set_option maxHeartbeats 2000000
/-! CLLz: list(zip(a, b)) of two tuples. -/
namespace CL
open PySem PySem.Spec PyProof.Rows L2
open RZ (ItzT)
theorem zip_no_len : typeLookup (.type "zip") "__len__" = pure none := by rw [typeLookup_type, builtinLookup_eq_fast]; kernel_rfl
theorem zip_no_hint : typeLookup (.type "zip") "__length_hint__" = pure none := by rw [typeLookup_type, builtinLookup_eq_fast]; kernel_rfl
/-- the pairs that were made -/
def PrV2 (H : Hp) : List V → List (V × V) → Prop
  | [], vs => vs = []
  | v :: r, ps => ∃ p x y t, v = .ref p ∧ ps = (x, y) :: t ∧ H p = some (.tup [x, y]) ∧ PrV2 H r t
theorem PrV2.snoc {H : Hp} {p : Addr} {x y : V} (h : H p = some (.tup [x, y])) : ∀ {vs : List V} {ps : List (V × V)}, PrV2 H vs ps → PrV2 H (vs ++ [.ref p]) (ps ++ [(x, y)])
  | [], _, e => by cases e; exact ⟨p, x, y, [], rfl, rfl, h, rfl⟩
  | _ :: _, _, ⟨q, a, b, t, e1, e2, e3, e4⟩ => by subst e2; exact ⟨q, a, b, _, e1, rfl, e3, e4.snoc h⟩
theorem PrV2.mono {H H' : Hp} (k : ∀ b o, H b = some o → H' b = some o) : ∀ {vs : List V} {ps : List (V × V)}, PrV2 H vs ps → PrV2 H' vs ps
  | [], _, e => e
  | _ :: _, _, ⟨q, a, b, t, e1, e2, e3, e4⟩ => ⟨q, a, b, t, e1, e2, k _ _ e3, e4.mono k⟩
section
variable {X : Cx} {pins : List (Addr × Obj)} {σ : L2.St} {z TI TO i1 i2 a b S : Addr} {xs ys : List V} {R : Result → Shared → Prop} {A : Around}
theorem upd_comm {H : Hp} {a b : Addr} {o u : HO} (h : a ≠ b) : upd (upd H a o) b u = upd (upd H b u) a o := by
  funext c
  by_cases e1 : c = a
  · subst e1
    rw [upd_ne h, upd_same, upd_same]
  · by_cases e2 : c = b
    · subst e2; rw [upd_same, upd_ne e1, upd_same]
    · rw [upd_ne e2, upd_ne e1, upd_ne e1, upd_ne e2]
theorem sqT_on {K : PySem.W.Frag} {H H' : Hp} {S a : Addr} {ws vs : List V} (sub : ∀ c o, upd H S (.lst ws) c = some o → c ≠ S → H' c = some o) (h : SqT K (upd H S (.lst ws)) a vs) : SqT K H' a vs := by
  rcases h with (h | ⟨o, h⟩) | h
  · exact .inl (.inl (sub _ _ h fun e => by rw [e, upd_same] at h; cases h))
  · exact .inl (.inr ⟨o, sub _ _ h fun e => by rw [e, upd_same] at h; cases h⟩)
  · exact .inr h
theorem sqT_new {K : PySem.W.Frag} {H : Hp} {S a : Addr} {o : HO} {vs : List V} (hS : H S = none) (h : SqT K H a vs) : SqT K (upd H S o) a vs := by
  rcases h with (h | ⟨u, h⟩) | h
  · exact .inl (.inl (by rw [upd_ne (ne_of_none h hS)]; exact h))
  · exact .inl (.inr ⟨u, by rw [upd_ne (ne_of_none h hS)]; exact h⟩)
  · exact .inr h
theorem lz_loop (hA : A.handled = none) (D : ZipApart z TI TO i1 i2 a b) (P : Hp → Prop) (hP : ∀ H p o, P H → H p = none → P (upd H p o)) (hz : (min xs.length ys.length) + 1 ≤ sizeLine) : ∀ (m k : Nat) (s : Shared) (H : Hp) (vs : List V),
    min xs.length ys.length - k = m → k ≤ min xs.length ys.length → Inv X pins σ (upd H S (.lst vs)) s → H S = none → P H → SqT X.K (upd H S (.lst vs)) a xs → SqT X.K (upd H S (.lst vs)) b ys → (∀ c ∈ [z, TI, TO, i1, i2], FpOk X pins (upd H S (.lst vs)) c) →
    (∃ v f, ZA s.heap z TI TO i1 i2 a b k v f) → vs.length = k → PrV2 H vs ((List.zip xs ys).take k) →
    (∀ s' H' vs', Inv X pins σ (upd H' S (.lst vs')) s' → H' S = none → P H' → PrV2 H' vs' (List.zip xs ys) → R (.ok (.ret .none)) s') →
    codeAny (model X.prog X.w) A (.builtin "list.extend.loop" ⟨[.ref S, .ref z, .none], []⟩) R s := by
  intro m
  induction m with
  | zero =>
    intro k s H vs hm hk I hS hp hqa hqb hf hza hl hpr hR
    have hkm : k = min xs.length ys.length := by omega
    obtain ⟨v, f, Z⟩ := hza
    obtain ⟨its, rv, p, _⟩ := I.tuple hqa
    obtain ⟨its2, rv2, p2, _⟩ := I.tuple hqb
    have l1 := rv.length
    have l2 := rv2.length
    refine codeAny_builtin F.entry_extend_loop ?_
    rw [Around.under_plainId F.plain_extend_loop _]
    show wpAny _ A.in1 (pyNext (.ref z) >>= _) _ _ s
    refine wpAny_bind (zn_end hA D Z p p2 (by simp; omega) fun h2 hk2 => ?_)
    have I2 : Inv X pins σ (upd H S (.lst vs)) { s with heap := h2 } := I.turnedL (t' := s.toks) (ch := [z, TI, TO, i1, i2]) (fun c o hb q => hk2 c o (fun z => hb (by simp [z])) (fun z => hb (by simp [z])) (fun z => hb (by simp [z])) (fun z => hb (by simp [z])) q) hf
    refine wpAny_pure (hR _ H vs I2 hS hp ?_)
    rw [List.take_of_length_le (by rw [List.length_zip]; omega)] at hpr
    exact hpr
  | succ m ih =>
    intro k s H vs hm hk I hS hp hqa hqb hf hza hl hpr hR
    have hlt : k < min xs.length ys.length := by omega
    obtain ⟨v, f, Z⟩ := hza
    obtain ⟨its, rv, p, _⟩ := I.tuple hqa
    obtain ⟨its2, rv2, p2, _⟩ := I.tuple hqb
    have hx : xs[k]? = some xs[k] := List.getElem?_eq_getElem (by omega)
    have hy : ys[k]? = some ys[k] := List.getElem?_eq_getElem (by omega)
    generalize xs[k] = x at hx
    generalize ys[k] = y at hy
    obtain ⟨u, hu, ru⟩ := rv.get hx
    obtain ⟨u2, hu2, ru2⟩ := rv2.get hy
    refine codeAny_builtin F.entry_extend_loop ?_
    rw [Around.under_plainId F.plain_extend_loop _]
    show wpAny _ A.in1 (pyNext (.ref z) >>= _) _ _ s
    refine wpAny_bind (zn_item D Z p p2 (x := u) (y := u2) (by simpa using hu) (by simpa using hu2) fun h2 v2 f2 Z2 hT hk2 => ?_)
    have new : ObjOk X.prog X.w (upd (upd H S (.lst vs)) s.heap.objs.size (.tup [x, y])) h2 s.heap.objs.size (.tup [x, y]) := ⟨by show 2 ≤ sizeLine; decide, [u, u2], .cons ru (.cons ru2 .nil), ⟨_, hT, rfl, _, rfl⟩⟩
    have fT : upd H S (.lst vs) s.heap.objs.size = none := I.hok.fresh (Nat.le_refl _)
    have neT : s.heap.objs.size ≠ S := fun e => by rw [e, upd_same] at fT; cases fT
    have I1 : Inv X pins σ (upd (upd H s.heap.objs.size (.tup [x, y])) S (.lst vs)) { s with heap := h2 } := by
      rw [upd_comm neT]
      exact I.turnedNew (t' := s.toks) (ch := [z, TI, TO, i1, i2]) (fun c o hb q => hk2 c o (fun z => hb (by simp [z])) (fun z => hb (by simp [z])) (fun z => hb (by simp [z])) (fun z => hb (by simp [z])) q) hf (Nat.le_refl _) new
    have hT0 : H s.heap.objs.size = none := by rw [upd_ne neT] at fT; exact fT
    show wpAny _ A.in1 (updateSeq S (·.push (.ref s.heap.objs.size)) >>= _) _ _ _
    obtain ⟨zz, itl, n, rl, hll, e⟩ := I1.lstM (l := S) upd_same
    refine wpAny_bind (wpAny_updateSeq e rfl (wpAny_pure ⟨plainId_quiet F.plain_extend_loop _, ?_⟩) (by simp; omega))
    have I2 : Inv X pins σ (upd (upd (upd H s.heap.objs.size (.tup [x, y])) S (.lst vs)) S (.lst (vs ++ [.ref s.heap.objs.size]))) { s with heap := h2.update S (Obj.mapSeq (·.push (.ref s.heap.objs.size))) } :=
      I1.lset (t' := s.toks) (its' := itl ++ [.ref s.heap.objs.size]) upd_same e (by simp) (rl.append (.cons (show RelV (.ref s.heap.objs.size) (.ref s.heap.objs.size) from rfl) .nil)) (by simp; omega)
    rw [upd_upd] at I2
    have sub : ∀ c o, upd H S (.lst vs) c = some o → c ≠ S → upd (upd H s.heap.objs.size (.tup [x, y])) S (.lst (vs ++ [.ref s.heap.objs.size])) c = some o := fun c o q ne => by
      rw [upd_ne ne] at q ⊢
      rw [upd_ne (ne_of_none q hT0)]; exact q
    have hST : upd H s.heap.objs.size (.tup [x, y]) S = none := by rw [upd_ne (Ne.symm neT)]; exact hS
    have neS : ∀ c ∈ [z, TI, TO, i1, i2], c ≠ S := fun c hc e => by
      have := (hf c hc).1
      rw [e, upd_same] at this; cases this
    have keepZ := (turn_zn (P := X.prog) (w := X.w) (K := X.K) (nm := "x") (np := ⟨0, 0, 0, 0⟩) D).keep (k + 1) h2 (h2.update S (Obj.mapSeq (·.push (.ref s.heap.objs.size)))) ⟨v2, f2, Z2⟩ fun c hc o q => (Heap.get?_update_other _ _ (Ne.symm (neS c hc))).trans q
    refine ih (k + 1) _ (upd H s.heap.objs.size (.tup [x, y])) _ (by omega) (by omega) I2 hST (hP _ _ _ hp hT0) (sqT_on sub hqa) (sqT_on sub hqb) (fun c hc => ⟨?_, (hf c hc).2⟩) keepZ (by simp; omega) ?_ hR
    · have lt : c < s.heap.objs.size := by
        obtain ⟨a0, b0, e3⟩ := Z.to
        have h1 := Z.a1
        have h2 := Z.a2
        have : c = z ∨ c = TI ∨ c = TO ∨ c = i1 ∨ c = i2 := by simpa using hc
        rcases this with q | q | q | q | q
        · rw [q]; exact Heap.lt_size Z.z
        · rw [q]; exact Heap.lt_size Z.ti
        · rw [q]; exact Heap.lt_size e3
        · rw [q]; obtain ⟨_, e, _⟩ := h1; exact Heap.lt_size e
        · rw [q]; obtain ⟨_, e, _⟩ := h2; exact Heap.lt_size e
      have h0 := (hf c hc).1
      rw [upd_ne (neS c hc)] at h0 ⊢
      rw [upd_ne (Nat.ne_of_lt lt)]; exact h0
    · have ez : (List.zip xs ys)[k]? = some (x, y) := by
        rw [List.getElem?_zip_eq_some]; exact ⟨hx, hy⟩
      rw [List.take_succ, ez, Option.toList_some]
      exact (hpr.mono fun c o q => by rw [upd_ne (ne_of_none q hT0)]; exact q).snoc upd_same
theorem list_init_zip (hA : A.handled = none) (D : ZipApart z TI TO i1 i2 a b) (P : Hp → Prop) (hP : ∀ H p o, P H → H p = none → P (upd H p o)) (hz : (min xs.length ys.length) + 1 ≤ sizeLine) {s : Shared} {H : Hp} (I : Inv X pins σ (upd H S (.lst [])) s) (hS : H S = none) (hp : P H)
    (hqa : SqT X.K (upd H S (.lst [])) a xs) (hqb : SqT X.K (upd H S (.lst [])) b ys) (hf : ∀ c ∈ [z, TI, TO, i1, i2], FpOk X pins (upd H S (.lst [])) c) (hza : ∃ v f, ZA s.heap z TI TO i1 i2 a b 0 v f)
    (hR : ∀ s' H' vs', Inv X pins σ (upd H' S (.lst vs')) s' → H' S = none → P H' → PrV2 H' vs' (List.zip xs ys) → R (.ok (.ret .none)) s') :
    wpAny (model X.prog X.w) A.in1 (Builtin.«list.__init__» ⟨[.ref S, .ref z], []⟩)
      (fun fin s' => match fin with | .done f => R (.ok f) s' | .again c' => c'.quiet = true ∧ codeAny (model X.prog X.w) A c' R s') (fun e s' => R (.error e) s') s := by
  have neS : ∀ c ∈ [z, TI, TO, i1, i2], c ≠ S := fun c hc e => by
    have := (hf c hc).1
    rw [e, upd_same] at this; cases this
  have keepZ : ∀ {h : Heap} {k : Nat} {f : Array Value → Array Value}, (∃ v f, ZA h z TI TO i1 i2 a b k v f) → ∃ v g, ZA (h.update S (Obj.mapSeq f)) z TI TO i1 i2 a b k v g := fun {h k f} q =>
    (turn_zn (P := X.prog) (w := X.w) (K := X.K) (nm := "x") (np := ⟨0, 0, 0, 0⟩) D).keep k h _ q fun c hc o q => (Heap.get?_update_other _ _ (Ne.symm (neS c hc))).trans q
  show wpAny _ A.in1 (do let old ← Builtin.List.listItems (.ref S); Builtin.List.listUpdate (.ref S) (fun _ => #[]); letGo old.toList.reverse; Builtin.List.listExtendWith (.ref S) (.ref z) .none) _ _ s
  obtain ⟨zz, itl, n, rl, hll, e⟩ := I.lstM (l := S) upd_same
  have : itl = [] := List.length_eq_zero_iff.mp (by simpa using hll.symm)
  subst this
  refine wpAny_bind ?_
  unfold Builtin.List.listItems
  refine wpAny_bind (wpAny_seqItems e rfl (wpAny_pure ?_))
  show wpAny _ A.in1 (updateSeq S (fun _ => #[]) >>= fun _ => letGo (#[] : Array Value).toList.reverse >>= fun _ => Builtin.List.listExtendWith (.ref S) (.ref z) .none) _ _ s
  refine wpAny_bind (wpAny_updateSeq e rfl ?_)
  have I1 := I.lset (t' := s.toks) (ys := []) (its' := []) (f := fun _ => #[]) upd_same e rfl .nil (by simp)
  rw [upd_upd] at I1
  have Z1 := keepZ (f := fun _ => #[]) hza
  obtain ⟨_, itl, n, rl, hll, e⟩ := I1.lstM (l := S) upd_same
  have : itl = [] := List.length_eq_zero_iff.mp (by simpa using hll.symm)
  subst this
  refine wpAny_bind (wpAny_letGo ?_)
  unfold Builtin.List.listExtendWith
  obtain ⟨v, f, Z⟩ := Z1
  have ty : ∀ {s : Shared}, ZA s.heap z TI TO i1 i2 a b 0 v f → s.TypeIs (.ref z) "zip" := fun Z => ⟨_, Z.z, rfl⟩
  refine wpAny_bind (wpAny_typeOf (ty Z) ?_)
  have h1 : Builtin.List.listSameRef (.ref S) (.ref z) = false := by simp [Builtin.List.listSameRef, Ne.symm (neS z (by simp))]
  have h2 : (Value.type "zip" == Value.type "list") = false := by decide
  have h3 : (Value.type "zip" == Value.type "tuple") = false := by decide
  simp only [h1, h2, h3, Bool.or_false, Bool.false_eq_true, if_false]
  refine wpAny_bind ((turn_zn (P := X.prog) (w := X.w) (K := X.K) (nm := "x") (np := ⟨0, 0, 0, 0⟩) D).self _ 0 _ _ _ ⟨v, f, Z⟩ ?_)
  refine wpAny_bind (wpAny_holding ?_)
  unfold Builtin.List.listLengthHint
  refine wpAny_bind (wpAny_specialOf (ty Z) zip_no_len ?_)
  show wpAny _ A.in1 (specialOf (Value.ref z) (Str.ofString "__length_hint__") >>= _) _ _ _
  refine wpAny_bind (wpAny_specialOf (ty Z) zip_no_hint ?_)
  refine wpAny_pure ?_
  show wpAny _ A.in1 (rule "list.extend.makes-room" >>= fun _ => Builtin.List.listTouch (.ref S) >>= fun _ =>
    again (.builtin "list.extend.loop" ⟨[.ref S, .ref z, .none], []⟩)) _ _ _
  refine wpAny_bind (wpAny_rule ?_)
  refine wpAny_bind ?_
  show wpAny _ A.in1 (updateSeq S (·.push .none) >>= fun _ => updateSeq S (·.pop)) _ _ _
  refine wpAny_bind (wpAny_updateSeq e rfl ?_)
  have I2 := I1.lset (t' := s.toks) (ys := [.non]) (its' := [.none]) (f := (·.push Value.none)) upd_same e rfl (.cons rfl .nil) (by decide)
  rw [upd_upd] at I2
  obtain ⟨_, itl2, n2, rl2, hll2, e2⟩ := I2.lstM (l := S) upd_same
  have eit : itl2 = [.none] := by
    cases rl2 with
    | cons r t => cases t; cases r; rfl
  subst eit
  refine wpAny_updateSeq (hz := by seq_fits) e2 rfl ?_
  have I3 := I2.lset (t' := s.toks) (ys := []) (its' := []) (f := (·.pop)) upd_same e2 rfl .nil (by simp)
  rw [upd_upd] at I3
  have Z3 := keepZ (f := (·.pop)) (keepZ (f := (·.push Value.none)) ⟨v, f, Z⟩)
  refine wpAny_pure ⟨plainId_quiet F.plain_extend_loop _, ?_⟩
  exact lz_loop hA D P hP hz _ 0 _ H [] rfl (Nat.zero_le _) I3 hS hp hqa hqb hf Z3 rfl rfl hR
theorem call_list_zip {Q : Value → Shared → Prop} {E : Value → Shared → Prop} (hA : A.handled = none) (D : ZipApart z TI TO i1 i2 a b) (P : Hp → Prop) (hP : ∀ H p o, P H → H p = none → P (upd H p o)) (hz : (min xs.length ys.length) + 1 ≤ sizeLine) {s : Shared} {H : Hp} (I : Inv X pins σ H s) (hp : P H)
    (hqa : SqT X.K H a xs) (hqb : SqT X.K H b ys) (hf : ∀ c ∈ [z, TI, TO, i1, i2], FpOk X pins H c) (hza : ∃ v f, ZA s.heap z TI TO i1 i2 a b 0 v f)
    (hQ : ∀ s' H' S vs', Inv X pins σ (upd H' S (.lst vs')) s' → H' S = none → P H' → PrV2 H' vs' (List.zip xs ys) → Q (.ref S) s') : wpAny (model X.prog X.w) A (call (.type "list") [.ref z]) Q E s := by
  refine callType_codes (Q₁ := fun obj s₁ => obj = .ref s.heap.objs.size ∧ s₁ = { s with heap := s.heap.push { cls := .type "list", data := .seq #[] } }) F.called_list (F.typeCall_list_1 _) F.entry_list_init
    (code_list_new _ ⟨rfl, rfl⟩) fun obj s₁ h₁ => ?_
  obtain ⟨rfl, rfl⟩ := h₁
  have hS : (s.heap.push { cls := .type "list", data := .seq #[] }).get? s.heap.objs.size = some { cls := .type "list", data := .seq #[] } := Heap.get?_push_size _ rfl
  have fr := I.fresh
  have I1 := I.lnew (t' := s.toks) (ys := []) (its := []) .nil (by simp)
  have lt : ∀ c ∈ [z, TI, TO, i1, i2], c ≠ s.heap.objs.size := fun c hc e => by
    obtain ⟨v, f, Z⟩ := hza
    obtain ⟨o, ho, _⟩ := (turn_zn (P := X.prog) (w := X.w) (K := X.K) (nm := "x") (np := ⟨0, 0, 0, 0⟩) D).obj 0 s.heap ⟨v, f, Z⟩ c hc
    exact absurd (Heap.lt_size ho) (by rw [e]; exact Nat.lt_irrefl _)
  refine ⟨⟨_, hS, rfl⟩, F.args_list_init_2 _ _, list_init_zip (A := A.in1) hA D P hP hz I1 fr hp (sqT_new fr hqa) (sqT_new fr hqb) (fun c hc => ⟨by rw [upd_ne (lt c hc)]; exact (hf c hc).1, (hf c hc).2⟩) ?_ fun s' H' vs' J h0 hp' hv => ?_⟩
  · exact (turn_zn (P := X.prog) (w := X.w) (K := X.K) (nm := "x") (np := ⟨0, 0, 0, 0⟩) D).keep 0 s.heap _ hza fun c hc o q => Heap.get?_push_of_some _ q
  · exact ⟨rfl, hQ s' H' _ vs' J h0 hp' hv⟩
end
section
variable {X : Cx} {E : EK} {pos p p2 q : Pos} {a b : Expr} {das : DA}
def dListZip (as : DA) : DN := fun σ S => bnd (as σ S) fun ws S1 => giv ((zipW ws).bind fun xs => if small (xs.length + 1) = true then some xs else none) S1
theorem zip_rds {K : PySem.W.Frag} {H : Hp} {φ : Fi} : ∀ {xs ys : List PyData} {us vs : List V} {ws : List V}, RDs K H φ xs us → RDs K H φ ys vs → PrV2 H ws (List.zip us vs) → RDs K H φ (zipD xs ys) ws
  | [], ys, _, vs, ws, h1, h2, h3 => by
    cases h1
    cases ws with
    | nil => rfl
    | cons w ws => obtain ⟨_, _, _, _, _, e, _⟩ := h3; simp at e
  | x :: xs, [], _, _, ws, ⟨u, us, e, h1, t1⟩, h2, h3 => by
    subst e
    cases h2
    cases ws with
    | nil => rfl
    | cons w ws => obtain ⟨_, _, _, _, _, e, _⟩ := h3; simp at e
  | x :: xs, y :: ys, _, _, ws, ⟨u, us, e, h1, t1⟩, ⟨v, vs, e2, h2, t2⟩, h3 => by
    subst e; subst e2
    cases ws with
    | nil => cases h3
    | cons w ws =>
      obtain ⟨p, c, d, t, e3, e4, e5, e6⟩ := h3
      subst e3
      simp only [List.zip_cons_cons, List.cons.injEq, Prod.mk.injEq] at e4
      obtain ⟨⟨e7, e8⟩, e9⟩ := e4
      subst e7; subst e8; subst e9
      exact ⟨_, _, rfl, ⟨p, [u, v], rfl, e5, u, [v], rfl, h1, v, [], rfl, h2, rfl⟩, zip_rds t1 t2 e6⟩
theorem n_listZip (hm : X.mg "list" = none) (hm2 : X.mg "zip" = none) (ha : SA X E [a, b] das) (hc : X.calm = true := by rfl) (hg : Gl X "list" := by rfl) (hg2 : Gl X "zip" := by rfl) (hs : starEach [a, b] X.env = (false, eval a X.env) :: starEach [b] X.env := by rfl) (hpl : (backTo q (starEach [b] X.env)).any (·.1) = false := by rfl) :
    SN X E (.Call (.Name "list" p) [.Call (.Name "zip" p2) [a, b] [] q] [] pos) (dListZip das) := by
  refine ⟨fun pins s σ H Q I h => ?_⟩
  refine Call_ (ld_blt I hg hm boot_list (PyProof.Rows.callWith_type1 (PyProof.Rows.args_cons ?_ (by rfl)) (by rfl) (by rfl)))
  obtain ⟨φ, σ', S, r', hsr, he, hd, hq⟩ := h
  unfold dListZip at hd
  have run := fun Q => ha.run q pins s σ H Q I
  match hda : das σ' S, hd with
  | none, hd => cases hd
  | some (.xc x S1), hd =>
    cases hd
    exact Call_ (ld_blt I hg2 hm2 PyProof.Rows.boot_zip (PyProof.Rows.callWith_type1 (thn (run (fun _ _ => False) ⟨φ, σ', S, .xc x S1, hsr, he, hda, hq⟩) fun us s1 ⟨vs, H1, I1, r1, q1⟩ => q1.elim) hs hpl))
  | some (.ok ws S1), hd =>
    refine Call_ (ld_blt I hg2 hm2 PyProof.Rows.boot_zip (PyProof.Rows.callWith_type1 (thn (run (fun vs H1 => ∃ φ1, Ext φ H φ1 H1 ∧ SR X.K H1 φ1 S1 ∧ RWs X.K H1 φ1 X.mg ws vs) ⟨φ, σ', S, .ok ws S1, hsr, he, hda, fun φ1 H1 v e1 s1 x1 => ⟨φ1, e1, s1, x1⟩⟩) fun us s1 ⟨vs, H1, I1, r1, φ1, e1, s1', x1⟩ => ?_) hs hpl))
    rw [bnd_ok] at hd
    match hg : (zipW ws).bind fun xs => if small (xs.length + 1) = true then some xs else none, hd with
    | none, hd => cases hd
    | some out, hd =>
      cases hd
      obtain ⟨zs, g1, g2⟩ := Option.bind_eq_some_iff.mp hg
      split at g2
      · rename_i hsm
        cases g2
        unfold zipW at g1
        split at g1
        · rename_i xs ys
          cases g1
          obtain ⟨v1, v2, rfl, w1, w2⟩ := two_of x1
          obtain ⟨c, us1, rfl, t1, d1⟩ := w1
          obtain ⟨d, us2, rfl, t2, d2⟩ := w2
          obtain ⟨u1, u2, rfl, r1, r2⟩ := r1.two
          cases r1
          cases r2
          obtain ⟨its, rv, p1, sz⟩ := I1.tuple t1.sq
          obtain ⟨its2, rv2, p2, _⟩ := I1.tuple t2.sq
          obtain ⟨o1, ho1, _⟩ := id p1
          obtain ⟨o2, ho2, _⟩ := id p2
          refine RZ.call_zipT p1 p2 fun h2 hz hTI hTO h1' h2' hsz hk => PyProof.Rows.args_nil ?_
          have I2 : Inv X pins σ H1 { s1 with heap := h2 } := I1.kept (t' := s1.toks) hk
          have hlen : (min us1.length us2.length) + 1 ≤ sizeLine := by
            rw [d1.length, d2.length]
            have := small_le hsm
            rw [zipD_len] at this; exact this
          refine call_list_zip (I1.ok.hd hc) (PySem.W.ktu_apart _ _ _ (Heap.lt_size ho1) (Heap.lt_size ho2)) (fun H2 => Ext φ1 H1 φ1 H2 ∧ SR X.K H2 φ1 S1) (fun H2 p o ⟨e2, s2⟩ hp => ⟨e2.trans (Ext.new hp s2), s2.new hp⟩) hlen I2 ⟨.refl, s1'⟩ t1.sq t2.sq (fun k hkm => ?_) ⟨.none, false, hz, .inl rfl, hTI, ⟨_, _, hTO⟩, h1', h2'⟩ fun s' H' S' vs' J h0 ⟨e2, s2⟩ hv => ?_
          · have : k = s1.heap.objs.size + 4 ∨ k = s1.heap.objs.size + 2 ∨ k = s1.heap.objs.size + 3 ∨ k = s1.heap.objs.size ∨ k = s1.heap.objs.size + 1 := by simpa using hkm
            have hle : s1.heap.objs.size ≤ k := by
              rcases this with z | z | z | z | z
              · rw [z]; exact Nat.le_add_right _ 4
              · rw [z]; exact Nat.le_add_right _ 2
              · rw [z]; exact Nat.le_add_right _ 3
              · rw [z]; exact Nat.le_refl _
              · rw [z]; exact Nat.le_add_right _ 1
            have fp := I1.fpOk hle (I1.hok.fresh hle)
            exact fp
          · exact ⟨.ref S', _, J, rfl, hq φ1 H' S' vs' (e1.trans e2) s2 h0 (zip_rds (RDs.mono e2 _ _ d1) (RDs.mono e2 _ _ d2) hv)⟩
        · cases g1
      · cases g2
end
end CL
end

section
/-! part CLTape -/
set_option Elab.async false
set_option linter.all false
set_option maxRecDepth 100000
set_option maxHeartbeats 2000000
/-! CLTape: lists whose items are set, while, pairs that a def hands back, a dict display with one tuple as its key, x += e. -/
namespace CL
open PySem PySem.Spec PyProof.Rows L2
section
variable {X : Cx} {E : EK} {pos p pos' : Pos} {e o i value c : Expr} {dd di dv d : DE} {das : DA} {es : List Expr} {body : List Stmt} {dt : DT} {db : DS}
/-! ### l[i] = value -/
def lputW (S : So) : W → W → W → Option So
  | .r n, .d (.int k), .d x => match S[n]? with
    | some (.lst xs) => (L2.ixN xs.length k).map fun j => S.set n (.lst (xs.set j x))
    | _ => none
  | _, _, _ => none
theorem lput_of {S S4 : So} {z y x : W} (h : lputW S z y x = some S4) : ∃ n k d xs j, z = .r n ∧ y = .d (.int k) ∧ x = .d d ∧ S[n]? = some (.lst xs) ∧ L2.ixN xs.length k = some j ∧ S4 = S.set n (.lst (xs.set j d)) := by
  unfold lputW at h
  split at h
  · split at h
    · rename_i hS
      obtain ⟨j, h3, h4⟩ := Option.map_eq_some_iff.mp h
      exact ⟨_, _, _, _, j, rfl, rfl, rfl, hS, h3, h4.symm⟩
    · cases h
  · cases h
def sPutL (d i v : DE) : DS := fun σ S => bndS σ (v σ S) fun x S1 => bndS σ (d σ S1) fun z S2 => bndS σ (i σ S2) fun y S3 => (lputW S3 z y x).map fun S4 => .nx σ S4
theorem s_putL (ho : SE X E o dd) (hi : SE X E i di) (hv : SE X E value dv) (hs : swapsWithSole [.Subscript o i pos'] value pos.line X.env = pure false := by rfl) (hw : swappedStores [.Subscript o i pos'] value X.env = pure none := by rfl)
    (h1 : (assignEach [.Subscript o i pos'] X.env).map (·.2) = [assign (.Subscript o i pos') X.env] := by rfl)
    (ha : ∀ v, assign (.Subscript o i pos') X.env v = (do
      let ov ← holding [v] (eval o X.env)
      let iv ← holding [v, ov] (eval i X.env)
      standAt pos'
      holding [v, ov, iv] (setItem ov iv v)
      release [v, ov, iv] []) := by intro _; rfl) : SS X E (.Assign [.Subscript o i pos'] value pos) (sPutL dd di dv) := by
  refine PSw (ps_asg hv (pg_sub ho hi set_list ha) hs hw h1) fun D σV H q => ?_
  obtain ⟨φ, σ, S, r, hs, he, hd, hq⟩ := q
  unfold sPutL at hd
  match ha : dv σ S, hd with
  | none, hd => cases hd
  | some (.xc x S1), hd => cases hd; exact ⟨φ, σ, S, .xc x S1, hs, he, ha, fun φ' H' e s => hq φ' H' σV e s (he.mono e)⟩
  | some (.ok x S1), hd =>
    refine ⟨φ, σ, S, .ok x S1, hs, he, ha, fun φ1 H1 v1 e1 s1 x1 => ?_⟩
    rw [bndS_ok] at hd
    match hb : dd σ S1, hd with
    | none, hd => cases hd
    | some (.xc y S2), hd => cases hd; exact ⟨φ1, σ, S1, .xc y S2, s1, he.mono e1, hb, XR.keep e1 fun φ' H' e s => hq φ' H' σV e s (he.mono e)⟩
    | some (.ok z S2), hd =>
      refine ⟨φ1, σ, S1, .ok z S2, s1, he.mono e1, hb, fun φ2 H2 v2 e2 s2 z2 => ?_⟩
      rw [bndS_ok] at hd
      have e12 := e1.trans e2
      match hc : di σ S2, hd with
      | none, hd => cases hd
      | some (.xc y S3), hd => cases hd; exact ⟨φ2, σ, S2, .xc y S3, s2, he.mono e12, hc, XR.keep e12 fun φ' H' e s => hq φ' H' σV e s (he.mono e)⟩
      | some (.ok y S3), hd =>
        refine ⟨φ2, σ, S2, .ok y S3, s2, he.mono e12, hc, fun φ3 H3 v3 e3 s3 y3 => ?_⟩
        rw [bndS_ok] at hd
        match hg : lputW S3 z y x, hd with
        | none, hd => cases hd
        | some S4, hd =>
          cases hd
          have e23 := e2.trans e3
          obtain ⟨n, k, x, xs, j, rfl, rfl, rfl, hS, h3, rfl⟩ := lput_of hg
          obtain ⟨a, ha2, rfl⟩ := z2.mono e3
          obtain ⟨vs, h5, h6⟩ := s3.ob n a _ ha2 hS
          have ew := Ext.wr (o := .lst (vs.set j v1)) s3 ha2 (by rw [hS]; trivial)
          have xr : RD X.K H3 φ3 x v1 := RW.mono e23 (w := .d x) x1
          refine ⟨a, vs, k, j, rfl, y3, h5, by rw [h6.length]; exact h3, ?_⟩
          exact hq φ3 _ σV ((e1.trans e23).trans ew) (s3.wr ha2 (by rw [hS]; trivial) ⟨_, upd_same, RDs.mono ew _ _ (RDs.set j h6 xr)⟩) (he.mono ((e1.trans e23).trans ew))
/-! ### while -/
def whGo (c : DT) (b : DS) : Nat → DS
  | 0, _, _ => none
  | n + 1, σ, S => match c σ S with
    | some (.ok true S1) => match b σ S1 with
      | some (.nx σ2 S2) => whGo c b n σ2 S2
      | some (.ct σ2 S2) => whGo c b n σ2 S2
      | some (.bk σ2 S2) => some (.nx σ2 S2)
      | r => r
    | some (.ok false S1) => some (.nx σ S1)
    | some (.xc x S1) => some (.xc x σ S1)
    | none => none
theorem s_while (n : Nat) (ht : ST X E c dt) (hb : SSs X E body db) (hp : PassesOwn (model X.prog X.w) X.A X.env X.xe := by first | exact PassesOwn.never | assumption) : SS X E (.While c body [] pos) (whGo dt db n) := by
  refine PSw (ps_while hp ht hb) fun D σV H q => ?_
  refine ⟨fun m σV H => tS X.K X.mg E (whGo dt db m) D σV H, ⟨n, q⟩, fun m σV H hW => ?_⟩
  obtain ⟨φ, σ, S, r, hs, he, hd, hq⟩ := hW
  cases m with
  | zero => cases hd
  | succ m =>
    unfold whGo at hd
    match ha : dt σ S, hd with
    | none, hd => cases hd
    | some (.xc x S1), hd => cases hd; exact ⟨φ, σ, S, .xc x S1, hs, he, ha, fun φ' H' e s => hq φ' H' σV e s (he.mono e)⟩
    | some (.ok false S1), hd =>
      cases hd
      exact ⟨φ, σ, S, .ok false S1, hs, he, ha, fun φ1 H1 e1 s1 => iteF (hq φ1 H1 σV e1 s1 (he.mono e1))⟩
    | some (.ok true S1), hd =>
      refine ⟨φ, σ, S, .ok true S1, hs, he, ha, fun φ1 H1 e1 s1 => iteT ?_⟩
      refine ⟨fun σ' H' => tS X.K X.mg E (whGo dt db m) D σ' H', fun σ' H' hN => ⟨m, Nat.lt_succ_self m, hN⟩, ?_⟩
      dsimp only at hd
      have hq1 := oS_keep e1 hq
      have en := he.mono e1
      match hbody : db σ S1, hd with
      | none, hd => cases hd
      | some (.nx σ2 S2), hd => exact ⟨φ1, σ, S1, _, s1, en, hbody, fun φ5 H5 σV5 e5 s5 en5 => ⟨φ5, σ2, S2, r, s5, en5, hd, oS_keep e5 hq1⟩⟩
      | some (.ct σ2 S2), hd => exact ⟨φ1, σ, S1, _, s1, en, hbody, fun φ5 H5 σV5 e5 s5 en5 => ⟨φ5, σ2, S2, r, s5, en5, hd, oS_keep e5 hq1⟩⟩
      | some (.bk σ2 S2), hd => cases hd; exact ⟨φ1, σ, S1, _, s1, en, hbody, hq1⟩
      | some (.rt w S2), hd => cases hd; exact ⟨φ1, σ, S1, _, s1, en, hbody, hq1⟩
      | some (.xc w σ2 S2), hd => cases hd; exact ⟨φ1, σ, S1, _, s1, en, hbody, hq1⟩
/-! ### pairs -/
def dTupP (as : DA) : DE := fun σ S => bnd (as σ S) fun ws S1 => match ws with
  | [.r n, .d x] => some (.ok (.p n x) S1)
  | _ => none
theorem e_tupP {k : Nat} (ha : SA X E es das) : SE X E (.Tuple es k pos) (dTupP das) := by
  refine PEw (pe_tup ha) fun σV H Q q => ?_
  obtain ⟨φ, σ, S, r, hs, hen, hd, hq⟩ := q
  unfold dTupP at hd
  match ha : das σ S, hd with
  | none, hd => cases hd
  | some (.xc x S1), hd => cases hd; exact ⟨φ, σ, S, .xc x S1, hs, hen, ha, hq⟩
  | some (.ok ws S1), hd =>
    rw [bnd_ok] at hd
    split at hd
    · rename_i n x
      cases hd
      refine ⟨φ, σ, S, .ok _ S1, hs, hen, ha, fun φ1 H1 vs e1 s1 x1 => ?_⟩
      obtain ⟨v1, v2, rfl, w1, w2⟩ := two_of x1
      obtain ⟨b, hb, rfl⟩ := w1
      refine ⟨by show 2 ≤ sizeLine; decide, fun p hp => ?_⟩
      have e2 := Ext.new (o := .tup [V.ref b, v2]) hp s1
      exact hq φ1 _ _ (e1.trans e2) (s1.new hp) ⟨p, b, v2, rfl, upd_same, hb, RD.mono e2 _ _ w2⟩
    · cases hd
/-- x, y = a pair -/
def sAsgP (i j : Nat) (d : DE) : DS := fun σ S => bndS σ (d σ S) fun w S1 => match w with
  | .p n x => some (.nx ((σ.set i (some (.r n))).set j (some (.d x))) S1)
  | _ => none
theorem s_asgP (i j : Nat) {t : Expr} (he : SE X E e d) (hg : PG X t (gT X.K (.tp [i, j]))) (hs : swapsWithSole [t] e pos.line X.env = pure false := by rfl) (hw : swappedStores [t] e X.env = pure none := by rfl)
    (h1 : (assignEach [t] X.env).map (·.2) = [assign t X.env] := by rfl) : SS X E (.Assign [t] e pos) (sAsgP i j d) := by
  refine PSw (ps_asg he hg hs hw h1) fun D σV H q => ?_
  obtain ⟨φ, σ, S, o, hs, hen, hd, hq⟩ := q
  unfold sAsgP at hd
  match ha : d σ S, hd with
  | none, hd => cases hd
  | some (.xc x S1), hd => cases hd; exact ⟨φ, σ, S, .xc x S1, hs, hen, ha, fun φ' H' e s => hq φ' H' σV e s (hen.mono e)⟩
  | some (.ok w S1), hd =>
    rw [bndS_ok] at hd
    split at hd
    · rename_i n x
      cases hd
      refine ⟨φ, σ, S, .ok _ S1, hs, hen, ha, fun φ1 H1 v e1 s1 x1 => ?_⟩
      obtain ⟨a, b, u, rfl, h0, h2, h3⟩ := x1
      have en := ((hen.mono e1).set (i := i) (w := .r n) (v := .ref b) ⟨b, h2, rfl⟩).set (i := j) (w := .d x) (v := u) h3
      exact ⟨a, _, rfl, h0.sq, rfl, hq φ1 H1 _ e1 s1 en⟩
    · cases hd
/-- a pair's second part -/
def dSnd (d : DE) : DE := fun σ S => bnd (d σ S) fun w S1 => match w with
  | .p _ x => some (.ok (.d x) S1)
  | _ => none
theorem e_snd {k : Nat} {p2 : Pos} (ha : SE X E e d) : SE X E (.Subscript e (.Constant (.int 1) k p2) pos) (dSnd d) := by
  refine PEw (pe_ix (r := rIx X.K) ix_seq ha pe_int (by intro _ _; rfl)) fun σV H Q q => ?_
  obtain ⟨φ, σ, S, r, hs, hen, hd, hq⟩ := q
  unfold dSnd at hd
  match ha : d σ S, hd with
  | none, hd => cases hd
  | some (.xc x S1), hd => cases hd; exact ⟨φ, σ, S, .xc x S1, hs, hen, ha, hq⟩
  | some (.ok w S1), hd =>
    rw [bnd_ok] at hd
    split at hd
    · rename_i n x
      cases hd
      refine ⟨φ, σ, S, .ok _ S1, hs, hen, ha, fun φ1 H1 v e1 s1 x1 => ?_⟩
      obtain ⟨a, b, u, rfl, h0, h2, h3⟩ := x1
      exact .inr (.inl ⟨a, [V.ref b, u], 1, u, rfl, rfl, h0.sq, rfl, hq φ1 H1 u e1 s1 h3⟩)
    · cases hd
/-! ### {a tuple: value} -/
section
variable {P : Program} {w : World} {A : Around} {E' : Value → Shared → Prop} {s : Shared} {knd : HeapKind P w (List Key)}
theorem dict_pairs1 {env : Env} {keys : List (Option Expr)} {values : List Expr} {pos : Pos} {pairs : List (Sem Value × Sem Value)} {Q : Value → Shared → Prop} (hu : knd.room A)
    (hshape : (evalEachOpt keys env).zip ((evalEach values env).map fun v => do let x ← v; standAt pos; pure x) = pairs.map fun p => (some p.1, p.2)) (h0 : pairs ≠ []) (hlen : pairs.length ≤ 15)
    (h : wpAny (model P w) A (evalPairs pairs) (fun vs s₁ => ∃ ps, CarriesH knd s₁.heap vs ps ∧ s₁.heap.DictOfH knd s.heap.objs.size [] ∧
      ∀ h' tk, h'.DictOfH knd s.heap.objs.size (storedAllH [] ps) → Heap.SameBut s.heap.objs.size s₁.heap h' → Q (.ref s.heap.objs.size) { s₁ with heap := h', toks := tk }) E'
      { s with heap := s.heap.push { cls := .type "dict", data := .dict #[] } }) :
    wpAny (model P w) A (eval (.Dict keys values pos) env) Q E' s := by
  rw [arm_eval_Dict, hshape, dictDisplay_pairs pairs h0 (by omega)]
  exact wpAny_bind (wpAny_standAt (wpAny_bind (wpAny_subDictH (knd := knd) (Q := fun d s' => wpAny (model P w) A (pure (Value.ref d)) Q E' s') hu hlen
    (wpAny_mono h (fun vs s₁ h₁ => by obtain ⟨ps, hc, hm, hq⟩ := h₁; exact ⟨ps, hc, hm, fun h' tk a b => wpAny_pure (hq h' tk a b)⟩) fun _ _ e => e))))
end
def withDt (S : So) : So := S ++ [.dt []]
def dD1T (k v : DE) : DE := fun σ S => bnd (k σ (withDt S)) fun y S1 => bnd (v σ S1) fun x S2 => match y, x with
  | .d (.tuple ys), .d z => match keysP ys, S2[S.length]? with
    | some q, some (.dt []) => some (.ok (.r S.length) (S2.set S.length (.dt [(q, z)])))
    | _, _ => none
  | _, _ => none
theorem e_d1T {k v : Expr} {dk dv : DE} (hu : X.A.units + 1 < cLine) (hk : SE X E k dk) (hv : SE X E v dv) : SE X E (.Dict [some k] [v] pos) (dD1T dk dv) := by
  refine ⟨fun pins s σ H Q I h => ?_⟩
  obtain ⟨φ, σ', S, r, hs, he, hd, hq⟩ := h
  have hn := I.hok.fresh (Nat.le_refl s.heap.objs.size)
  have I0 := I.laid (a := s.heap.objs.size) (o := .dT []) (h' := s.heap.push { cls := .type "dict", data := .dict #[] }) (t' := s.toks) (fun _ _ q => Heap.get?_push_of_some _ q) (Nat.le_refl _) (dt_empty s.heap I.big)
  generalize ep : s.heap.objs.size = p at hn I0
  have e0 := Ext.push (o := .dT []) hn hs
  have s0 := hs.push (o := .dT []) (ob := .dt []) hn (.dt' upd_same rfl)
  have hpn : (φ.push p).l[S.length]? = some p := by
    show (φ.l ++ [p])[S.length]? = some p
    rw [← hs.len]; simp
  refine dict_pairs1 (knd := tupleKind (mixKind X.prog X.w)) (pairs := pairTrees [some k] [v] X.env pos) (show X.A.units < cLine by omega) (zip_pairTrees _ _ _ _ rfl rfl) (by simp [pairTrees]) (by simp [pairTrees]) ?_
  rw [ep]
  unfold dD1T at hd
  match ha : dk σ' (withDt S), hd with
  | none, hd => cases hd
  | some (.xc x S1), hd =>
    cases hd
    exact pairTrees_cons_walk (thn (hk.run pins _ σ _ (fun _ _ => False) I0 ⟨φ.push p, σ', _, .xc x S1, s0, he.mono e0, ha, XR.keep e0 hq⟩) fun u s1 ⟨x, H1, I1, rx, q1⟩ => q1.elim)
  | some (.ok y S1), hd =>
    rw [bnd_ok] at hd
    refine pairTrees_cons_walk (thn (hk.run pins _ σ _ (fun y1 H1 => ∃ φ1, Ext (φ.push p) (upd H p (.dT [])) φ1 H1 ∧ SR X.K H1 φ1 S1 ∧ RW X.K H1 φ1 X.mg y y1) I0 ⟨φ.push p, σ', _, .ok y S1, s0, he.mono e0, ha, fun φ1 H1 v e1 s1 x1 => ⟨φ1, e1, s1, x1⟩⟩) fun u s1 ⟨y1, H1, I1, ry, φ1, e1, s1', w1⟩ => ?_)
    have e01 := e0.trans e1
    match hb : dv σ' S1, hd with
    | none, hd => cases hd
    | some (.xc x S2), hd =>
      cases hd
      exact thn (hv.run pins _ σ _ (fun _ _ => False) I1 ⟨φ1, σ', _, .xc x S2, s1', he.mono e01, hb, XR.keep e01 hq⟩) fun u s1 ⟨x, H1, I1, rx, q1⟩ => q1.elim
    | some (.ok z S2), hd =>
      rw [bnd_ok] at hd
      refine thn (hv.run pins _ σ _ (fun z1 H2 => ∃ φ2, Ext φ1 H1 φ2 H2 ∧ SR X.K H2 φ2 S2 ∧ RW X.K H2 φ2 X.mg z z1) I1 ⟨φ1, σ', _, .ok z S2, s1', he.mono e01, hb, fun φ1 H1 v e1 s1 x1 => ⟨φ1, e1, s1, x1⟩⟩) fun u2 s2 ⟨z1, H2, I2, rz, φ2, e2, s2', w2⟩ => ?_
      refine pairTrees_nil_walk ?_
      split at hd
      · split at hd
        · rename_i q hks hS
          cases hd
          have hp2 : φ2.l[S.length]? = some p := by
            have ee := e1.trans e2
            obtain ⟨t, ht⟩ := ee.pre
            rw [← ht, List.getElem?_append_left (List.getElem?_eq_some_iff.mp hpn).1]; exact hpn
          obtain ⟨es, g1, g2⟩ := s2'.dt hp2 hS
          have g3 : es = [] := g2
          subst g3
          obtain ⟨b, us, rfl, h9, h10⟩ := RW.mono e2 (w := .d (.tuple _)) w1
          have hb2 : H2 b = some (.tup (q.map kV)) := by rw [← keysP_of h10 hks]; exact h9
          have eu : u = Value.ref b := ry
          subst eu
          obtain ⟨zl, hd1, xs, rel, dd⟩ := dt_of I2.hok g1
          have : xs = [] := by
            cases rel; rfl
          subst this
          refine ⟨[(q, b, u2)], ⟨rfl, rfl, key_of I2.hok hb2, trivial⟩, dd, fun h' tk dd' hs' => ?_⟩
          obtain ⟨ob, es2, ep2, ho, h2, h3, h4, _, h5⟩ := dd'
          have ew := Ext.wr (o := .dT [(q, z1)]) s2' hp2 (by rw [hS]; trivial)
          have J : Inv X pins σ (upd H2 p (.dT [(q, z1)])) { s2 with heap := h', toks := tk } := d_write I2 (by rw [g1]; exact True.intro) hs' ⟨ob, ho⟩ ⟨by show 1 ≤ sizeLine; decide, hd1, [(q, b, u2)], .cons ⟨rfl, by rw [upd_ne (ne_of hb2 g1 (fun z => nomatch z))]; exact hb2, rz⟩ .nil, ob, es2, ep2, ho, h2, h3, h4, h5⟩
          refine ⟨.ref p, _, J, rfl, hq φ2 _ _ ((e01.trans e2).trans ew) (s2'.wr hp2 (by rw [hS]; trivial) (.dt' (es := [(q, z1)]) upd_same ⟨z1, [], rfl, RD.mono ew _ _ w2, rfl⟩)) ⟨p, hp2, rfl⟩⟩
        · cases hd
      · cases hd
/-! ### x += e, numbers -/
def sAugI (i : Nat) (d : DE) : DS := fun σ S => match σ[i]? with
  | some (some (.d (.int a))) => bndS σ (d σ S) fun w S1 => match w with
    | .d (.int b) => some (.nx (σ.set i (some (.d (.int (a + b))))) S1)
    | _ => none
  | _ => none
theorem s_augI (i : Nat) {x : Str} (hN : X.N.Nodup) (he : SE X E e d) (hi : X.N[i]? = some x := by rfl) (hx : Loc X.env.scope x := by first | exact Or.inl rfl | exact Or.inr rfl)
    (hf : X.fn x = true ∨ X.env.scope.names.lookup x = some .local := by first | exact .inl rfl | exact .inr rfl) : SS X E (.AugAssign (.Name x pos') .Add e pos) (sAugI i d) := by
  refine PSw (ps_aug hN hi hx he ip_add hf) fun D σV H q => ?_
  obtain ⟨φ, σ, S, o, hs, hen, hd, hq⟩ := q
  unfold sAugI at hd
  split at hd
  · rename_i a hσ
    obtain ⟨v, h1, h2⟩ := hen.at_ i _ hσ
    have hv : v = .int a := h2
    subst hv
    match ha : d σ S, hd with
    | none, hd => cases hd
    | some (.xc y S1), hd => cases hd; exact ⟨.int a, h1, φ, σ, S, .xc y S1, hs, hen, ha, fun φ' H' e s => hq φ' H' σV e s (hen.mono e)⟩
    | some (.ok w S1), hd =>
      rw [bndS_ok] at hd
      split at hd
      · rename_i b
        cases hd
        refine ⟨.int a, h1, φ, σ, S, .ok _ S1, hs, hen, ha, fun φ1 H1 u e1 s1 x1 => ?_⟩
        have hu : u = .int b := x1
        subst hu
        exact ⟨a, b, rfl, rfl, hq φ1 H1 _ e1 s1 ((hen.mono e1).set (w := .d (.int (a + b))) rfl)⟩
      · cases hd
  · cases hd
end
end CL
end

section
/-! part LK33 -/
set_option Elab.async false
set_option linter.all false
set_option maxRecDepth 100000
set_option maxHeartbeats 4000000
/-! printed by gen.py: the defs of the text, what they compute, that they do. -/
namespace LK33
open CL
open PySem PySem.Spec PyProof.Rows L2
def topS (i : Nat) : Stmt := PySem.Challenge.pw_chosenlast_k33_paths_told.main.body.getD i (.Pass ⟨0, 0, 0, 0⟩)
abbrev st_l_tape : Stmt := topS 11
abbrev st_l_pick : Stmt := topS 12
abbrev st_l_any : Stmt := topS 13
abbrev st_l_table : Stmt := topS 15
abbrev st_l_some : Stmt := topS 14
abbrev st_l_in_row : Stmt := topS 16
abbrev st_l_every : Stmt := topS 17
abbrev st_l_lot : Stmt := topS 18
abbrev st_l_tree : Stmt := topS 19
abbrev st_l_ways : Stmt := topS 20
abbrev st_l_starts : Stmt := topS 23
abbrev st_spoken : Stmt := topS 3
abbrev st_after_answer : Stmt := topS 4
abbrev st_paths_of : Stmt := topS 9
abbrev st_l_after : Stmt := topS 21
abbrev st_l_next : Stmt := topS 22
abbrev st_output_of : Stmt := topS 6
abbrev st_program_after : Stmt := topS 5
abbrev st_next_question : Stmt := topS 7
abbrev st_is_answer : Stmt := topS 1
abbrev st_is_path : Stmt := topS 8
abbrev st_l_are_right : Stmt := topS 24
abbrev st_law : Stmt := topS 25
theorem sc_l_tape : FnScope ["_law_script"] ["_law_script"] (defScope st_l_tape) := ⟨rfl, rfl, rfl, by decide +kernel, rfl, by decide +kernel, by decide +kernel⟩
theorem sc_l_pick : FnScope ["_law_tape_here", "_law_size", "_law_found", "_law_at", "_law_cell", "_law_mixed"] ["_law_tape_here", "_law_size"] (defScope st_l_pick) := ⟨rfl, rfl, rfl, by decide +kernel, rfl, by decide +kernel, by decide +kernel⟩
theorem sc_l_any : FnScope ["_law_tape_here", "_law_some_here"] ["_law_tape_here", "_law_some_here"] (defScope st_l_any) := ⟨rfl, rfl, rfl, by decide +kernel, rfl, by decide +kernel, by decide +kernel⟩
theorem sc_l_table : FnScope ["_law_tape_here", "_law_wide", "_law_tall", "_law_items", "_law_lots", "_law_name", "_law_first", "_law_lot_here", "_law_found", "_law_k", "_law_second"] ["_law_tape_here", "_law_wide", "_law_tall"] (defScope st_l_table) := ⟨rfl, rfl, rfl, by decide +kernel, rfl, by decide +kernel, by decide +kernel⟩
theorem sc_l_some : FnScope ["_law_tape_here", "_law_pool", "_law_odds", "_law_one"] ["_law_tape_here", "_law_pool", "_law_odds"] (defScope st_l_some) := ⟨rfl, rfl, rfl, by decide +kernel, rfl, by decide +kernel, by decide +kernel⟩
theorem sc_l_in_row : FnScope ["_law_board", "_law_cells"] ["_law_board", "_law_cells"] (defScope st_l_in_row) := ⟨rfl, rfl, rfl, by decide +kernel, rfl, by decide +kernel, by decide +kernel⟩
theorem sc_l_every : FnScope ["_law_board", "_law_found", "_law_cells"] ["_law_board"] (defScope st_l_every) := ⟨rfl, rfl, rfl, by decide +kernel, rfl, by decide +kernel, by decide +kernel⟩
theorem sc_l_lot : FnScope ["_law_board", "_law_item", "_law_two"] ["_law_board", "_law_item"] (defScope st_l_lot) := ⟨rfl, rfl, rfl, by decide +kernel, rfl, by decide +kernel, by decide +kernel⟩
theorem sc_l_tree : FnScope ["_law_tape_here", "_law_board", "_law_size", "_law_way", "_law_item", "_law_picked", "_law_left", "_law_yes", "_law_no"] ["_law_tape_here", "_law_board", "_law_size"] (defScope st_l_tree) := ⟨rfl, rfl, rfl, by decide +kernel, rfl, by decide +kernel, by decide +kernel⟩
theorem sc_l_ways : FnScope ["_law_tree_here", "_law_way", "_law_words", "_law_found"] ["_law_tree_here"] (defScope st_l_ways) := ⟨rfl, rfl, rfl, by decide +kernel, rfl, by decide +kernel, by decide +kernel⟩
theorem sc_l_starts : FnScope ["_law_tree_here", "_law_found", "_law_way", "_law_words", "_law_k"] ["_law_tree_here"] (defScope st_l_starts) := ⟨rfl, rfl, rfl, by decide +kernel, rfl, by decide +kernel, by decide +kernel⟩
theorem sc_spoken : FnScope ["program", "words", "here"] ["program"] (defScope st_spoken) := ⟨rfl, rfl, rfl, by decide +kernel, rfl, by decide +kernel, by decide +kernel⟩
theorem sc_after_answer : FnScope ["question", "answer", "ask", "item", "chosen", "after_yes", "after_no"] ["question", "answer"] (defScope st_after_answer) := ⟨rfl, rfl, rfl, by decide +kernel, rfl, by decide +kernel, by decide +kernel⟩
theorem sc_paths_of : FnScope ["program", "words", "here", "found", "answer", "path"] ["program"] (defScope st_paths_of) := ⟨rfl, rfl, rfl, by decide +kernel, rfl, by decide +kernel, by decide +kernel⟩
theorem sc_l_after : FnScope ["_law_tree_here", "_law_way", "_law_words", "_law_here", "_law_reply"] ["_law_tree_here", "_law_way"] (defScope st_l_after) := ⟨rfl, rfl, rfl, by decide +kernel, rfl, by decide +kernel, by decide +kernel⟩
theorem sc_l_next : FnScope ["_law_tree_here", "_law_way", "_law_here", "_law_words"] ["_law_tree_here", "_law_way"] (defScope st_l_next) := ⟨rfl, rfl, rfl, by decide +kernel, rfl, by decide +kernel, by decide +kernel⟩
theorem sc_output_of : FnScope ["program", "path", "output", "here", "answer", "words"] ["program", "path"] (defScope st_output_of) := ⟨rfl, rfl, rfl, by decide +kernel, rfl, by decide +kernel, by decide +kernel⟩
theorem sc_program_after : FnScope ["program", "path", "here", "answer"] ["program", "path"] (defScope st_program_after) := ⟨rfl, rfl, rfl, by decide +kernel, rfl, by decide +kernel, by decide +kernel⟩
theorem sc_next_question : FnScope ["program", "path", "words", "here"] ["program", "path"] (defScope st_next_question) := ⟨rfl, rfl, rfl, by decide +kernel, rfl, by decide +kernel, by decide +kernel⟩
theorem sc_is_answer : FnScope ["thing"] ["thing"] (defScope st_is_answer) := ⟨rfl, rfl, rfl, by decide +kernel, rfl, by decide +kernel, by decide +kernel⟩
theorem sc_is_path : FnScope ["program", "thing", "words", "here", "answer"] ["program", "thing"] (defScope st_is_path) := ⟨rfl, rfl, rfl, by decide +kernel, rfl, by decide +kernel, by decide +kernel⟩
theorem sc_l_are_right : FnScope ["_law_tree_here", "_law_way", "_law_asked", "_law_words", "_law_due", "_law_told"] ["_law_tree_here", "_law_way"] (defScope st_l_are_right) := ⟨rfl, rfl, rfl, by decide +kernel, rfl, by decide +kernel, by decide +kernel⟩
theorem sc_law : FnScope ["_law_script", "_law_tape_here", "_law_lap", "_law_board", "_law_tree_here", "_law_kept", "_law_due", "_law_way", "_law_words", "_law_starts_here", "_law_others", "_law_value", "_law_shown"] ["_law_script"] (defScope st_law) := ⟨rfl, rfl, rfl, by decide +kernel, rfl, by decide +kernel, by decide +kernel⟩
structure Mo (K : PySem.W.Frag) (mg : Str → Option Value) : Prop where
  d_l_tape : DefG K mg "_law_tape" st_l_tape ["_law_script"]
  d_l_pick : DefG K mg "_law_pick" st_l_pick ["_law_tape_here", "_law_size"]
  d_l_any : DefG K mg "_law_any" st_l_any ["_law_tape_here", "_law_some_here"]
  d_l_table : DefG K mg "_law_table" st_l_table ["_law_tape_here", "_law_wide", "_law_tall"]
  d_l_some : DefG K mg "_law_some" st_l_some ["_law_tape_here", "_law_pool", "_law_odds"]
  d_l_in_row : DefG K mg "_law_in_row" st_l_in_row ["_law_board", "_law_cells"]
  d_l_every : DefG K mg "_law_every" st_l_every ["_law_board"]
  d_l_lot : DefG K mg "_law_lot" st_l_lot ["_law_board", "_law_item"]
  d_l_tree : DefG K mg "_law_tree" st_l_tree ["_law_tape_here", "_law_board", "_law_size"]
  d_l_ways : DefG K mg "_law_ways" st_l_ways ["_law_tree_here"]
  d_l_starts : DefG K mg "_law_starts" st_l_starts ["_law_tree_here"]
  d_spoken : DefG K mg "spoken" st_spoken ["program"]
  d_after_answer : DefG K mg "after_answer" st_after_answer ["question", "answer"]
  d_paths_of : DefG K mg "paths_of" st_paths_of ["program"]
  d_l_after : DefG K mg "_law_after" st_l_after ["_law_tree_here", "_law_way"]
  d_l_next : DefG K mg "_law_next" st_l_next ["_law_tree_here", "_law_way"]
  d_output_of : DefG K mg "output_of" st_output_of ["program", "path"]
  d_program_after : DefG K mg "program_after" st_program_after ["program", "path"]
  d_next_question : DefG K mg "next_question" st_next_question ["program", "path"]
  d_is_answer : DefG K mg "is_answer" st_is_answer ["thing"]
  d_is_path : DefG K mg "is_path" st_is_path ["program", "thing"]
  d_l_are_right : DefG K mg "_law_are_right" st_l_are_right ["_law_tree_here", "_law_way"]
  d_law : DefG K mg "law" st_law ["_law_script"]
  z_isinstance : mg "isinstance" = none
  z_len : mg "len" = none
  z_list : mg "list" = none
  z_range : mg "range" = none
  z_repr : mg "repr" = none
  z_set : mg "set" = none
  z_sorted : mg "sorted" = none
  z_str : mg "str" = none
  z_tuple : mg "tuple" = none
  z_zip : mg "zip" = none
def b_l_tape : DS := (sCons (sRet (dNew (dLst (dCons (dSlA (dVar 0) dNoP (dPt (dC (.int 63)))) (dCons (dC (.int 0)) (dCons (dC (.int 0)) (dCons (dC (.int 0)) dNil)))))))
      sNil)
def f_l_tape : DF := fnB gcNew 1 1 b_l_tape
def b_l_pick : DS := (sCons (sPutL (dVar 0) (dC (.int 3)) (dBin addW (dIx (dVar 0) (dC (.int 3))) (dC (.int 1))))
      (sCons (sIf (dB (dBin (on2 (i2 gtI)) (dIx (dVar 0) (dC (.int 2))) (dC (.int 0)))) (sCons (sSet 2 (dBin (on2 (i2 modI)) (dIx (dVar 0) (dC (.int 2))) (dVar 1)))
      (sCons (sPutL (dVar 0) (dC (.int 2)) (dBin (on2 (i2 divI)) (dIx (dVar 0) (dC (.int 2))) (dVar 1)))
      (sCons (sRet (dVar 2))
      sNil))) sNil)
      (sCons (sSet 3 (dIx (dVar 0) (dC (.int 1))))
      (sCons (sPutL (dVar 0) (dC (.int 1)) (dBin addW (dVar 3) (dC (.int 1))))
      (sCons (sSet 4 (dIf (dB (dBin (on2 neP) (dIx (dVar 0) (dC (.int 0))) (dFz (dLst dNil)))) (dIx (dIx (dVar 0) (dC (.int 0))) (dBin (on2 (i2 modI)) (dVar 3) (dCall (c1 lenP) (dCons (dIx (dVar 0) (dC (.int 0))) dNil)))) (dC (.int 502))))
      (sCons (sIf (dAndT (dB (dBin (on2 (i2 geI)) (dVar 4) (dBin (on2 (i2 powI)) (dC (.int 10)) (dC (.int 18))))) (dB (dBin (on2 ltP) (dVar 3) (dCall (c1 lenP) (dCons (dIx (dVar 0) (dC (.int 0))) dNil))))) (sCons (sPutL (dVar 0) (dC (.int 2)) (dBin (on2 (i2 divI)) (dVar 4) (dVar 1)))
      (sCons (sRet (dBin (on2 (i2 modI)) (dVar 4) (dVar 1)))
      sNil)) sNil)
      (sCons (sSet 5 (dBin (on2 (i2 modI)) (dBin addW (dBin addW (dBin (on2 (i2 modI)) (dVar 4) (dC (.int 2147483549))) (dBin (on2 (i2 mulI)) (dC (.int 81023)) (dIx (dVar 0) (dC (.int 3))))) (dC (.int 31))) (dC (.int 2147483629))))
      (sCons (sSet 5 (dBin (on2 (i2 modI)) (dBin addW (dBin addW (dBin (on2 (i2 mulI)) (dVar 5) (dVar 5)) (dBin (on2 (i2 mulI)) (dC (.int 50021)) (dIx (dVar 0) (dC (.int 3))))) (dC (.int 11))) (dC (.int 2147483587))))
      (sCons (sSet 5 (dBin (on2 (i2 modI)) (dBin addW (dBin addW (dBin (on2 (i2 mulI)) (dVar 5) (dVar 5)) (dBin (on2 (i2 mulI)) (dC (.int 19381)) (dVar 5))) (dC (.int 5))) (dC (.int 2147483579))))
      (sCons (sRet (dBin (on2 (i2 modI)) (dBin (on2 (i2 divI)) (dVar 5) (dC (.int 256))) (dVar 1)))
      sNil))))))))))
def f_l_pick : DF := fnB gc 2 6 b_l_pick
def b_l_any : DS := (sCons (sRet (dIx (dVar 1) (dFn f_l_pick (dCons (dVar 0) (dCons (dCall (c1 lenP) (dCons (dVar 1) dNil)) dNil)))))
      sNil)
def f_l_any : DF := fnB gc 2 2 b_l_any
def b_l_table : DS := (sCons (sSet 3 (dSlA (dTup (dCons (dC (.str "door")) (dCons (dC (.str "room")) (dCons (dC (.str "time")) (dCons (dC (.str "zone")) dNil))))) dNoP (dPt (dBin addW (dC (.int 1)) (dFn f_l_pick (dCons (dVar 0) (dCons (dVar 1) dNil)))))))
      (sCons (sSet 4 (dFz (dLc [5] (dAny (dVar 3)) (.nm 5) dYes (dSlA (dTup (dCons (dC (.str "a")) (dCons (dC (.str "b")) (dCons (dC (.str "c")) (dCons (dC (.str "d")) (dCons (dC (.str "e")) dNil)))))) dNoP (dPt (dBin addW (dC (.int 2)) (dFn f_l_pick (dCons (dVar 0) (dCons (dC (.int 4)) dNil)))))))))
      (sCons (sSet 6 (dFz (dLc [7] (dAny (dVar 4)) (.nm 7) dYes (dFn f_l_pick (dCons (dVar 0) (dCons (dCall (c1 lenP) (dCons (dVar 7) dNil)) dNil))))))
      (sCons (sSet 8 (dD1T (dCall (c1 tupP) (dCons (dFz (dLc [9] (dRng1 (dCons (dCall (c1 lenP) (dCons (dVar 4) dNil)) dNil)) (.nm 9) dYes (dIx (dIx (dVar 4) (dVar 9)) (dIx (dVar 6) (dVar 9))))) dNil)) (dC (.bool true))))
      (sCons (sSet 10 (dFz (dLc [9] (dRng1 (dCons (dCall (c1 lenP) (dCons (dVar 4) dNil)) dNil)) (.nm 9) dYes (dBin (on2 (i2 modI)) (dBin addW (dBin addW (dIx (dVar 6) (dVar 9)) (dC (.int 1))) (dFn f_l_pick (dCons (dVar 0) (dCons (dBin (on2 subP) (dCall (c1 lenP) (dCons (dIx (dVar 4) (dVar 9)) dNil)) (dC (.int 1))) dNil)))) (dCall (c1 lenP) (dCons (dIx (dVar 4) (dVar 9)) dNil))))))
      (sCons (sPut (dVar 8) (dCall (c1 tupP) (dCons (dFz (dLc [9] (dRng1 (dCons (dCall (c1 lenP) (dCons (dVar 4) dNil)) dNil)) (.nm 9) dYes (dIx (dIx (dVar 4) (dVar 9)) (dIx (dVar 10) (dVar 9))))) dNil)) (dC (.bool true)))
      (sCons (sFor (.nm 9) (dRng1 (dCons (dFn f_l_pick (dCons (dVar 0) (dCons (dBin (on2 subP) (dVar 2) (dC (.int 1))) dNil))) dNil)) (sCons (sPut (dVar 8) (dCall (c1 tupP) (dCons (dFz (dLc [7] (dAny (dVar 4)) (.nm 7) dYes (dFn f_l_any (dCons (dVar 0) (dCons (dVar 7) dNil))))) dNil)) (dC (.bool true)))
      sNil))
      (sCons (sRet (dTup (dCons (dVar 3) (dCons (dCall (c1 tupP) (dCons (dFz (dCallN sortDG (dCons (dVar 8) dNil))) dNil)) dNil))))
      sNil))))))))
def f_l_table : DF := fnB gc 3 11 b_l_table
def b_l_some : DS := (sCons (sRet (dCall (c1 tupP) (dCons (dFz (dLc [3] (dAny (dVar 1)) (.nm 3) (dB (dBin (on2 eqP) (dFn f_l_pick (dCons (dVar 0) (dCons (dVar 2) dNil))) (dC (.int 0)))) (dVar 3))) dNil)))
      sNil)
def f_l_some : DF := fnB gc 3 4 b_l_some
def b_l_in_row : DS := (sCons (sRet (dCall (c1 tupP) (dCons (dFz (dListZip (dCons (dIx (dVar 0) (dC (.int 0))) (dCons (dVar 1) dNil)))) dNil)))
      sNil)
def f_l_in_row : DF := fnB gc 2 2 b_l_in_row
def b_l_every : DS := (sCons (sSet 1 (dNew (dLst dNil)))
      (sCons (sFor (.nm 2) (dAny (dIx (dVar 0) (dC (.int 1)))) (sCons (sDrop (dMeth "list" gExt (dVar 1) (dCons (dFn f_l_in_row (dCons (dVar 0) (dCons (dVar 2) dNil))) dNil)))
      sNil))
      (sCons (sRet (dFz (dSortSet (dVar 1))))
      sNil)))
def f_l_every : DF := fnB gc 1 3 b_l_every
def b_l_lot : DS := (sCons (sRet (dFz (dLc [2] (dAny (dFn f_l_every (dCons (dVar 0) dNil))) (.nm 2) (dB (dBin (on2 eqP) (dIx (dVar 2) (dC (.int 0))) (dVar 1))) (dIx (dVar 2) (dC (.int 1))))))
      sNil)
def f_l_lot : DF := fnB gc 2 3 b_l_lot
def b_l_tree (fself : DF) : DS := (sCons (sSet 3 (dFn f_l_pick (dCons (dVar 0) (dCons (dC (.int 6)) dNil))))
      (sCons (sIf (dOrT (dB (dBin (on2 ltP) (dVar 2) (dC (.int 2)))) (dB (dBin (on2 eqP) (dVar 3) (dC (.int 0))))) (sCons (sRet (dTup (dCons (dC (.str "stop")) dNil)))
      sNil) sNil)
      (sCons (sIf (dOrT (dB (dBin (on2 eqP) (dVar 3) (dC (.int 1)))) (dB (dBin (on2 ltP) (dVar 2) (dC (.int 3))))) (sCons (sRet (dTup (dCons (dC (.str "say")) (dCons (dFn f_l_any (dCons (dVar 0) (dCons (dFz (dLst (dCons (dC (.str "hi")) (dCons (dC (.str "low")) (dCons (dC (.str "no")) (dCons (dC (.str "so")) dNil)))))) dNil))) (dCons (dFn fself (dCons (dVar 0) (dCons (dVar 1) (dCons (dBin (on2 subP) (dVar 2) (dC (.int 1))) dNil)))) dNil)))))
      sNil) sNil)
      (sCons (sSet 4 (dFn f_l_any (dCons (dVar 0) (dCons (dFz (dCallN listG (dCons (dIx (dVar 1) (dC (.int 0))) dNil))) dNil))))
      (sCons (sSet 5 (dFn f_l_some (dCons (dVar 0) (dCons (dFn f_l_lot (dCons (dVar 1) (dCons (dVar 4) dNil))) (dCons (dC (.int 2)) dNil)))))
      (sCons (sSet 6 (dBin addW (dC (.int 1)) (dFn f_l_pick (dCons (dVar 0) (dCons (dBin (on2 subP) (dVar 2) (dC (.int 2))) dNil)))))
      (sCons (sPar [7, 8] (dCons (dFn fself (dCons (dVar 0) (dCons (dVar 1) (dCons (dVar 6) dNil)))) (dCons (dFn fself (dCons (dVar 0) (dCons (dVar 1) (dCons (dBin (on2 subP) (dBin (on2 subP) (dVar 2) (dC (.int 1))) (dVar 6)) dNil)))) dNil)))
      (sCons (sRet (dTup (dCons (dC (.str "ask")) (dCons (dVar 4) (dCons (dVar 5) (dCons (dVar 7) (dCons (dVar 8) dNil)))))))
      sNil))))))))
def f_l_tree : Nat → DF
  | 0 => noF
  | n + 1 => fnB gc 3 9 (b_l_tree (f_l_tree n))
def b_l_ways (fself : DF) : DS := (sCons (sIf (dB (dBin (on2 eqP) (dIx (dVar 0) (dC (.int 0))) (dC (.str "stop")))) (sCons (sRet (dFz (dLst (dCons (dTup (dCons (dTup dNil) (dCons (dTup dNil) dNil))) dNil))))
      sNil) sNil)
      (sCons (sIf (dB (dBin (on2 eqP) (dIx (dVar 0) (dC (.int 0))) (dC (.str "say")))) (sCons (sRet (dFz (dLc [1, 2] (dAny (dFn fself (dCons (dIx (dVar 0) (dC (.int 2))) dNil))) (.tp [1, 2]) dYes (dTup (dCons (dVar 1) (dCons (dBin addW (dTup (dCons (dIx (dVar 0) (dC (.int 1))) dNil)) (dVar 2)) dNil))))))
      sNil) sNil)
      (sCons (sSet 3 (dFz (dLc [1, 2] (dAny (dFn fself (dCons (dIx (dVar 0) (dC (.int 4))) dNil))) (.tp [1, 2]) dYes (dTup (dCons (dBin addW (dTup (dCons (dC (.str "no")) dNil)) (dVar 1)) (dCons (dVar 2) dNil))))))
      (sCons (sRet (dBin addW (dVar 3) (dFz (dLc [1, 2] (dAny (dFn fself (dCons (dIx (dVar 0) (dC (.int 3))) dNil))) (.tp [1, 2]) dYes (dTup (dCons (dBin addW (dTup (dCons (dC (.str "yes")) dNil)) (dVar 1)) (dCons (dVar 2) dNil)))))))
      sNil))))
def f_l_ways : Nat → DF
  | 0 => noF
  | n + 1 => fnB gc 1 4 (b_l_ways (f_l_ways n))
def b_l_starts : DS := (sCons (sSet 1 (dNew (dLst (dCons (dTup dNil) dNil))))
      (sCons (sFor (.tp [2, 3]) (dAny (dFn (f_l_ways 14) (dCons (dVar 0) dNil))) (sCons (sFor (.nm 4) (dRng2 (dCons (dC (.int 1)) (dCons (dBin addW (dCall (c1 lenP) (dCons (dVar 2) dNil)) (dC (.int 1))) dNil))) (sCons (sIf (dB (dBin (on2 (inP true)) (dSlA (dVar 2) dNoP (dPt (dVar 4))) (dVar 1))) (sCons (sDrop (dMeth "list" gApp (dVar 1) (dCons (dSlA (dVar 2) dNoP (dPt (dVar 4))) dNil)))
      sNil) sNil)
      sNil))
      sNil))
      (sCons (sRet (dVar 1))
      sNil)))
def f_l_starts : DF := fnB gc 1 5 b_l_starts
def b_spoken : DS := (sCons (sPar [1, 2] (dCons (dNew (dLst dNil)) (dCons (dVar 0) dNil)))
      (sCons (whGo (dB (dBin (on2 eqP) (dIx (dVar 2) (dC (.int 0))) (dC (.str "say")))) (sCons (sDrop (dMeth "list" gApp (dVar 1) (dCons (dIx (dVar 2) (dC (.int 1))) dNil)))
      (sCons (sSet 2 (dIx (dVar 2) (dC (.int 2))))
      sNil)) 40)
      (sCons (sRet (dTupP (dCons (dVar 1) (dCons (dVar 2) dNil))))
      sNil)))
def f_spoken : DF := fnB gcNew 1 3 b_spoken
def b_after_answer : DS := (sCons (sAsg (.tp [2, 3, 4, 5, 6]) (dVar 0))
      (sCons (sRet (dIf (dB (dBin (on2 eqP) (dVar 1) (dC (.str "yes")))) (dVar 5) (dVar 6)))
      sNil))
def f_after_answer : DF := fnB gc 2 7 b_after_answer
def b_paths_of (fself : DF) : DS := (sCons (sAsgP 1 2 (dFn f_spoken (dCons (dVar 0) dNil)))
      (sCons (sIf (dB (dBin (on2 eqP) (dIx (dVar 2) (dC (.int 0))) (dC (.str "stop")))) (sCons (sRet (dTup (dCons (dTup dNil) dNil)))
      sNil) sNil)
      (sCons (sSet 3 (dNew (dLst dNil)))
      (sCons (sFor (.nm 4) (dAny (dTup (dCons (dC (.str "no")) (dCons (dC (.str "yes")) dNil)))) (sCons (sDrop (dMeth "list" gExt (dVar 3) (dCons (dFz (dLc [5] (dAny (dFn fself (dCons (dFn f_after_answer (dCons (dVar 2) (dCons (dVar 4) dNil))) dNil))) (.nm 5) dYes (dBin addW (dTup (dCons (dVar 4) dNil)) (dVar 5)))) dNil)))
      sNil))
      (sCons (sRet (dCall (c1 tupP) (dCons (dVar 3) dNil)))
      sNil)))))
def f_paths_of : Nat → DF
  | 0 => noF
  | n + 1 => fnB gc 1 6 (b_paths_of (f_paths_of n))
def b_l_after : DS := (sCons (sPar [2, 3] (dCons (dTup dNil) (dCons (dVar 0) dNil)))
      (sCons (sFor (.nm 4) (dAny (dVar 1)) (sCons (whGo (dB (dBin (on2 eqP) (dIx (dVar 3) (dC (.int 0))) (dC (.str "say")))) (sCons (sPar [2, 3] (dCons (dBin addW (dVar 2) (dTup (dCons (dIx (dVar 3) (dC (.int 1))) dNil))) (dCons (dIx (dVar 3) (dC (.int 2))) dNil)))
      sNil) 40)
      (sCons (sSet 3 (dIf (dB (dBin (on2 eqP) (dVar 4) (dC (.str "yes")))) (dIx (dVar 3) (dC (.int 3))) (dIx (dVar 3) (dC (.int 4)))))
      sNil)))
      (sCons (sRet (dTup (dCons (dVar 3) (dCons (dVar 2) dNil))))
      sNil)))
def f_l_after : DF := fnB gc 2 5 b_l_after
def b_l_next : DS := (sCons (sAsg (.tp [2, 3]) (dFn f_l_after (dCons (dVar 0) (dCons (dVar 1) dNil))))
      (sCons (whGo (dB (dBin (on2 eqP) (dIx (dVar 2) (dC (.int 0))) (dC (.str "say")))) (sCons (sPar [3, 2] (dCons (dBin addW (dVar 3) (dTup (dCons (dIx (dVar 2) (dC (.int 1))) dNil))) (dCons (dIx (dVar 2) (dC (.int 2))) dNil)))
      sNil) 40)
      (sCons (sRet (dTup (dCons (dIf (dB (dBin (on2 eqP) (dIx (dVar 2) (dC (.int 0))) (dC (.str "stop")))) (dC .none) (dSlA (dVar 2) (dPt (dC (.int 1))) (dPt (dC (.int 3))))) (dCons (dVar 3) dNil))))
      sNil)))
def f_l_next : DF := fnB gc 2 4 b_l_next
def b_output_of : DS := (sCons (sAsgP 2 3 (dFn f_spoken (dCons (dVar 0) dNil)))
      (sCons (sFor (.nm 4) (dAny (dVar 1)) (sCons (sAsgP 5 3 (dFn f_spoken (dCons (dFn f_after_answer (dCons (dVar 3) (dCons (dVar 4) dNil))) dNil)))
      (sCons (sDrop (dMeth "list" gExt (dVar 2) (dCons (dVar 5) dNil)))
      sNil)))
      (sCons (sRet (dCall (c1 tupP) (dCons (dVar 2) dNil)))
      sNil)))
def f_output_of : DF := fnB gc 2 6 b_output_of
def b_program_after : DS := (sCons (sSet 2 (dVar 0))
      (sCons (sFor (.nm 3) (dAny (dVar 1)) (sCons (sSet 2 (dFn f_after_answer (dCons (dSnd (dFn f_spoken (dCons (dVar 2) dNil))) (dCons (dVar 3) dNil))))
      sNil))
      (sCons (sRet (dVar 2))
      sNil)))
def f_program_after : DF := fnB gc 2 4 b_program_after
def b_next_question : DS := (sCons (sAsgP 2 3 (dFn f_spoken (dCons (dFn f_program_after (dCons (dVar 0) (dCons (dVar 1) dNil))) dNil)))
      (sCons (sRet (dIf (dB (dBin (on2 eqP) (dIx (dVar 3) (dC (.int 0))) (dC (.str "stop")))) (dC .none) (dSlA (dVar 3) (dPt (dC (.int 1))) (dPt (dC (.int 3))))))
      sNil))
def f_next_question : DF := fnB gc 2 4 b_next_question
def b_is_answer : DS := (sCons (sRet (dAnd (dIsi "str" (dVar 0)) (dBin (on2 (inP false)) (dVar 0) (dTup (dCons (dC (.str "yes")) (dCons (dC (.str "no")) dNil))))))
      sNil)
def f_is_answer : DF := fnB gc 1 1 b_is_answer
def b_is_path : DS := (sCons (sIf (dNotT (dB (dIsi "tuple" (dVar 1)))) (sCons (sRet (dC (.bool false)))
      sNil) sNil)
      (sCons (sAsgP 2 3 (dFn f_spoken (dCons (dVar 0) dNil)))
      (sCons (sFor (.nm 4) (dAny (dVar 1)) (sCons (sIf (dOrT (dNotT (dB (dFn f_is_answer (dCons (dVar 4) dNil)))) (dB (dBin (on2 eqP) (dIx (dVar 3) (dC (.int 0))) (dC (.str "stop"))))) (sCons (sRet (dC (.bool false)))
      sNil) sNil)
      (sCons (sAsgP 2 3 (dFn f_spoken (dCons (dFn f_after_answer (dCons (dVar 3) (dCons (dVar 4) dNil))) dNil)))
      sNil)))
      (sCons (sRet (dC (.bool true)))
      sNil))))
def f_is_path : DF := fnB gc 2 5 b_is_path
def b_l_are_right : DS := (sCons (sAsg (.tp [2, 3]) (dFn f_l_next (dCons (dVar 0) (dCons (dVar 1) dNil))))
      (sCons (sSet 4 (dFz (dLst (dCons (dVar 3) (dCons (dVar 2) (dCons (dIx (dFn f_l_after (dCons (dVar 0) (dCons (dVar 1) dNil))) (dC (.int 0))) (dCons (dC (.bool true)) dNil)))))))
      (sCons (sSet 5 (dFz (dLst (dCons (dFn f_output_of (dCons (dVar 0) (dCons (dVar 1) dNil))) (dCons (dFn f_next_question (dCons (dVar 0) (dCons (dVar 1) dNil))) (dCons (dFn f_program_after (dCons (dVar 0) (dCons (dVar 1) dNil))) (dCons (dFn f_is_path (dCons (dVar 0) (dCons (dVar 1) dNil))) dNil)))))))
      (sCons (sIf (dB (dBin (on2 neP) (dCall (c1 reprP) (dCons (dVar 5) dNil)) (dCall (c1 reprP) (dCons (dVar 4) dNil)))) (sCons (sRet (dC (.bool false)))
      sNil) sNil)
      (sCons (sSet 5 (dFz (dLst (dCons (dFnK f_output_of [1, 0] (dCons (dVar 1) (dCons (dVar 0) dNil))) (dCons (dFnK f_next_question [1, 0] (dCons (dVar 1) (dCons (dVar 0) dNil))) dNil)))))
      (sCons (sRet (dBin (on2 eqP) (dCall (c1 reprP) (dCons (dBin addW (dVar 5) (dFz (dLst (dCons (dFnK f_program_after [1, 0] (dCons (dVar 1) (dCons (dVar 0) dNil))) (dCons (dFnK f_is_path [1, 0] (dCons (dVar 1) (dCons (dVar 0) dNil))) dNil))))) dNil)) (dCall (c1 reprP) (dCons (dVar 4) dNil))))
      sNil))))))
def f_l_are_right : DF := fnB gc 2 6 b_l_are_right
def b_law : DS := (sCons (sSet 1 (dFn f_l_tape (dCons (dVar 0) dNil)))
      (sCons (sFor (.nm 2) (dRng1 (dCons (dC (.int 3)) dNil)) (sCons (sSet 3 (dFn f_l_table (dCons (dVar 1) (dCons (dC (.int 4)) (dCons (dC (.int 9)) dNil)))))
      (sCons (sSet 4 (dFn (f_l_tree 14) (dCons (dVar 1) (dCons (dVar 3) (dCons (dC (.int 12)) dNil)))))
      (sCons (sPar [5, 6] (dCons (dCall (c1 reprP) (dCons (dVar 4) dNil)) (dCons (dCall (c1 tupP) (dCons (dFz (dLc [7, 8] (dAny (dFn (f_l_ways 14) (dCons (dVar 4) dNil))) (.tp [7, 8]) dYes (dVar 7))) dNil)) dNil)))
      (sCons (sIf (dB (dBin (on2 neP) (dCall (c1 reprP) (dCons (dFz (dLst (dCons (dFn (f_paths_of 14) (dCons (dVar 4) dNil)) (dCons (dFnK (f_paths_of 14) [0] (dCons (dVar 4) dNil)) dNil)))) dNil)) (dCall (c1 reprP) (dCons (dFz (dLst (dCons (dVar 6) (dCons (dVar 6) dNil)))) dNil)))) (sCons (sRet (dC (.bool false)))
      sNil) sNil)
      (sCons (sSet 9 (dFn f_l_starts (dCons (dVar 4) dNil)))
      (sCons (sIf (dB (dBin (on2 neP) (dFz (dLc [7] (dAny (dVar 9)) (.nm 7) (dNotT (dB (dFn f_l_are_right (dCons (dVar 4) (dCons (dVar 7) dNil))))) (dVar 7))) (dFz (dLst dNil)))) (sCons (sRet (dC (.bool false)))
      sNil) sNil)
      (sCons (sSet 10 (dFz (dLst (dCons (dC .none) (dCons (dC (.str "yes")) (dCons (dFz (dLst (dCons (dC (.str "yes")) dNil))) (dCons (dTup (dCons (dC (.str "maybe")) dNil)) (dCons (dTup (dCons (dC (.bool true)) dNil)) (dCons (dTup (dCons (dC (.str "yes")) (dCons (dC .none) dNil))) (dCons (dTup (dCons (dTup (dCons (dC (.str "yes")) dNil)) dNil)) (dCons (dC (.int 0)) (dCons (dTup (dCons (dFz (dLst (dCons (dC (.str "yes")) dNil))) dNil)) (dCons (dTup (dCons (dC (.str "no")) (dCons (dFz (dLst (dCons (dC (.str "no")) dNil))) dNil))) dNil)))))))))))))
      (sCons (sFor (.nm 7) (dAny (dVar 9)) (sCons (sSet 10 (dBin addW (dVar 10) (dFz (dLst (dCons (dBin addW (dVar 7) (dTup (dCons (dC (.str "yes")) dNil))) (dCons (dBin addW (dVar 7) (dTup (dCons (dC (.str "no")) dNil))) (dCons (dBin addW (dVar 7) (dTup (dCons (dC (.str "No")) dNil))) (dCons (dFz (dCallN listG (dCons (dVar 7) dNil))) (dCons (dSlA (dVar 7) (dPt (dC (.int 1))) dNoP) (dCons (dBin addW (dTup (dCons (dC (.str "no")) dNil)) (dVar 7)) dNil))))))))))
      sNil))
      (sCons (sFor (.nm 11) (dAny (dVar 10)) (sCons (sPar [6, 12] (dCons (dAnd (dIsi "tuple" (dVar 11)) (dBin (on2 (inP false)) (dVar 11) (dVar 9))) (dCons (dCall (c1 reprP) (dCons (dVar 11) dNil)) dNil)))
      (sCons (sIf (dB (dBin (on2 neP) (dCall (c1 reprP) (dCons (dFz (dLst (dCons (dFn f_is_path (dCons (dVar 4) (dCons (dVar 11) dNil))) (dCons (dFnK f_is_path [1, 0] (dCons (dVar 11) (dCons (dVar 4) dNil))) dNil)))) dNil)) (dCall (c1 reprP) (dCons (dFz (dLst (dCons (dVar 6) (dCons (dVar 6) dNil)))) dNil)))) (sCons (sRet (dC (.bool false)))
      sNil) sNil)
      (sCons (sIf (dB (dBin (on2 neP) (dCall (c1 reprP) (dCons (dVar 11) dNil)) (dVar 12))) (sCons (sRet (dC (.bool false)))
      sNil) sNil)
      sNil))))
      (sCons (sIf (dB (dBin (on2 neP) (dCall (c1 reprP) (dCons (dVar 4) dNil)) (dVar 5))) (sCons (sRet (dC (.bool false)))
      sNil) sNil)
      sNil)))))))))))
      (sCons (sRet (dC (.bool true)))
      sNil)))
def f_law : DF := fnB gc 1 13 b_law
section
variable {P : Program} {w : World} {K : PySem.W.Frag} {mg : Str → Option Value} {base : Heap}
theorem c_l_tape (M : Mo K mg) : CalG P w K mg base 1 "_law_tape" f_l_tape :=
  calG M.d_l_tape gcNew_ok sc_l_tape (d := b_l_tape) <| fun f cdv A outer s H E hgd hr => by
    have hu := hr.units
    have hu1 := hu_of hr
    have hu5 := hu5_of hr
    exact (ss_cons (s_ret (e_new (n_lst (a_cons (e_slA (e_var 0) p_no (p_e e_int)) (a_cons e_int (a_cons e_int (a_cons e_int a_nil)))))))
      ss_nil)
theorem c_l_pick (M : Mo K mg) : CalG P w K mg base 1 "_law_pick" f_l_pick :=
  calG M.d_l_pick gc_ok sc_l_pick (d := b_l_pick) <| fun f cdv A outer s H E hgd hr => by
    have hu := hr.units
    have hu1 := hu_of hr
    have hu5 := hu5_of hr
    exact (ss_cons (s_putL (e_var 0) e_int (e_bin o_add (e_ix (e_var 0) e_int) e_int))
      (ss_cons (s_if (t_cmp o_gtI (e_ix (e_var 0) e_int) e_int) (ss_cons (s_set 2 sc_l_pick.nd (e_bin o_mod (e_ix (e_var 0) e_int) (e_var 1)))
      (ss_cons (s_putL (e_var 0) e_int (e_bin o_div (e_ix (e_var 0) e_int) (e_var 1)))
      (ss_cons (s_ret (e_var 2))
      ss_nil))) ss_nil)
      (ss_cons (s_set 3 sc_l_pick.nd (e_ix (e_var 0) e_int))
      (ss_cons (s_putL (e_var 0) e_int (e_bin o_add (e_var 3) e_int))
      (ss_cons (s_set 4 sc_l_pick.nd (e_if (t_cmp (o_ne hu) (e_ix (e_var 0) e_int) (e_fz (n_lst a_nil))) (e_ix (e_ix (e_var 0) e_int) (e_bin o_mod (e_var 3) (e_callB (hv := bo_len) b_len M.z_len (a_cons (e_ix (e_var 0) e_int) a_nil)))) e_int))
      (ss_cons (s_if (L2.PW.pt (t_and (t_cmp o_geI (e_var 4) (e_bin o_pow e_int e_int)) (t_and1 (t_cmp (o_lt hu) (e_var 3) (e_callB (hv := bo_len) b_len M.z_len (a_cons (e_ix (e_var 0) e_int) a_nil)))))) (ss_cons (s_putL (e_var 0) e_int (e_bin o_div (e_var 4) (e_var 1)))
      (ss_cons (s_ret (e_bin o_mod (e_var 4) (e_var 1)))
      ss_nil)) ss_nil)
      (ss_cons (s_set 5 sc_l_pick.nd (e_bin o_mod (e_bin o_add (e_bin o_add (e_bin o_mod (e_var 4) e_int) (e_bin o_mul e_int (e_ix (e_var 0) e_int))) e_int) e_int))
      (ss_cons (s_set 5 sc_l_pick.nd (e_bin o_mod (e_bin o_add (e_bin o_add (e_bin o_mul (e_var 5) (e_var 5)) (e_bin o_mul e_int (e_ix (e_var 0) e_int))) e_int) e_int))
      (ss_cons (s_set 5 sc_l_pick.nd (e_bin o_mod (e_bin o_add (e_bin o_add (e_bin o_mul (e_var 5) (e_var 5)) (e_bin o_mul e_int (e_var 5))) e_int) e_int))
      (ss_cons (s_ret (e_bin o_mod (e_bin o_div (e_var 5) e_int) (e_var 1)))
      ss_nil))))))))))
theorem c_l_any (M : Mo K mg) : CalG P w K mg base 2 "_law_any" f_l_any :=
  calG M.d_l_any gc_ok sc_l_any (d := b_l_any) <| fun f cdv A outer s H E hgd hr => by
    have hu := hr.units
    have hu1 := hu_of hr
    have hu5 := hu5_of hr
    exact (ss_cons (s_ret (e_ix (e_var 1) (e_call (c_l_pick M) hgd hr (a_cons (e_var 0) (a_cons (e_callB (hv := bo_len) b_len M.z_len (a_cons (e_var 1) a_nil)) a_nil)))))
      ss_nil)
theorem c_l_table (M : Mo K mg) : CalG P w K mg base 3 "_law_table" f_l_table :=
  calG M.d_l_table gc_ok sc_l_table (d := b_l_table) <| fun f cdv A outer s H E hgd hr => by
    have hu := hr.units
    have hu1 := hu_of hr
    have hu5 := hu5_of hr
    exact (ss_cons (s_set 3 sc_l_table.nd (e_slA (e_tup (a_cons e_str (a_cons e_str (a_cons e_str (a_cons e_str a_nil))))) p_no (p_e (e_bin o_add e_int (e_call (c_l_pick M) hgd hr (a_cons (e_var 0) (a_cons (e_var 1) a_nil)))))))
      (ss_cons (by first | exact s_setLc 4 [("_law_name", 5)] sc_l_table.nd (i_any (e_var 3)) (blkOk_by (by kernel_rfl)) (fun _ _ _ _ _ => (g_nm 5 sc_l_table.nd)) (fun _ _ _ _ _ => ts_nil) (fun _ _ _ _ _ => (e_slA (e_tup (a_cons e_str (a_cons e_str (a_cons e_str (a_cons e_str (a_cons e_str a_nil)))))) p_no (p_e (e_bin o_add e_int (e_call (c_l_pick M) hgd hr (a_cons (e_var 0) (a_cons e_int a_nil))))))) (by rfl) | exact s_set 4 sc_l_table.nd (e_fz (n_lc [("_law_name", 5)] sc_l_table.nd (i_any (e_var 3)) (blkOk_by (by kernel_rfl)) (fun _ _ _ _ _ => (g_nm 5 sc_l_table.nd)) (fun _ _ _ _ _ => ts_nil) (fun _ _ _ _ _ => (e_slA (e_tup (a_cons e_str (a_cons e_str (a_cons e_str (a_cons e_str (a_cons e_str a_nil)))))) p_no (p_e (e_bin o_add e_int (e_call (c_l_pick M) hgd hr (a_cons (e_var 0) (a_cons e_int a_nil))))))))))
      (ss_cons (by first | exact s_setLc 6 [("_law_lot_here", 7)] sc_l_table.nd (i_any (e_var 4)) (blkOk_by (by kernel_rfl)) (fun _ _ _ _ _ => (g_nm 7 sc_l_table.nd)) (fun _ _ _ _ _ => ts_nil) (fun _ _ _ _ _ => (e_call (c_l_pick M) hgd hr (a_cons (e_var 0) (a_cons (e_callB (hv := bo_len) b_len M.z_len (a_cons (e_var 7) a_nil)) a_nil)))) (by rfl) | exact s_set 6 sc_l_table.nd (e_fz (n_lc [("_law_lot_here", 7)] sc_l_table.nd (i_any (e_var 4)) (blkOk_by (by kernel_rfl)) (fun _ _ _ _ _ => (g_nm 7 sc_l_table.nd)) (fun _ _ _ _ _ => ts_nil) (fun _ _ _ _ _ => (e_call (c_l_pick M) hgd hr (a_cons (e_var 0) (a_cons (e_callB (hv := bo_len) b_len M.z_len (a_cons (e_var 7) a_nil)) a_nil)))))))
      (ss_cons (s_set 8 sc_l_table.nd (e_d1T hu1 (e_callTy (hv := bo_tuple) b_tuple M.z_tuple (a_cons (e_fz (n_lc [("_law_k", 9)] sc_l_table.nd (i_rng1 M.z_range (a_cons (e_callB (hv := bo_len) b_len M.z_len (a_cons (e_var 4) a_nil)) a_nil)) (blkOk_by (by kernel_rfl)) (fun _ _ _ _ _ => (g_nm 9 sc_l_table.nd)) (fun _ _ _ _ _ => ts_nil) (fun _ _ _ _ _ => (e_ix (e_ix (e_var 4) (e_var 9)) (e_ix (e_var 6) (e_var 9)))))) a_nil)) e_bl))
      (ss_cons (by first | exact s_setLc 10 [("_law_k", 9)] sc_l_table.nd (i_rng1 M.z_range (a_cons (e_callB (hv := bo_len) b_len M.z_len (a_cons (e_var 4) a_nil)) a_nil)) (blkOk_by (by kernel_rfl)) (fun _ _ _ _ _ => (g_nm 9 sc_l_table.nd)) (fun _ _ _ _ _ => ts_nil) (fun _ _ _ _ _ => (e_bin o_mod (e_bin o_add (e_bin o_add (e_ix (e_var 6) (e_var 9)) e_int) (e_call (c_l_pick M) hgd hr (a_cons (e_var 0) (a_cons (e_bin o_sub (e_callB (hv := bo_len) b_len M.z_len (a_cons (e_ix (e_var 4) (e_var 9)) a_nil)) e_int) a_nil)))) (e_callB (hv := bo_len) b_len M.z_len (a_cons (e_ix (e_var 4) (e_var 9)) a_nil)))) (by rfl) | exact s_set 10 sc_l_table.nd (e_fz (n_lc [("_law_k", 9)] sc_l_table.nd (i_rng1 M.z_range (a_cons (e_callB (hv := bo_len) b_len M.z_len (a_cons (e_var 4) a_nil)) a_nil)) (blkOk_by (by kernel_rfl)) (fun _ _ _ _ _ => (g_nm 9 sc_l_table.nd)) (fun _ _ _ _ _ => ts_nil) (fun _ _ _ _ _ => (e_bin o_mod (e_bin o_add (e_bin o_add (e_ix (e_var 6) (e_var 9)) e_int) (e_call (c_l_pick M) hgd hr (a_cons (e_var 0) (a_cons (e_bin o_sub (e_callB (hv := bo_len) b_len M.z_len (a_cons (e_ix (e_var 4) (e_var 9)) a_nil)) e_int) a_nil)))) (e_callB (hv := bo_len) b_len M.z_len (a_cons (e_ix (e_var 4) (e_var 9)) a_nil)))))))
      (ss_cons (s_put hu1 (e_var 8) (e_callTy (hv := bo_tuple) b_tuple M.z_tuple (a_cons (e_fz (n_lc [("_law_k", 9)] sc_l_table.nd (i_rng1 M.z_range (a_cons (e_callB (hv := bo_len) b_len M.z_len (a_cons (e_var 4) a_nil)) a_nil)) (blkOk_by (by kernel_rfl)) (fun _ _ _ _ _ => (g_nm 9 sc_l_table.nd)) (fun _ _ _ _ _ => ts_nil) (fun _ _ _ _ _ => (e_ix (e_ix (e_var 4) (e_var 9)) (e_ix (e_var 10) (e_var 9)))))) a_nil)) e_bl)
      (ss_cons (s_for (i_rng1 M.z_range (a_cons (e_call (c_l_pick M) hgd hr (a_cons (e_var 0) (a_cons (e_bin o_sub (e_var 2) e_int) a_nil))) a_nil)) (g_nm 9 sc_l_table.nd) (ss_cons (s_put hu1 (e_var 8) (e_callTy (hv := bo_tuple) b_tuple M.z_tuple (a_cons (e_fz (n_lc [("_law_lot_here", 7)] sc_l_table.nd (i_any (e_var 4)) (blkOk_by (by kernel_rfl)) (fun _ _ _ _ _ => (g_nm 7 sc_l_table.nd)) (fun _ _ _ _ _ => ts_nil) (fun _ _ _ _ _ => (e_call (c_l_any M) hgd hr (a_cons (e_var 0) (a_cons (e_var 7) a_nil)))))) a_nil)) e_bl)
      ss_nil))
      (ss_cons (s_ret (e_tup (a_cons (e_var 3) (a_cons (e_callTy (hv := bo_tuple) b_tuple M.z_tuple (a_cons (e_fz (n_callB (hv := bo_sorted) (b_sortedD hu) M.z_sorted (a_cons (e_var 8) a_nil))) a_nil)) a_nil))))
      ss_nil))))))))
theorem c_l_some (M : Mo K mg) : CalG P w K mg base 2 "_law_some" f_l_some :=
  calG M.d_l_some gc_ok sc_l_some (d := b_l_some) <| fun f cdv A outer s H E hgd hr => by
    have hu := hr.units
    have hu1 := hu_of hr
    have hu5 := hu5_of hr
    exact (ss_cons (s_ret (e_callTy (hv := bo_tuple) b_tuple M.z_tuple (a_cons (e_fz (n_lc [("_law_one", 3)] sc_l_some.nd (i_any (e_var 1)) (blkOk_by (by kernel_rfl)) (fun _ _ _ _ _ => (g_nm 3 sc_l_some.nd)) (fun _ _ _ _ _ => (ts_one (t_cmp (o_eq hu) (e_call (c_l_pick M) hgd hr (a_cons (e_var 0) (a_cons (e_var 2) a_nil))) e_int))) (fun _ _ _ _ _ => (e_var 3)))) a_nil)))
      ss_nil)
theorem c_l_in_row (M : Mo K mg) : CalG P w K mg base 1 "_law_in_row" f_l_in_row :=
  calG M.d_l_in_row gc_ok sc_l_in_row (d := b_l_in_row) <| fun f cdv A outer s H E hgd hr => by
    have hu := hr.units
    have hu1 := hu_of hr
    have hu5 := hu5_of hr
    exact (ss_cons (s_ret (e_callTy (hv := bo_tuple) b_tuple M.z_tuple (a_cons (e_fz (n_listZip M.z_list M.z_zip (a_cons (e_ix (e_var 0) e_int) (a_cons (e_var 1) a_nil)))) a_nil)))
      ss_nil)
theorem c_l_every (M : Mo K mg) : CalG P w K mg base 2 "_law_every" f_l_every :=
  calG M.d_l_every gc_ok sc_l_every (d := b_l_every) <| fun f cdv A outer s H E hgd hr => by
    have hu := hr.units
    have hu1 := hu_of hr
    have hu5 := hu5_of hr
    exact (ss_cons (s_set 1 sc_l_every.nd (e_new (n_lst a_nil)))
      (ss_cons (s_for (i_any (e_ix (e_var 0) e_int)) (g_nm 2 sc_l_every.nd) (ss_cons (s_expr (e_extend (e_var 1) (a_cons (e_call (c_l_in_row M) hgd hr (a_cons (e_var 0) (a_cons (e_var 2) a_nil))) a_nil)))
      ss_nil))
      (ss_cons (s_ret (e_fz (n_sortedSet hu5 M.z_sorted M.z_set (e_var 1))))
      ss_nil)))
theorem c_l_lot (M : Mo K mg) : CalG P w K mg base 3 "_law_lot" f_l_lot :=
  calG M.d_l_lot gc_ok sc_l_lot (d := b_l_lot) <| fun f cdv A outer s H E hgd hr => by
    have hu := hr.units
    have hu1 := hu_of hr
    have hu5 := hu5_of hr
    exact (ss_cons (s_ret (e_fz (n_lc [("_law_two", 2)] sc_l_lot.nd (i_any (e_call (c_l_every M) hgd hr (a_cons (e_var 0) a_nil))) (blkOk_by (by kernel_rfl)) (fun _ _ _ _ _ => (g_nm 2 sc_l_lot.nd)) (fun _ _ _ _ _ => (ts_one (t_cmp (o_eq hu) (e_ix (e_var 2) e_int) (e_var 1)))) (fun _ _ _ _ _ => (e_ix (e_var 2) e_int)))))
      ss_nil)
theorem c_l_tree (M : Mo K mg) : ∀ n : Nat, CalG P w K mg base (3 + n) "_law_tree" (f_l_tree n)
  | 0 => calG_none M.d_l_tree
  | n + 1 => calG (k := 3 + n) M.d_l_tree gc_ok sc_l_tree (d := b_l_tree (f_l_tree n)) <| fun f cdv A outer s H E hgd hr => by
    have hu := hr.units
    have hu1 := hu_of hr
    have hu5 := hu5_of hr
    exact (have cself := c_l_tree M n
    (ss_cons (s_set 3 sc_l_tree.nd (e_call (hk := by omega) (c_l_pick M) hgd hr (a_cons (e_var 0) (a_cons e_int a_nil))))
      (ss_cons (s_if (L2.PW.pt (t_or (t_cmp (o_lt hu) (e_var 2) e_int) (t_or1 (t_cmp (o_eq hu) (e_var 3) e_int)))) (ss_cons (s_ret (e_tup (a_cons e_str a_nil)))
      ss_nil) ss_nil)
      (ss_cons (s_if (L2.PW.pt (t_or (t_cmp (o_eq hu) (e_var 3) e_int) (t_or1 (t_cmp (o_lt hu) (e_var 2) e_int)))) (ss_cons (s_ret (e_tup (a_cons e_str (a_cons (e_call (hk := by omega) (c_l_any M) hgd hr (a_cons (e_var 0) (a_cons (e_fz (n_lst (a_cons e_str (a_cons e_str (a_cons e_str (a_cons e_str a_nil)))))) a_nil))) (a_cons (e_call (hk := by omega) cself hgd hr (a_cons (e_var 0) (a_cons (e_var 1) (a_cons (e_bin o_sub (e_var 2) e_int) a_nil)))) a_nil)))))
      ss_nil) ss_nil)
      (ss_cons (s_set 4 sc_l_tree.nd (e_call (hk := by omega) (c_l_any M) hgd hr (a_cons (e_var 0) (a_cons (e_fz (n_callTy (hv := bo_list) b_list M.z_list (a_cons (e_ix (e_var 1) e_int) a_nil))) a_nil))))
      (ss_cons (s_set 5 sc_l_tree.nd (e_call (hk := by omega) (c_l_some M) hgd hr (a_cons (e_var 0) (a_cons (e_call (hk := by omega) (c_l_lot M) hgd hr (a_cons (e_var 1) (a_cons (e_var 4) a_nil))) (a_cons e_int a_nil)))))
      (ss_cons (s_set 6 sc_l_tree.nd (e_bin o_add e_int (e_call (hk := by omega) (c_l_pick M) hgd hr (a_cons (e_var 0) (a_cons (e_bin o_sub (e_var 2) e_int) a_nil)))))
      (ss_cons (by first | exact s_par2 7 8 sc_l_tree.nd (a_cons (e_call (hk := by omega) cself hgd hr (a_cons (e_var 0) (a_cons (e_var 1) (a_cons (e_var 6) a_nil)))) (a_cons (e_call (hk := by omega) cself hgd hr (a_cons (e_var 0) (a_cons (e_var 1) (a_cons (e_bin o_sub (e_bin o_sub (e_var 2) e_int) (e_var 6)) a_nil)))) a_nil)) | exact s_parT (g_cons 7 sc_l_tree.nd (g_cons 8 sc_l_tree.nd g_nil)) (a_cons (e_call (hk := by omega) cself hgd hr (a_cons (e_var 0) (a_cons (e_var 1) (a_cons (e_var 6) a_nil)))) (a_cons (e_call (hk := by omega) cself hgd hr (a_cons (e_var 0) (a_cons (e_var 1) (a_cons (e_bin o_sub (e_bin o_sub (e_var 2) e_int) (e_var 6)) a_nil)))) a_nil)))
      (ss_cons (s_ret (e_tup (a_cons e_str (a_cons (e_var 4) (a_cons (e_var 5) (a_cons (e_var 7) (a_cons (e_var 8) a_nil)))))))
      ss_nil)))))))))
theorem c_l_ways (M : Mo K mg) : ∀ n : Nat, CalG P w K mg base (0 + n) "_law_ways" (f_l_ways n)
  | 0 => calG_none M.d_l_ways
  | n + 1 => calG (k := 0 + n) M.d_l_ways gc_ok sc_l_ways (d := b_l_ways (f_l_ways n)) <| fun f cdv A outer s H E hgd hr => by
    have hu := hr.units
    have hu1 := hu_of hr
    have hu5 := hu5_of hr
    exact (have cself := c_l_ways M n
    (ss_cons (s_if (t_cmp (o_eq hu) (e_ix (e_var 0) e_int) e_str) (ss_cons (s_ret (e_fz (n_lst (a_cons (e_tup (a_cons (e_tup a_nil) (a_cons (e_tup a_nil) a_nil))) a_nil))))
      ss_nil) ss_nil)
      (ss_cons (s_if (t_cmp (o_eq hu) (e_ix (e_var 0) e_int) e_str) (ss_cons (s_ret (e_fz (n_lc [("_law_way", 1), ("_law_words", 2)] sc_l_ways.nd (i_any (e_call (hk := by omega) cself hgd hr (a_cons (e_ix (e_var 0) e_int) a_nil))) (blkOk_by (by kernel_rfl)) (fun _ _ _ _ _ => (g_tp (g_cons 1 sc_l_ways.nd (g_cons 2 sc_l_ways.nd g_nil)))) (fun _ _ _ _ _ => ts_nil) (fun _ _ _ _ _ => (e_tup (a_cons (e_var 1) (a_cons (e_bin o_add (e_tup (a_cons (e_ix (e_var 0) e_int) a_nil)) (e_var 2)) a_nil)))))))
      ss_nil) ss_nil)
      (ss_cons (by first | exact s_setLc 3 [("_law_way", 1), ("_law_words", 2)] sc_l_ways.nd (i_any (e_call (hk := by omega) cself hgd hr (a_cons (e_ix (e_var 0) e_int) a_nil))) (blkOk_by (by kernel_rfl)) (fun _ _ _ _ _ => (g_tp (g_cons 1 sc_l_ways.nd (g_cons 2 sc_l_ways.nd g_nil)))) (fun _ _ _ _ _ => ts_nil) (fun _ _ _ _ _ => (e_tup (a_cons (e_bin o_add (e_tup (a_cons e_str a_nil)) (e_var 1)) (a_cons (e_var 2) a_nil)))) (by rfl) | exact s_set 3 sc_l_ways.nd (e_fz (n_lc [("_law_way", 1), ("_law_words", 2)] sc_l_ways.nd (i_any (e_call (hk := by omega) cself hgd hr (a_cons (e_ix (e_var 0) e_int) a_nil))) (blkOk_by (by kernel_rfl)) (fun _ _ _ _ _ => (g_tp (g_cons 1 sc_l_ways.nd (g_cons 2 sc_l_ways.nd g_nil)))) (fun _ _ _ _ _ => ts_nil) (fun _ _ _ _ _ => (e_tup (a_cons (e_bin o_add (e_tup (a_cons e_str a_nil)) (e_var 1)) (a_cons (e_var 2) a_nil)))))))
      (ss_cons (s_ret (e_bin o_add (e_var 3) (e_fz (n_lc [("_law_way", 1), ("_law_words", 2)] sc_l_ways.nd (i_any (e_call (hk := by omega) cself hgd hr (a_cons (e_ix (e_var 0) e_int) a_nil))) (blkOk_by (by kernel_rfl)) (fun _ _ _ _ _ => (g_tp (g_cons 1 sc_l_ways.nd (g_cons 2 sc_l_ways.nd g_nil)))) (fun _ _ _ _ _ => ts_nil) (fun _ _ _ _ _ => (e_tup (a_cons (e_bin o_add (e_tup (a_cons e_str a_nil)) (e_var 1)) (a_cons (e_var 2) a_nil))))))))
      ss_nil)))))
theorem c_l_starts (M : Mo K mg) : CalG P w K mg base 15 "_law_starts" f_l_starts :=
  calG M.d_l_starts gc_ok sc_l_starts (d := b_l_starts) <| fun f cdv A outer s H E hgd hr => by
    have hu := hr.units
    have hu1 := hu_of hr
    have hu5 := hu5_of hr
    exact (ss_cons (s_set 1 sc_l_starts.nd (e_new (n_lst (a_cons (e_tup a_nil) a_nil))))
      (ss_cons (s_for (i_any (e_call (c_l_ways M 14) hgd hr (a_cons (e_var 0) a_nil))) (g_tp (g_cons 2 sc_l_starts.nd (g_cons 3 sc_l_starts.nd g_nil))) (ss_cons (s_for (i_rng2 M.z_range (a_cons e_int (a_cons (e_bin o_add (e_callB (hv := bo_len) b_len M.z_len (a_cons (e_var 2) a_nil)) e_int) a_nil))) (g_nm 4 sc_l_starts.nd) (ss_cons (s_if (t_cmp (o_notin hu5) (e_slA (e_var 2) p_no (p_e (e_var 4))) (e_var 1)) (ss_cons (s_expr (e_append (e_var 1) (a_cons (e_slA (e_var 2) p_no (p_e (e_var 4))) a_nil)))
      ss_nil) ss_nil)
      ss_nil))
      ss_nil))
      (ss_cons (s_ret (e_var 1))
      ss_nil)))
theorem c_spoken (M : Mo K mg) : CalG P w K mg base 1 "spoken" f_spoken :=
  calG M.d_spoken gcNew_ok sc_spoken (d := b_spoken) <| fun f cdv A outer s H E hgd hr => by
    have hu := hr.units
    have hu1 := hu_of hr
    have hu5 := hu5_of hr
    exact (ss_cons (by first | exact s_par2 1 2 sc_spoken.nd (a_cons (e_new (n_lst a_nil)) (a_cons (e_var 0) a_nil)) | exact s_parT (g_cons 1 sc_spoken.nd (g_cons 2 sc_spoken.nd g_nil)) (a_cons (e_new (n_lst a_nil)) (a_cons (e_var 0) a_nil)))
      (ss_cons (s_while 40 (t_cmp (o_eq hu) (e_ix (e_var 2) e_int) e_str) (ss_cons (s_expr (e_append (e_var 1) (a_cons (e_ix (e_var 2) e_int) a_nil)))
      (ss_cons (s_set 2 sc_spoken.nd (e_ix (e_var 2) e_int))
      ss_nil)))
      (ss_cons (s_ret (e_tupP (a_cons (e_var 1) (a_cons (e_var 2) a_nil))))
      ss_nil)))
theorem c_after_answer (M : Mo K mg) : CalG P w K mg base 1 "after_answer" f_after_answer :=
  calG M.d_after_answer gc_ok sc_after_answer (d := b_after_answer) <| fun f cdv A outer s H E hgd hr => by
    have hu := hr.units
    have hu1 := hu_of hr
    have hu5 := hu5_of hr
    exact (ss_cons (s_asg (e_var 0) (g_tp (g_cons 2 sc_after_answer.nd (g_cons 3 sc_after_answer.nd (g_cons 4 sc_after_answer.nd (g_cons 5 sc_after_answer.nd (g_cons 6 sc_after_answer.nd g_nil)))))))
      (ss_cons (s_ret (e_if (t_cmp (o_eq hu) (e_var 1) e_str) (e_var 5) (e_var 6)))
      ss_nil))
theorem c_paths_of (M : Mo K mg) : ∀ n : Nat, CalG P w K mg base (1 + n) "paths_of" (f_paths_of n)
  | 0 => calG_none M.d_paths_of
  | n + 1 => calG (k := 1 + n) M.d_paths_of gc_ok sc_paths_of (d := b_paths_of (f_paths_of n)) <| fun f cdv A outer s H E hgd hr => by
    have hu := hr.units
    have hu1 := hu_of hr
    have hu5 := hu5_of hr
    exact (have cself := c_paths_of M n
    (ss_cons (s_asgP 1 2 (e_call (hk := by omega) (c_spoken M) hgd hr (a_cons (e_var 0) a_nil)) (g_tp (g_cons 1 sc_paths_of.nd (g_cons 2 sc_paths_of.nd g_nil))))
      (ss_cons (s_if (t_cmp (o_eq hu) (e_ix (e_var 2) e_int) e_str) (ss_cons (s_ret (e_tup (a_cons (e_tup a_nil) a_nil)))
      ss_nil) ss_nil)
      (ss_cons (s_set 3 sc_paths_of.nd (e_new (n_lst a_nil)))
      (ss_cons (s_for (i_any (e_tup (a_cons e_str (a_cons e_str a_nil)))) (g_nm 4 sc_paths_of.nd) (ss_cons (s_expr (e_extend (e_var 3) (a_cons (e_fz (n_lc [("path", 5)] sc_paths_of.nd (i_any (e_call (hk := by omega) cself hgd hr (a_cons (e_call (hk := by omega) (c_after_answer M) hgd hr (a_cons (e_var 2) (a_cons (e_var 4) a_nil))) a_nil))) (blkOk_by (by kernel_rfl)) (fun _ _ _ _ _ => (g_nm 5 sc_paths_of.nd)) (fun _ _ _ _ _ => ts_nil) (fun _ _ _ _ _ => (e_bin o_add (e_tup (a_cons (e_var 4) a_nil)) (e_var 5))))) a_nil)))
      ss_nil))
      (ss_cons (s_ret (e_callTy (hv := bo_tuple) b_tuple M.z_tuple (a_cons (e_var 3) a_nil)))
      ss_nil))))))
theorem c_l_after (M : Mo K mg) : CalG P w K mg base 1 "_law_after" f_l_after :=
  calG M.d_l_after gc_ok sc_l_after (d := b_l_after) <| fun f cdv A outer s H E hgd hr => by
    have hu := hr.units
    have hu1 := hu_of hr
    have hu5 := hu5_of hr
    exact (ss_cons (by first | exact s_par2 2 3 sc_l_after.nd (a_cons (e_tup a_nil) (a_cons (e_var 0) a_nil)) | exact s_parT (g_cons 2 sc_l_after.nd (g_cons 3 sc_l_after.nd g_nil)) (a_cons (e_tup a_nil) (a_cons (e_var 0) a_nil)))
      (ss_cons (s_for (i_any (e_var 1)) (g_nm 4 sc_l_after.nd) (ss_cons (s_while 40 (t_cmp (o_eq hu) (e_ix (e_var 3) e_int) e_str) (ss_cons (by first | exact s_par2 2 3 sc_l_after.nd (a_cons (e_bin o_add (e_var 2) (e_tup (a_cons (e_ix (e_var 3) e_int) a_nil))) (a_cons (e_ix (e_var 3) e_int) a_nil)) | exact s_parT (g_cons 2 sc_l_after.nd (g_cons 3 sc_l_after.nd g_nil)) (a_cons (e_bin o_add (e_var 2) (e_tup (a_cons (e_ix (e_var 3) e_int) a_nil))) (a_cons (e_ix (e_var 3) e_int) a_nil)))
      ss_nil))
      (ss_cons (s_set 3 sc_l_after.nd (e_if (t_cmp (o_eq hu) (e_var 4) e_str) (e_ix (e_var 3) e_int) (e_ix (e_var 3) e_int)))
      ss_nil)))
      (ss_cons (s_ret (e_tup (a_cons (e_var 3) (a_cons (e_var 2) a_nil))))
      ss_nil)))
theorem c_l_next (M : Mo K mg) : CalG P w K mg base 2 "_law_next" f_l_next :=
  calG M.d_l_next gc_ok sc_l_next (d := b_l_next) <| fun f cdv A outer s H E hgd hr => by
    have hu := hr.units
    have hu1 := hu_of hr
    have hu5 := hu5_of hr
    exact (ss_cons (s_asg (e_call (c_l_after M) hgd hr (a_cons (e_var 0) (a_cons (e_var 1) a_nil))) (g_tp (g_cons 2 sc_l_next.nd (g_cons 3 sc_l_next.nd g_nil))))
      (ss_cons (s_while 40 (t_cmp (o_eq hu) (e_ix (e_var 2) e_int) e_str) (ss_cons (by first | exact s_par2 3 2 sc_l_next.nd (a_cons (e_bin o_add (e_var 3) (e_tup (a_cons (e_ix (e_var 2) e_int) a_nil))) (a_cons (e_ix (e_var 2) e_int) a_nil)) | exact s_parT (g_cons 3 sc_l_next.nd (g_cons 2 sc_l_next.nd g_nil)) (a_cons (e_bin o_add (e_var 3) (e_tup (a_cons (e_ix (e_var 2) e_int) a_nil))) (a_cons (e_ix (e_var 2) e_int) a_nil)))
      ss_nil))
      (ss_cons (s_ret (e_tup (a_cons (e_if (t_cmp (o_eq hu) (e_ix (e_var 2) e_int) e_str) e_non (e_slA (e_var 2) (p_e e_int) (p_e e_int))) (a_cons (e_var 3) a_nil))))
      ss_nil)))
theorem c_output_of (M : Mo K mg) : CalG P w K mg base 2 "output_of" f_output_of :=
  calG M.d_output_of gc_ok sc_output_of (d := b_output_of) <| fun f cdv A outer s H E hgd hr => by
    have hu := hr.units
    have hu1 := hu_of hr
    have hu5 := hu5_of hr
    exact (ss_cons (s_asgP 2 3 (e_call (c_spoken M) hgd hr (a_cons (e_var 0) a_nil)) (g_tp (g_cons 2 sc_output_of.nd (g_cons 3 sc_output_of.nd g_nil))))
      (ss_cons (s_for (i_any (e_var 1)) (g_nm 4 sc_output_of.nd) (ss_cons (s_asgP 5 3 (e_call (c_spoken M) hgd hr (a_cons (e_call (c_after_answer M) hgd hr (a_cons (e_var 3) (a_cons (e_var 4) a_nil))) a_nil)) (g_tp (g_cons 5 sc_output_of.nd (g_cons 3 sc_output_of.nd g_nil))))
      (ss_cons (s_expr (e_extend (e_var 2) (a_cons (e_var 5) a_nil)))
      ss_nil)))
      (ss_cons (s_ret (e_callTy (hv := bo_tuple) b_tuple M.z_tuple (a_cons (e_var 2) a_nil)))
      ss_nil)))
theorem c_program_after (M : Mo K mg) : CalG P w K mg base 2 "program_after" f_program_after :=
  calG M.d_program_after gc_ok sc_program_after (d := b_program_after) <| fun f cdv A outer s H E hgd hr => by
    have hu := hr.units
    have hu1 := hu_of hr
    have hu5 := hu5_of hr
    exact (ss_cons (s_set 2 sc_program_after.nd (e_var 0))
      (ss_cons (s_for (i_any (e_var 1)) (g_nm 3 sc_program_after.nd) (ss_cons (s_set 2 sc_program_after.nd (e_call (c_after_answer M) hgd hr (a_cons (e_snd (e_call (c_spoken M) hgd hr (a_cons (e_var 2) a_nil))) (a_cons (e_var 3) a_nil))))
      ss_nil))
      (ss_cons (s_ret (e_var 2))
      ss_nil)))
theorem c_next_question (M : Mo K mg) : CalG P w K mg base 3 "next_question" f_next_question :=
  calG M.d_next_question gc_ok sc_next_question (d := b_next_question) <| fun f cdv A outer s H E hgd hr => by
    have hu := hr.units
    have hu1 := hu_of hr
    have hu5 := hu5_of hr
    exact (ss_cons (s_asgP 2 3 (e_call (c_spoken M) hgd hr (a_cons (e_call (c_program_after M) hgd hr (a_cons (e_var 0) (a_cons (e_var 1) a_nil))) a_nil)) (g_tp (g_cons 2 sc_next_question.nd (g_cons 3 sc_next_question.nd g_nil))))
      (ss_cons (s_ret (e_if (t_cmp (o_eq hu) (e_ix (e_var 3) e_int) e_str) e_non (e_slA (e_var 3) (p_e e_int) (p_e e_int))))
      ss_nil))
theorem c_is_answer (M : Mo K mg) : CalG P w K mg base 1 "is_answer" f_is_answer :=
  calG M.d_is_answer gc_ok sc_is_answer (d := b_is_answer) <| fun f cdv A outer s H E hgd hr => by
    have hu := hr.units
    have hu1 := hu_of hr
    have hu5 := hu5_of hr
    exact (ss_cons (s_ret (e_and (e_isi (hv := bo_str) M.z_isinstance M.z_str (e_var 0)) (e_one (e_cmp (o_in hu5) (e_var 0) (e_tup (a_cons e_str (a_cons e_str a_nil)))))))
      ss_nil)
theorem c_is_path (M : Mo K mg) : CalG P w K mg base 2 "is_path" f_is_path :=
  calG M.d_is_path gc_ok sc_is_path (d := b_is_path) <| fun f cdv A outer s H E hgd hr => by
    have hu := hr.units
    have hu1 := hu_of hr
    have hu5 := hu5_of hr
    exact (ss_cons (s_if (t_not (t_val (e_isi (hv := bo_tuple) M.z_isinstance M.z_tuple (e_var 1)))) (ss_cons (s_ret e_bl)
      ss_nil) ss_nil)
      (ss_cons (s_asgP 2 3 (e_call (c_spoken M) hgd hr (a_cons (e_var 0) a_nil)) (g_tp (g_cons 2 sc_is_path.nd (g_cons 3 sc_is_path.nd g_nil))))
      (ss_cons (s_for (i_any (e_var 1)) (g_nm 4 sc_is_path.nd) (ss_cons (s_if (L2.PW.pt (t_or (t_not (t_val (e_call (c_is_answer M) hgd hr (a_cons (e_var 4) a_nil)))) (t_or1 (t_cmp (o_eq hu) (e_ix (e_var 3) e_int) e_str)))) (ss_cons (s_ret e_bl)
      ss_nil) ss_nil)
      (ss_cons (s_asgP 2 3 (e_call (c_spoken M) hgd hr (a_cons (e_call (c_after_answer M) hgd hr (a_cons (e_var 3) (a_cons (e_var 4) a_nil))) a_nil)) (g_tp (g_cons 2 sc_is_path.nd (g_cons 3 sc_is_path.nd g_nil))))
      ss_nil)))
      (ss_cons (s_ret e_bl)
      ss_nil))))
theorem c_l_are_right (M : Mo K mg) : CalG P w K mg base 4 "_law_are_right" f_l_are_right :=
  calG M.d_l_are_right gc_ok sc_l_are_right (d := b_l_are_right) <| fun f cdv A outer s H E hgd hr => by
    have hu := hr.units
    have hu1 := hu_of hr
    have hu5 := hu5_of hr
    exact (ss_cons (s_asg (e_call (c_l_next M) hgd hr (a_cons (e_var 0) (a_cons (e_var 1) a_nil))) (g_tp (g_cons 2 sc_l_are_right.nd (g_cons 3 sc_l_are_right.nd g_nil))))
      (ss_cons (s_set 4 sc_l_are_right.nd (e_fz (n_lst (a_cons (e_var 3) (a_cons (e_var 2) (a_cons (e_ix (e_call (c_l_after M) hgd hr (a_cons (e_var 0) (a_cons (e_var 1) a_nil))) e_int) (a_cons e_bl a_nil)))))))
      (ss_cons (s_set 5 sc_l_are_right.nd (e_fz (n_lst (a_cons (e_call (c_output_of M) hgd hr (a_cons (e_var 0) (a_cons (e_var 1) a_nil))) (a_cons (e_call (c_next_question M) hgd hr (a_cons (e_var 0) (a_cons (e_var 1) a_nil))) (a_cons (e_call (c_program_after M) hgd hr (a_cons (e_var 0) (a_cons (e_var 1) a_nil))) (a_cons (e_call (c_is_path M) hgd hr (a_cons (e_var 0) (a_cons (e_var 1) a_nil))) a_nil)))))))
      (ss_cons (s_if (t_cmp (o_ne hu) (e_callB (hv := bo_repr) (b_repr hgd hu) M.z_repr (a_cons (e_var 5) a_nil)) (e_callB (hv := bo_repr) (b_repr hgd hu) M.z_repr (a_cons (e_var 4) a_nil))) (ss_cons (s_ret e_bl)
      ss_nil) ss_nil)
      (ss_cons (s_set 5 sc_l_are_right.nd (e_fz (n_lst (a_cons (e_callK (c_output_of M) M.d_output_of hgd hr (k_cons (e_var 1) (k_cons (e_var 0) k_nil)) (fun _ _ _ _ _ _ us hl => match us, hl with | [_, _], _ => rfl)) (a_cons (e_callK (c_next_question M) M.d_next_question hgd hr (k_cons (e_var 1) (k_cons (e_var 0) k_nil)) (fun _ _ _ _ _ _ us hl => match us, hl with | [_, _], _ => rfl)) a_nil)))))
      (ss_cons (s_ret (e_cmp (o_eq hu) (e_callB (hv := bo_repr) (b_repr hgd hu) M.z_repr (a_cons (e_bin o_add (e_var 5) (e_fz (n_lst (a_cons (e_callK (c_program_after M) M.d_program_after hgd hr (k_cons (e_var 1) (k_cons (e_var 0) k_nil)) (fun _ _ _ _ _ _ us hl => match us, hl with | [_, _], _ => rfl)) (a_cons (e_callK (c_is_path M) M.d_is_path hgd hr (k_cons (e_var 1) (k_cons (e_var 0) k_nil)) (fun _ _ _ _ _ _ us hl => match us, hl with | [_, _], _ => rfl)) a_nil))))) a_nil)) (e_callB (hv := bo_repr) (b_repr hgd hu) M.z_repr (a_cons (e_var 4) a_nil))))
      ss_nil))))))
theorem g_law {f : Addr} {fd : FuncData} (M : Mo K mg) (F : Fun K "law" "law" st_law f fd) : FnG P w K mg base CX0 18 f fd ["_law_script"] (spF K mg f_law) :=
  mk_fn (N := ["_law_script", "_law_tape_here", "_law_lap", "_law_board", "_law_tree_here", "_law_kept", "_law_due", "_law_way", "_law_words", "_law_starts_here", "_law_others", "_law_value", "_law_shown"]) (ps := ["_law_script"]) (d := b_law) gc_ok F sc_law <| fun cdv A outer s H E hgd hr => by
    have hu := hr.units
    have hu1 := hu_of hr
    have hu5 := hu5_of hr
    exact (ss_cons (s_set 1 sc_law.nd (e_call (c_l_tape M) hgd hr (a_cons (e_var 0) a_nil)))
      (ss_cons (s_for (i_rng1 M.z_range (a_cons e_int a_nil)) (g_nm 2 sc_law.nd) (ss_cons (s_set 3 sc_law.nd (e_call (c_l_table M) hgd hr (a_cons (e_var 1) (a_cons e_int (a_cons e_int a_nil)))))
      (ss_cons (s_set 4 sc_law.nd (e_call (c_l_tree M 14) hgd hr (a_cons (e_var 1) (a_cons (e_var 3) (a_cons e_int a_nil)))))
      (ss_cons (by first | exact s_par2 5 6 sc_law.nd (a_cons (e_callB (hv := bo_repr) (b_repr hgd hu) M.z_repr (a_cons (e_var 4) a_nil)) (a_cons (e_callTy (hv := bo_tuple) b_tuple M.z_tuple (a_cons (e_fz (n_lc [("_law_way", 7), ("_law_words", 8)] sc_law.nd (i_any (e_call (c_l_ways M 14) hgd hr (a_cons (e_var 4) a_nil))) (blkOk_by (by kernel_rfl)) (fun _ _ _ _ _ => (g_tp (g_cons 7 sc_law.nd (g_cons 8 sc_law.nd g_nil)))) (fun _ _ _ _ _ => ts_nil) (fun _ _ _ _ _ => (e_var 7)))) a_nil)) a_nil)) | exact s_parT (g_cons 5 sc_law.nd (g_cons 6 sc_law.nd g_nil)) (a_cons (e_callB (hv := bo_repr) (b_repr hgd hu) M.z_repr (a_cons (e_var 4) a_nil)) (a_cons (e_callTy (hv := bo_tuple) b_tuple M.z_tuple (a_cons (e_fz (n_lc [("_law_way", 7), ("_law_words", 8)] sc_law.nd (i_any (e_call (c_l_ways M 14) hgd hr (a_cons (e_var 4) a_nil))) (blkOk_by (by kernel_rfl)) (fun _ _ _ _ _ => (g_tp (g_cons 7 sc_law.nd (g_cons 8 sc_law.nd g_nil)))) (fun _ _ _ _ _ => ts_nil) (fun _ _ _ _ _ => (e_var 7)))) a_nil)) a_nil)))
      (ss_cons (s_if (t_cmp (o_ne hu) (e_callB (hv := bo_repr) (b_repr hgd hu) M.z_repr (a_cons (e_fz (n_lst (a_cons (e_call (c_paths_of M 14) hgd hr (a_cons (e_var 4) a_nil)) (a_cons (e_callK (c_paths_of M 14) M.d_paths_of hgd hr (k_cons (e_var 4) k_nil) (fun _ _ _ _ _ _ us hl => match us, hl with | [_], _ => rfl)) a_nil)))) a_nil)) (e_callB (hv := bo_repr) (b_repr hgd hu) M.z_repr (a_cons (e_fz (n_lst (a_cons (e_var 6) (a_cons (e_var 6) a_nil)))) a_nil))) (ss_cons (s_ret e_bl)
      ss_nil) ss_nil)
      (ss_cons (s_set 9 sc_law.nd (e_call (c_l_starts M) hgd hr (a_cons (e_var 4) a_nil)))
      (ss_cons (s_if (t_cmp (o_ne hu) (e_fz (n_lc [("_law_way", 7)] sc_law.nd (i_any (e_var 9)) (blkOk_by (by kernel_rfl)) (fun _ _ _ _ _ => (g_nm 7 sc_law.nd)) (fun _ _ _ _ _ => (ts_one (t_not (t_val (e_call (c_l_are_right M) hgd hr (a_cons (e_var 4) (a_cons (e_var 7) a_nil))))))) (fun _ _ _ _ _ => (e_var 7)))) (e_fz (n_lst a_nil))) (ss_cons (s_ret e_bl)
      ss_nil) ss_nil)
      (ss_cons (s_set 10 sc_law.nd (e_fz (n_lst (a_cons e_non (a_cons e_str (a_cons (e_fz (n_lst (a_cons e_str a_nil))) (a_cons (e_tup (a_cons e_str a_nil)) (a_cons (e_tup (a_cons e_bl a_nil)) (a_cons (e_tup (a_cons e_str (a_cons e_non a_nil))) (a_cons (e_tup (a_cons (e_tup (a_cons e_str a_nil)) a_nil)) (a_cons e_int (a_cons (e_tup (a_cons (e_fz (n_lst (a_cons e_str a_nil))) a_nil)) (a_cons (e_tup (a_cons e_str (a_cons (e_fz (n_lst (a_cons e_str a_nil))) a_nil))) a_nil)))))))))))))
      (ss_cons (s_for (i_any (e_var 9)) (g_nm 7 sc_law.nd) (ss_cons (s_set 10 sc_law.nd (e_bin o_add (e_var 10) (e_fz (n_lst (a_cons (e_bin o_add (e_var 7) (e_tup (a_cons e_str a_nil))) (a_cons (e_bin o_add (e_var 7) (e_tup (a_cons e_str a_nil))) (a_cons (e_bin o_add (e_var 7) (e_tup (a_cons e_str a_nil))) (a_cons (e_fz (n_callTy (hv := bo_list) b_list M.z_list (a_cons (e_var 7) a_nil))) (a_cons (e_slA (e_var 7) (p_e e_int) p_no) (a_cons (e_bin o_add (e_tup (a_cons e_str a_nil)) (e_var 7)) a_nil))))))))))
      ss_nil))
      (ss_cons (s_for (i_any (e_var 10)) (g_nm 11 sc_law.nd) (ss_cons (by first | exact s_par2 6 12 sc_law.nd (a_cons (e_and (e_isi (hv := bo_tuple) M.z_isinstance M.z_tuple (e_var 11)) (e_one (e_cmp (o_in hu5) (e_var 11) (e_var 9)))) (a_cons (e_callB (hv := bo_repr) (b_repr hgd hu) M.z_repr (a_cons (e_var 11) a_nil)) a_nil)) | exact s_parT (g_cons 6 sc_law.nd (g_cons 12 sc_law.nd g_nil)) (a_cons (e_and (e_isi (hv := bo_tuple) M.z_isinstance M.z_tuple (e_var 11)) (e_one (e_cmp (o_in hu5) (e_var 11) (e_var 9)))) (a_cons (e_callB (hv := bo_repr) (b_repr hgd hu) M.z_repr (a_cons (e_var 11) a_nil)) a_nil)))
      (ss_cons (s_if (t_cmp (o_ne hu) (e_callB (hv := bo_repr) (b_repr hgd hu) M.z_repr (a_cons (e_fz (n_lst (a_cons (e_call (c_is_path M) hgd hr (a_cons (e_var 4) (a_cons (e_var 11) a_nil))) (a_cons (e_callK (c_is_path M) M.d_is_path hgd hr (k_cons (e_var 11) (k_cons (e_var 4) k_nil)) (fun _ _ _ _ _ _ us hl => match us, hl with | [_, _], _ => rfl)) a_nil)))) a_nil)) (e_callB (hv := bo_repr) (b_repr hgd hu) M.z_repr (a_cons (e_fz (n_lst (a_cons (e_var 6) (a_cons (e_var 6) a_nil)))) a_nil))) (ss_cons (s_ret e_bl)
      ss_nil) ss_nil)
      (ss_cons (s_if (t_cmp (o_ne hu) (e_callB (hv := bo_repr) (b_repr hgd hu) M.z_repr (a_cons (e_var 11) a_nil)) (e_var 12)) (ss_cons (s_ret e_bl)
      ss_nil) ss_nil)
      ss_nil))))
      (ss_cons (s_if (t_cmp (o_ne hu) (e_callB (hv := bo_repr) (b_repr hgd hu) M.z_repr (a_cons (e_var 4) a_nil)) (e_var 5)) (ss_cons (s_ret e_bl)
      ss_nil) ss_nil)
      ss_nil)))))))))))
      (ss_cons (s_ret e_bl)
      ss_nil)))
end
end LK33
end

section
/-! part CLMath -/
set_option Elab.async false
set_option linter.all false
set_option maxRecDepth 100000
/-! CLMath: what the denotations give, by wishes. -/
namespace CL
open PySem PySem.Spec PyProof.Rows L2

/-- it ends, and P holds of its end -/
def Ret {α : Type} (m : M α) (P : α → So → Prop) : Prop := match m with
  | some (.ok a S) => P a S
  | _ => False
@[simp] theorem Ret_ok {α : Type} (a : α) (S : So) (P : α → So → Prop) : Ret (some (.ok a S)) P ↔ P a S := Iff.rfl
@[simp] theorem Ret_none {α : Type} (P : α → So → Prop) : Ret (none : M α) P ↔ False := Iff.rfl
@[simp] theorem Ret_xc {α : Type} (x : XV) (S : So) (P : α → So → Prop) : Ret (some (.xc x S) : M α) P ↔ False := Iff.rfl
@[simp] theorem Ret_bnd {α β : Type} (m : M α) (f : α → So → M β) (P : β → So → Prop) : Ret (bnd m f) P ↔ Ret m fun a S => Ret (f a S) P := by
  unfold bnd Ret
  cases m with
  | none => rfl
  | some r => cases r <;> rfl
@[simp] theorem Ret_giv {α : Type} (o : Option α) (S : So) (P : α → So → Prop) : Ret (giv o S) P ↔ ∃ a, o = some a ∧ P a S := by
  cases o <;> simp [giv]
theorem Ret_gmap {α β : Type} (o : Option β) (f : β → α) (S : So) (P : α → So → Prop) : Ret (giv (o.map f) S) P ↔ ∃ b, o = some b ∧ P (f b) S := by
  cases o <;> simp [giv]
theorem Ret_gbind {α β : Type} (o : Option β) (f : β → Option α) (S : So) (P : α → So → Prop) : Ret (giv (o.bind f) S) P ↔ ∃ b, o = some b ∧ Ret (giv (f b) S) P := by
  cases o <;> simp [giv]
theorem Ret.mono {α : Type} {m : M α} {P Q : α → So → Prop} (h : Ret m P) (k : ∀ a S, P a S → Q a S) : Ret m Q := by
  unfold Ret at *
  split at h
  · exact k _ _ h
  · exact h.elim
theorem Ret.eq {α : Type} {m : M α} {a : α} {S : So} (h : Ret m fun b T => b = a ∧ T = S) : m = some (.ok a S) := by
  unfold Ret at h
  split at h
  · rw [h.1, h.2]
  · exact h.elim
theorem Ret.of {α : Type} {m : M α} {a : α} {S : So} {P : α → So → Prop} (e : m = some (.ok a S)) (h : P a S) : Ret m P := by rw [e]; exact h
def RetS (o : Option Out) (N : En → So → Prop) (R : W → So → Prop) : Prop := match o with
  | some (.nx σ S) => N σ S
  | some (.rt w S) => R w S
  | _ => False
section
variable {N : En → So → Prop} {R : W → So → Prop} {σ : En} {S : So}
@[simp] theorem RetS_nx : RetS (some (.nx σ S)) N R ↔ N σ S := Iff.rfl
@[simp] theorem RetS_rt (w : W) : RetS (some (.rt w S)) N R ↔ R w S := Iff.rfl
@[simp] theorem RetS_none : RetS none N R ↔ False := Iff.rfl
@[simp] theorem RetS_cons (a b : DS) : RetS (sCons a b σ S) N R ↔ RetS (a σ S) (fun σ1 S1 => RetS (b σ1 S1) N R) R := by
  unfold sCons RetS
  cases a σ S with
  | none => rfl
  | some o => cases o <;> rfl
@[simp] theorem RetS_nil : RetS (sNil σ S) N R ↔ N σ S := Iff.rfl
theorem RetS_bnd {α : Type} (m : M α) (f : α → So → Option Out) : RetS (bndS σ m f) N R ↔ Ret m fun a S => RetS (f a S) N R := by
  unfold bndS RetS Ret
  cases m with
  | none => rfl
  | some r => cases r <;> rfl
@[simp] theorem RetS_set (i : Nat) (d : DE) : RetS (sSet i d σ S) N R ↔ Ret (d σ S) fun w S1 => N (σ.set i (some w)) S1 := RetS_bnd _ _
@[simp] theorem RetS_drop (d : DE) : RetS (sDrop d σ S) N R ↔ Ret (d σ S) fun _ S1 => N σ S1 := RetS_bnd _ _
@[simp] theorem RetS_ret (d : DE) : RetS (sRet d σ S) N R ↔ Ret (d σ S) R := RetS_bnd _ _
theorem RetS_ite {b : Bool} (o o' : Option Out) : RetS (if b = true then o else o') N R ↔ if b = true then RetS o N R else RetS o' N R := by cases b <;> rfl
@[simp] theorem RetS_if (t : DT) (a b : DS) : RetS (sIf t a b σ S) N R ↔ Ret (t σ S) fun k S1 => if k = true then RetS (a σ S1) N R else RetS (b σ S1) N R := by
  unfold sIf
  rw [RetS_bnd]
  simp only [RetS_ite]
theorem Ret_ite {α : Type} {b : Bool} (o o' : M α) (P : α → So → Prop) : Ret (if b = true then o else o') P ↔ if b = true then Ret o P else Ret o' P := by cases b <;> rfl
@[simp] theorem RetS_asg (tg : Tg) (d : DE) : RetS (sAsg tg d σ S) N R ↔ Ret (d σ S) fun w S1 => ∃ σ1, bindT tg w σ = some σ1 ∧ N σ1 S1 := by
  unfold sAsg
  rw [RetS_bnd]
  apply Iff.of_eq
  congr
  funext w S1
  cases h : bindT tg w σ <;> simp [RetS]
@[simp] theorem RetS_par (is : List Nat) (as : DA) : RetS (sPar is as σ S) N R ↔ Ret (as σ S) fun ws S1 => ∃ σ1, setW σ is ws = some σ1 ∧ N σ1 S1 := by
  unfold sPar
  rw [RetS_bnd]
  apply Iff.of_eq
  congr
  funext w S1
  cases h : setW σ is w <;> simp [RetS]
@[simp] theorem RetS_put (d i v : DE) : RetS (sPut d i v σ S) N R ↔ Ret (v σ S) fun x S1 => Ret (d σ S1) fun z S2 => Ret (i σ S2) fun y S3 => ∃ S4, dputW S3 z y x = some S4 ∧ N σ S4 := by
  unfold sPut
  rw [RetS_bnd]
  apply Iff.of_eq
  congr
  funext x S1
  rw [eq_iff_iff, RetS_bnd]
  apply Iff.of_eq
  congr
  funext z S2
  rw [eq_iff_iff, RetS_bnd]
  apply Iff.of_eq
  congr
  funext y S3
  cases h : dputW S3 z y x <;> simp [RetS]
theorem RetS.mono {o : Option Out} {N' : En → So → Prop} {R' : W → So → Prop} (h : RetS o N R) (k1 : ∀ σ S, N σ S → N' σ S) (k2 : ∀ w S, R w S → R' w S) : RetS o N' R' := by
  unfold RetS at *
  split at h
  · exact k1 _ _ h
  · exact k2 _ _ h
  · exact h.elim
end
/-- a def -/
theorem Ret_fnB {G : Nat → W → So → M W} {np nN : Nat} {body : DS} {ws : List W} {S : So} {P : W → So → Prop} (hl : ws.length = np) (h : RetS (body (startW nN ws) S) (fun _ S' => P (.d .none) (S'.take S.length)) fun w S' => Ret (G S.length w S') P) : Ret (fnB G np nN body ws S) P := by
  unfold fnB
  rw [if_pos hl]
  unfold RetS at h
  split at h
  · rename_i e; rw [e]; exact h
  · rename_i e; rw [e]; exact h
  · exact h.elim
section
variable {σ : En} {S : So}
theorem Ret_dFn (F : DF) (as : DA) (P : W → So → Prop) : Ret (dFn F as σ S) P ↔ Ret (as σ S) fun ws S1 => Ret (F ws S1) P := by unfold dFn; simp
theorem Ret_dCons (a : DE) (r : DA) (P : List W → So → Prop) : Ret (dCons a r σ S) P ↔ Ret (a σ S) fun x S1 => Ret (r σ S1) fun xs S2 => P (x :: xs) S2 := by unfold dCons; simp
theorem Ret_dNil (P : List W → So → Prop) : Ret (dNil σ S) P ↔ P [] S := Iff.rfl
theorem Ret_dBin (g : So → W → W → Option W) (a b : DE) (P : W → So → Prop) : Ret (dBin g a b σ S) P ↔ Ret (a σ S) fun x S1 => Ret (b σ S1) fun y S2 => ∃ w, g S2 x y = some w ∧ P w S2 := by unfold dBin; simp
theorem Ret_dUn (g : So → W → Option W) (a : DE) (P : W → So → Prop) : Ret (dUn g a σ S) P ↔ Ret (a σ S) fun x S1 => ∃ w, g S1 x = some w ∧ P w S1 := by unfold dUn; simp
theorem Ret_dCall (g : So → List W → Option W) (as : DA) (P : W → So → Prop) : Ret (dCall g as σ S) P ↔ Ret (as σ S) fun ws S1 => ∃ w, g S1 ws = some w ∧ P w S1 := by unfold dCall; simp
theorem Ret_dCallN (g : So → List W → Option (List PyData)) (as : DA) (P : List PyData → So → Prop) : Ret (dCallN g as σ S) P ↔ Ret (as σ S) fun ws S1 => ∃ w, g S1 ws = some w ∧ P w S1 := by unfold dCallN; simp
theorem Ret_dC (x : PyData) (P : W → So → Prop) : Ret (dC x σ S) P ↔ P (.d x) S := Iff.rfl
theorem Ret_dG (x : Str) (P : W → So → Prop) : Ret (dG x σ S) P ↔ P (.g x) S := Iff.rfl
theorem Ret_dVar (i : Nat) (P : W → So → Prop) : Ret (dVar i σ S) P ↔ ∃ w, σ[i]? = some (some w) ∧ P w S := by
  unfold dVar
  cases h : σ[i]? with
  | none => simp
  | some o => cases o <;> simp
theorem Ret_dIf (t : DT) (a b : DE) (P : W → So → Prop) : Ret (dIf t a b σ S) P ↔ Ret (t σ S) fun k S1 => if k = true then Ret (a σ S1) P else Ret (b σ S1) P := by
  unfold dIf; simp only [Ret_bnd, Ret_ite]
theorem Ret_dFz (d : DN) (P : W → So → Prop) : Ret (dFz d σ S) P ↔ Ret (d σ S) fun xs S1 => P (.d (.list xs)) S1 := by unfold dFz; simp
theorem Ret_dNew (d : DN) (P : W → So → Prop) : Ret (dNew d σ S) P ↔ Ret (d σ S) fun xs S1 => P (.r S1.length) (S1 ++ [.lst xs]) := by unfold dNew; simp
theorem Ret_dLst (as : DA) (P : List PyData → So → Prop) : Ret (dLst as σ S) P ↔ Ret (as σ S) fun ws S1 => ∃ xs, datz ws = some xs ∧ P xs S1 := by unfold dLst; simp
theorem Ret_dTup (as : DA) (P : W → So → Prop) : Ret (dTup as σ S) P ↔ Ret (as σ S) fun ws S1 => ∃ xs, datz ws = some xs ∧ P (.d (.tuple xs)) S1 := by unfold dTup; simp only [Ret_bnd, Ret_gmap]
theorem Ret_dB (d : DE) (P : Bool → So → Prop) : Ret (dB d σ S) P ↔ Ret (d σ S) fun w S1 => ∃ b, bOf w = some b ∧ P b S1 := by unfold dB; simp
theorem Ret_dAndT (a b : DT) (P : Bool → So → Prop) : Ret (dAndT a b σ S) P ↔ Ret (a σ S) fun k S1 => if k = true then Ret (b σ S1) P else P false S1 := by
  unfold dAndT; simp only [Ret_bnd, Ret_ite, Ret_ok]
theorem Ret_dOrT (a b : DT) (P : Bool → So → Prop) : Ret (dOrT a b σ S) P ↔ Ret (a σ S) fun k S1 => if k = true then P true S1 else Ret (b σ S1) P := by
  unfold dOrT; simp only [Ret_bnd, Ret_ite, Ret_ok]
theorem Ret_dNotT (a : DT) (P : Bool → So → Prop) : Ret (dNotT a σ S) P ↔ Ret (a σ S) fun k S1 => P (!k) S1 := by unfold dNotT; simp
theorem Ret_dAnd (a b : DE) (P : W → So → Prop) : Ret (dAnd a b σ S) P ↔ Ret (a σ S) fun x S1 => ∃ k, bOf x = some k ∧ if k = true then Ret (b σ S1) P else P (.d (.bool false)) S1 := by
  unfold dAnd
  simp only [Ret_bnd]
  apply Iff.of_eq; congr; funext x S1
  match h : bOf x with
  | none => simp
  | some true => simp
  | some false => simp
theorem Ret_dOr (a b : DE) (P : W → So → Prop) : Ret (dOr a b σ S) P ↔ Ret (a σ S) fun x S1 => ∃ k, bOf x = some k ∧ if k = true then P (.d (.bool true)) S1 else Ret (b σ S1) P := by
  unfold dOr
  simp only [Ret_bnd]
  apply Iff.of_eq; congr; funext x S1
  match h : bOf x with
  | none => simp
  | some true => simp
  | some false => simp
theorem Ret_dNot (a : DE) (P : W → So → Prop) : Ret (dNot a σ S) P ↔ Ret (a σ S) fun x S1 => ∃ k, bOf x = some k ∧ P (.d (.bool (!k))) S1 := by
  unfold dNot; simp only [Ret_bnd, Ret_gmap]
theorem Ret_dIsi (T : String) (a : DE) (P : W → So → Prop) : Ret (dIsi T a σ S) P ↔ Ret (a σ S) fun w S1 => ∃ x, rd S1 w = some x ∧ ∃ c, isiP T x = some c ∧ P (.d c) S1 := by
  unfold dIsi; simp only [Ret_bnd, Ret_gbind, Ret_gmap]
theorem Ret_dChain (g g' : So → W → W → Option W) (a b c : DE) (P : W → So → Prop) : Ret (dChain g g' a b c σ S) P ↔ Ret (a σ S) fun x S1 => Ret (b σ S1) fun y S2 => ∃ w, g S2 x y = some w ∧ ∃ k, bOf w = some k ∧
    if k = true then Ret (c σ S2) fun z S3 => ∃ u, g' S3 y z = some u ∧ P u S3 else P (.d (.bool false)) S2 := by
  unfold dChain
  simp only [Ret_bnd]
  apply Iff.of_eq; congr; funext x S1; congr; funext y S2
  cases h : g S2 x y with
  | none => simp
  | some w =>
    match h2 : bOf w with
    | none => simp [h2]
    | some true => simp [h2]
    | some false => simp [h2]
theorem Ret_dGet (d i : DE) (P : W → So → Prop) : Ret (dGet d i σ S) P ↔ Ret (d σ S) fun x S1 => Ret (i σ S1) fun y S2 => ∃ w, dgetW S2 x y = some w ∧ P w S2 := by unfold dGet; simp
theorem Ret_dD0 (o : O) (P : W → So → Prop) : Ret (dD0 o σ S) P ↔ P (.r S.length) (S ++ [o]) := Iff.rfl
theorem Ret_dNoP (P : Option Int → So → Prop) : Ret (dNoP σ S) P ↔ P none S := Iff.rfl
theorem Ret_dPt (d : DE) (P : Option Int → So → Prop) : Ret (dPt d σ S) P ↔ Ret (d σ S) fun w S1 => ∃ i, intW w = some i ∧ P (some i) S1 := by unfold dPt; simp only [Ret_bnd, Ret_gmap]
theorem Ret_dSlA (a : DE) (l h : DO) (P : W → So → Prop) : Ret (dSlA a l h σ S) P ↔ Ret (a σ S) fun w S1 => Ret (l σ S1) fun lo S2 => Ret (h σ S2) fun hi S3 => ∃ x, rd S3 w = some x ∧ ∃ y, cutA lo hi x = some y ∧ P (.d y) S3 := by
  unfold dSlA; simp only [Ret_bnd, Ret_gbind, Ret_gmap]
theorem Ret_dMeth (T : String) (g : GM) (o : DE) (as : DA) (P : W → So → Prop) : Ret (dMeth T g o as σ S) P ↔ Ret (o σ S) fun x S1 => tyM T S1 x = true ∧ Ret (as σ S1) fun ws S2 => ∃ w S3, g S2 x ws = some (w, S3) ∧ P w S3 := by
  unfold dMeth
  simp only [Ret_bnd]
  apply Iff.of_eq; congr; funext x S1
  by_cases h : tyM T S1 x = true
  · simp only [h, if_true, Ret_bnd, true_and]
    congr; funext ws S2
    cases h2 : g S2 x ws with
    | none => simp
    | some q =>
      obtain ⟨w, S3⟩ := q
      exact propext ⟨fun h => ⟨w, S3, rfl, h⟩, fun ⟨w2, S4, e, h⟩ => by cases e; exact h⟩
  · simp [h]
theorem Ret_dAny (d : DE) (P : List PyData × Option Nat → So → Prop) : Ret (dAny d σ S) P ↔ Ret (d σ S) fun w S1 => ∃ q, anyW S1 w = some q ∧ P q S1 := by unfold dAny; simp
theorem Ret_dLenSet (d : DE) (P : W → So → Prop) : Ret (dLenSet d σ S) P ↔ Ret (d σ S) fun w S1 => ∃ u, setLen S1 w = some u ∧ P u S1 := by unfold dLenSet; simp
theorem Ret_dZip (as : DA) (P : List PyData × Option Nat → So → Prop) : Ret (dZip as σ S) P ↔ Ret (as σ S) fun ws S1 => ∃ xs, zipW ws = some xs ∧ P (xs, none) S1 := by
  unfold dZip; simp only [Ret_bnd, Ret_gmap]
theorem Ret_dZipL (as : DA) (P : List PyData × Option Nat → So → Prop) : Ret (dZipL as σ S) P ↔ Ret (as σ S) fun ws S1 => ∃ xs, zipWL ws = some xs ∧ P (xs, none) S1 := by
  unfold dZipL; simp only [Ret_bnd, Ret_gmap]
theorem Ret_dKeys (d : DE) (P : List PyData × Option Nat → So → Prop) : Ret (dKeys d σ S) P ↔ Ret (d σ S) fun w S1 => ∃ xs, lkKeys S1 w = some xs ∧ small xs.length = true ∧ P (xs, none) S1 := by
  unfold dKeys
  simp only [Ret_bnd, Ret_giv, Option.bind_eq_some_iff]
  apply Iff.of_eq; congr; funext w S1
  apply propext
  constructor
  · rintro ⟨q, ⟨xs, h1, h2⟩, h3⟩
    split at h2
    · rename_i hz; cases h2; exact ⟨xs, h1, hz, h3⟩
    · cases h2
  · rintro ⟨xs, h1, hz, h3⟩
    exact ⟨(xs, none), ⟨xs, h1, by rw [if_pos hz]⟩, h3⟩
theorem Ret_dRng1 (as : DA) (P : List PyData × Option Nat → So → Prop) : Ret (dRng1 as σ S) P ↔ Ret (as σ S) fun ws S1 => ∃ n : Int, ws = [.d (.int n)] ∧ (n < 16777216 ∧ -16777216 < n) ∧ P (rng 0 n, none) S1 := by
  unfold dRng1
  simp only [Ret_bnd]
  apply Iff.of_eq; congr; funext ws S1
  apply propext
  split
  · rename_i n
    split
    · rename_i h; simp [h]
    · rename_i h
      simp only [Ret_none, false_iff]
      rintro ⟨m, e, h2, _⟩
      cases e; exact h h2
  · rename_i h
    simp only [Ret_none, false_iff]
    rintro ⟨m, e, _⟩
    exact h m e
theorem Ret_dRng2 (as : DA) (P : List PyData × Option Nat → So → Prop) : Ret (dRng2 as σ S) P ↔ Ret (as σ S) fun ws S1 => ∃ m n : Int, ws = [.d (.int m), .d (.int n)] ∧ (n < 8000000 ∧ -8000000 < n ∧ m < 8000000 ∧ -8000000 < m) ∧ P (rng m n, none) S1 := by
  unfold dRng2
  simp only [Ret_bnd]
  apply Iff.of_eq; congr; funext ws S1
  apply propext
  split
  · rename_i m n
    split
    · rename_i h
      exact ⟨fun q => ⟨m, n, rfl, h, q⟩, fun ⟨a, b, e, _, q⟩ => by cases e; exact q⟩
    · rename_i h
      simp only [Ret_none, false_iff]
      rintro ⟨a, b, e, h2, _⟩
      cases e; exact h h2
  · rename_i h
    simp only [Ret_none, false_iff]
    rintro ⟨a, b, e, _⟩
    exact h a b e
theorem Ret_dLc (vs : List Nat) (it : DI) (tg : Tg) (c : DT) (e : DE) (P : List PyData → So → Prop) : Ret (dLc vs it tg c e σ S) P ↔ Ret (it σ S) fun p S1 => Ret (lcGo p.2 p.1 vs σ tg c e p.1 [] S1) P := by unfold dLc; simp
theorem RetS_for (tg : Tg) (it : DI) (b : DS) (N : En → So → Prop) (R : W → So → Prop) : RetS (sFor tg it b σ S) N R ↔ Ret (it σ S) fun p S1 => RetS (forGo p.2 p.1 tg b p.1 σ S1) N R := by unfold sFor; exact RetS_bnd _ _
theorem Ret_dHeld (i : Nat) (T : Str → Option DF) (as : DA) (P : W → So → Prop) {x : Str} {F : DF} (h1 : σ[i]? = some (some (.g x))) (h2 : T x = some F) : Ret (dHeld i T as σ S) P ↔ Ret (as σ S) fun ws S1 => Ret (F ws S1) P := by
  unfold dHeld; simp [h1, h2]
end
/-! ### loops with a wish that counts -/
theorem lc_inv {vs : List Nat} {σ : En} {tg : Tg} {c : DT} {e : DE} {all : List PyData} (I : Nat → List PyData → So → Prop) : ∀ (xs : List PyData) (k : Nat) (acc : List PyData) (S : So), I k acc S →
    (∀ (j : Nat) (x : PyData) (acc : List PyData) (S : So), xs[j]? = some x → I (k + j) acc S → ∃ σ1, bindT tg (.d x) (wipeW σ vs) = some σ1 ∧ Ret (c σ1 S) fun b S1 => if b = true then Ret (e σ1 S1) fun w S2 => ∃ y, w = .d y ∧ I (k + j + 1) (acc ++ [y]) S2 else I (k + j + 1) acc S1) →
    Ret (lcGo none all vs σ tg c e xs acc S) (I (k + xs.length))
  | [], k, acc, S, h, _ => by unfold lcGo; exact h
  | x :: xs, k, acc, S, h, st => by
    obtain ⟨σ1, h1, h2⟩ := st 0 x acc S rfl h
    unfold lcGo
    rw [if_pos (show keepB none all S = true from rfl), h1]
    dsimp only
    have rest : ∀ acc' S', I (k + 0 + 1) acc' S' → Ret (lcGo none all vs σ tg c e xs acc' S') (I (k + (x :: xs).length)) := fun acc' S' hI => by
      have := lc_inv (all := all) I xs (k + 1) acc' S' hI fun j y acc S hy hI2 => by
        have := st (j + 1) y acc S (by simpa using hy) (by rw [show k + (j + 1) = k + 1 + j by omega]; exact hI2)
        rw [show k + (j + 1) + 1 = k + 1 + j + 1 by omega] at this
        exact this
      rw [List.length_cons, show k + (xs.length + 1) = k + 1 + xs.length by omega]
      exact this
    unfold Ret at h2
    split at h2
    · rename_i b S1 hc
      rw [hc]
      cases b with
      | true =>
        simp only [if_true] at h2
        dsimp only
        split at h2
        · rename_i w S2 he
          obtain ⟨y, rfl, hI⟩ := h2
          rw [he]
          exact rest _ _ hI
        · exact h2.elim
      | false => exact rest _ _ (by simpa using h2)
    · exact h2.elim
/-- .. of a pure condition and element -/
theorem lc_pure {vs : List Nat} {σ : En} {tg : Tg} {c : DT} {e : DE} {all : List PyData} {S : So} (p : PyData → Bool) (f : PyData → PyData) : ∀ (xs acc : List PyData), (∀ x ∈ xs, ∃ σ1, bindT tg (.d x) (wipeW σ vs) = some σ1 ∧ Ret (c σ1 S) (fun b S1 => b = p x ∧ S1 = S) ∧ (p x = true → Ret (e σ1 S) fun w S2 => w = .d (f x) ∧ S2 = S)) →
    lcGo none all vs σ tg c e xs acc S = some (.ok (acc ++ (xs.filter p).map f) S)
  | [], acc, _ => by unfold lcGo; simp [keepB]
  | x :: xs, acc, h => by
    obtain ⟨σ1, h1, h2, h3⟩ := h x List.mem_cons_self
    have ih := fun acc' => lc_pure (σ := σ) (vs := vs) (tg := tg) (c := c) (e := e) (all := all) (S := S) p f xs acc' fun y hy => h y (List.mem_cons_of_mem _ hy)
    unfold lcGo
    rw [if_pos (show keepB none all S = true from rfl), h1]
    dsimp only
    rw [h2.eq]
    cases hp : p x with
    | true =>
      dsimp only
      rw [(h3 hp).eq]
      dsimp only
      rw [ih]
      simp [hp]
    | false =>
      dsimp only
      rw [ih]
      simp [hp]
theorem for_inv {tg : Tg} {b : DS} {all : List PyData} {N : En → So → Prop} {R : W → So → Prop} (I : Nat → En → So → Prop) : ∀ (xs : List PyData) (k : Nat) (σ : En) (S : So), I k σ S → (∀ σ S, I (k + xs.length) σ S → N σ S) →
    (∀ (j : Nat) (x : PyData) (σ : En) (S : So), xs[j]? = some x → I (k + j) σ S → ∃ σ1, bindT tg (.d x) σ = some σ1 ∧ RetS (b σ1 S) (I (k + j + 1)) R) → RetS (forGo none all tg b xs σ S) N R
  | [], k, σ, S, h, hN, _ => by unfold forGo; exact hN σ S h
  | x :: xs, k, σ, S, h, hN, st => by
    obtain ⟨σ1, h1, h2⟩ := st 0 x σ S rfl h
    unfold forGo
    rw [if_pos (show keepB none all S = true from rfl), h1]
    dsimp only
    unfold RetS at h2
    split at h2
    · rename_i σ2 S2 he
      rw [he]
      exact for_inv I xs (k + 1) σ2 S2 h2 (fun σ S q => hN σ S (by rw [List.length_cons, show k + (xs.length + 1) = k + 1 + xs.length by omega]; exact q)) fun j y σ S hy hI2 => by
        have := st (j + 1) y σ S (by simpa using hy) (by rw [show k + (j + 1) = k + 1 + j by omega]; exact hI2)
        rw [show k + (j + 1) + 1 = k + 1 + j + 1 by omega] at this
        exact this
    · rename_i w S2 he
      rw [he]
      exact h2
    · exact h2.elim
end CL
end

section
/-! part CLEnd -/
set_option Elab.async false
set_option linter.all false
set_option maxRecDepth 100000
/-! CLEnd: the law's own call. -/
namespace CL
open PySem PySem.Spec PyProof.Rows L2
theorem ints_rd {K : PySem.W.Frag} {H : Hp} {φ : Fi} : ∀ ns : List Int, RDs K H φ (ns.map PyData.int) (ns.map V.int)
  | [] => rfl
  | n :: ns => ⟨.int n, _, rfl, rfl, ints_rd ns⟩
theorem law_sp {F : DF} {n : Nat} (LT : ∀ ns : List Int, ns.length ≤ n → Ret (F [.s (ns.map PyData.int)] []) fun w _ => w = .d (.bool true)) (K : PySem.W.Frag) (mg : Str → Option Value) (H : Hp) (a : Addr) (ns : List Int) (hl : ns.length ≤ n)
    (h : (∃ o, H = scriptH a o (ns.map V.int)) ∨ (H = (fun _ => none) ∧ KL K a (ns.map V.int))) : spF K mg F [.ref a] H (fun v _ => v = .bl true) fun _ _ _ => False := by
  have := LT ns hl
  unfold Ret at this
  split at this
  · rename_i w S he
    subst this
    refine ⟨⟨[], []⟩, [], [.s (ns.map PyData.int)], .ok (.d (.bool true)) S, ⟨rfl, List.nodup_nil, fun i b o h _ => by simp at h, fun b hb => by cases hb⟩, ⟨.ref a, [], rfl, ⟨a, ns.map V.int, rfl, ?_, ints_rd ns⟩, rfl⟩, he, fun φ' H' v _ _ x => x⟩
    rcases h with ⟨o, h⟩ | ⟨_, h⟩
    · subst h
      exact .inl ⟨.inr ⟨o, if_pos rfl⟩, by simp, by simp⟩
    · exact .inr h
  · exact this.elim
theorem defG_mk {K : PySem.W.Frag} {h : Heap} {mg : Str → Option Value} {x : Str} {st : Stmt} {ps : List Str} {f : Addr} {oc : Value} {od an : Option Addr} {osl : Array (Option Value)} {kV doc pm cdv ct : Value} (X : K.In h) (G : h.Ns mainGlobals mg) (a : PySem.W.nsIn K mainGlobals x = some (some (.ref f)))
    (l : K.lookup f = some ⟨oc, od, .func (PySem.W.fnOf x x (defArgs st) (defBody st) (defScope st) .none kV doc pm an cdv ct), osl⟩) (c : PySem.W.codeIn K cdv x = true) (k : PySem.W.keepIn K (.ref f) = true)
    (hb : ∀ (kV doc pm : Value) (an : Option Addr) (cdv ct : Value) (us : List Value), us.length = ps.length → bindArgs (PySem.W.fnOf x x (defArgs st) (defBody st) (defScope st) .none kV doc pm an cdv ct) ⟨us, []⟩ = pure (ps.zip us)) (hps : (defArgs st).args.map (·.arg) = ps := by rfl) : DefG K mg x st ps := by
  have F := fun_mk (st := st) l c k
  exact ⟨f, _, F, PySem.W.mg_of X G a, F.binds hb, hps⟩
end CL
end

section
/-! part CLGood -/
set_option Elab.async false
set_option linter.all false
set_option maxRecDepth 100000
/-! CLGood: data that is small: no dict, short ints, plain signs, bounded bulk and depth. -/
namespace CL
open PySem PySem.Spec PyProof.Rows L2

def signOk (z : Str) : Bool := z.cps.toList.all fun c => decide (c < 128)
mutual
def okd : PyData → Bool
  | .none => true
  | .bool _ => true
  | .int i => decide (i.natAbs < 10 ^ 70)
  | .str z => signOk z
  | .list xs => okds xs
  | .tuple xs => okds xs
  | .dict _ => false
def okds : List PyData → Bool
  | [] => true
  | x :: xs => okd x && okds xs
end
/-- bulk at most b, depth at most d -/
structure Gd (b d : Nat) (x : PyData) : Prop where
  ok : okd x = true
  bulk : x.bulk ≤ b
  depth : x.depth ≤ d
structure Gds (b d : Nat) (xs : List PyData) : Prop where
  ok : okds xs = true
  bulk : PyData.bulkAll xs ≤ b
  depth : PyData.depthAll xs ≤ d
theorem Gd.mono {b b' d d' : Nat} {x : PyData} (h : Gd b d x) (hb : b ≤ b') (hd : d ≤ d') : Gd b' d' x := ⟨h.ok, Nat.le_trans h.bulk hb, Nat.le_trans h.depth hd⟩
theorem Gds.mono {b b' d d' : Nat} {x : List PyData} (h : Gds b d x) (hb : b ≤ b') (hd : d ≤ d') : Gds b' d' x := ⟨h.ok, Nat.le_trans h.bulk hb, Nat.le_trans h.depth hd⟩
theorem Gd.list {b d : Nat} {xs : List PyData} (h : Gds b d xs) : Gd b (d + 1) (.list xs) := ⟨by simpa [okd] using h.ok, by simpa [PyData.bulk] using h.bulk, by simpa [PyData.depth] using h.depth⟩
theorem Gd.tuple {b d : Nat} {xs : List PyData} (h : Gds b d xs) : Gd b (d + 1) (.tuple xs) := ⟨by simpa [okd] using h.ok, by simpa [PyData.bulk] using h.bulk, by simpa [PyData.depth] using h.depth⟩
theorem Gd.ofTuple {b d : Nat} {xs : List PyData} (h : Gd b d (.tuple xs)) : Gds b (d - 1) xs := ⟨by simpa [okd] using h.ok, by simpa [PyData.bulk] using h.bulk, by have := h.depth; simp only [PyData.depth] at this; omega⟩
theorem Gd.ofList {b d : Nat} {xs : List PyData} (h : Gd b d (.list xs)) : Gds b (d - 1) xs := ⟨by simpa [okd] using h.ok, by simpa [PyData.bulk] using h.bulk, by have := h.depth; simp only [PyData.depth] at this; omega⟩
theorem Gds.nil {b d : Nat} : Gds b d [] := ⟨rfl, Nat.zero_le _, Nat.zero_le _⟩
theorem Gds.cons {b b' d : Nat} {x : PyData} {xs : List PyData} (h : Gd b d x) (t : Gds b' d xs) : Gds (b + 1 + b') d (x :: xs) :=
  ⟨by simp [okds, h.ok, t.ok], by have := h.bulk; have := t.bulk; simp only [PyData.bulkAll]; omega, by simp only [PyData.depthAll]; exact Nat.max_le.mpr ⟨h.depth, t.depth⟩⟩
theorem Gds.head {b d : Nat} {x : PyData} {xs : List PyData} (h : Gds b d (x :: xs)) : Gd b d x := by
  obtain ⟨h1, h2, h3⟩ := h
  simp only [okds, Bool.and_eq_true] at h1
  simp only [PyData.bulkAll] at h2
  simp only [PyData.depthAll] at h3
  exact ⟨h1.1, by omega, Nat.le_trans (Nat.le_max_left _ _) h3⟩
theorem Gds.tail {b d : Nat} {x : PyData} {xs : List PyData} (h : Gds b d (x :: xs)) : Gds b d xs := by
  obtain ⟨h1, h2, h3⟩ := h
  simp only [okds, Bool.and_eq_true] at h1
  simp only [PyData.bulkAll] at h2
  simp only [PyData.depthAll] at h3
  exact ⟨h1.2, by omega, Nat.le_trans (Nat.le_max_right _ _) h3⟩
theorem Gds.mem {b d : Nat} {x : PyData} : ∀ {xs : List PyData}, Gds b d xs → x ∈ xs → Gd b d x
  | _ :: _, h, hm => by
    rcases List.mem_cons.mp hm with e | hm
    · subst e; exact h.head
    · exact h.tail.mem hm
theorem okds_append : ∀ xs ys : List PyData, okds (xs ++ ys) = (okds xs && okds ys)
  | [], ys => by simp [okds]
  | x :: xs, ys => by simp [okds, okds_append xs ys, Bool.and_assoc]
theorem bulk_append : ∀ xs ys : List PyData, PyData.bulkAll (xs ++ ys) = PyData.bulkAll xs + PyData.bulkAll ys
  | [], ys => by simp [PyData.bulkAll]
  | x :: xs, ys => by simp only [List.cons_append, PyData.bulkAll, bulk_append xs ys]; omega
theorem depth_append : ∀ xs ys : List PyData, PyData.depthAll (xs ++ ys) = max (PyData.depthAll xs) (PyData.depthAll ys)
  | [], ys => by simp [PyData.depthAll]
  | x :: xs, ys => by simp only [List.cons_append, PyData.depthAll, depth_append xs ys]; omega
theorem Gds.append {b b' d : Nat} {xs ys : List PyData} (h : Gds b d xs) (t : Gds b' d ys) : Gds (b + b') d (xs ++ ys) :=
  ⟨by rw [okds_append, h.ok, t.ok]; rfl, by have := h.bulk; have := t.bulk; rw [bulk_append]; omega, by rw [depth_append]; exact Nat.max_le.mpr ⟨h.depth, t.depth⟩⟩
theorem Gds.left {b d : Nat} {xs ys : List PyData} (h : Gds b d (xs ++ ys)) : Gds b d xs := by
  obtain ⟨h1, h2, h3⟩ := h
  rw [okds_append, Bool.and_eq_true] at h1
  rw [bulk_append] at h2
  rw [depth_append] at h3
  exact ⟨h1.1, by omega, Nat.le_trans (Nat.le_max_left _ _) h3⟩
theorem Gds.right {b d : Nat} {xs ys : List PyData} (h : Gds b d (xs ++ ys)) : Gds b d ys := by
  obtain ⟨h1, h2, h3⟩ := h
  rw [okds_append, Bool.and_eq_true] at h1
  rw [bulk_append] at h2
  rw [depth_append] at h3
  exact ⟨h1.2, by omega, Nat.le_trans (Nat.le_max_right _ _) h3⟩
theorem Gds.take {b d : Nat} {xs : List PyData} (h : Gds b d xs) (n : Nat) : Gds b d (xs.take n) := by
  rw [← List.take_append_drop n xs] at h; exact h.left
theorem Gds.drop {b d : Nat} {xs : List PyData} (h : Gds b d xs) (n : Nat) : Gds b d (xs.drop n) := by
  rw [← List.take_append_drop n xs] at h; exact h.right
theorem Gds.cut {b d : Nat} {xs : List PyData} (h : Gds b d xs) (lo hi : Option Int) : Gds b d (cutG xs lo hi) := (h.drop _).take _
theorem Gds.reverse {b d : Nat} : ∀ {xs : List PyData}, Gds b d xs → Gds b d xs.reverse := by
  intro xs h
  have key : ∀ xs : List PyData, okds xs.reverse = okds xs ∧ PyData.bulkAll xs.reverse = PyData.bulkAll xs ∧ PyData.depthAll xs.reverse = PyData.depthAll xs := by
    intro xs
    induction xs with
    | nil => exact ⟨rfl, rfl, rfl⟩
    | cons x xs ih =>
      obtain ⟨i1, i2, i3⟩ := ih
      rw [List.reverse_cons]
      refine ⟨?_, ?_, ?_⟩
      · rw [okds_append, i1]; simp [okds, Bool.and_comm]
      · rw [bulk_append, i2]; simp only [PyData.bulkAll]; omega
      · rw [depth_append, i3]; simp only [PyData.depthAll]; omega
  obtain ⟨k1, k2, k3⟩ := key xs
  exact ⟨k1.trans h.ok, by rw [k2]; exact h.bulk, by rw [k3]; exact h.depth⟩
theorem Gds.of_mem {b d : Nat} : ∀ {xs : List PyData}, (∀ x ∈ xs, Gd b d x) → Gds (xs.length * (b + 1)) d xs
  | [], _ => Gds.nil
  | x :: xs, h => by
    have := Gds.cons (h x List.mem_cons_self) (Gds.of_mem fun y hy => h y (List.mem_cons_of_mem _ hy))
    refine this.mono ?_ (Nat.le_refl _)
    rw [List.length_cons, Nat.succ_mul]; omega
theorem Gds.len {b d : Nat} : ∀ {xs : List PyData}, Gds b d xs → xs.length ≤ b
  | [], _ => Nat.zero_le _
  | x :: xs, h => by
    have h2 := h.bulk
    simp only [PyData.bulkAll] at h2
    have : Gds (b - 1) d xs := ⟨h.tail.ok, by omega, h.tail.depth⟩
    have := this.len
    rw [List.length_cons]; omega
/-! ### what follows -/
mutual
theorem pl_of : ∀ x : PyData, okd x = true → plD x = true
  | .none, _ | .bool _, _ | .int _, _ | .str _, _ => rfl
  | .list xs, h => pls_of xs (by simpa [okd] using h)
  | .tuple xs, h => pls_of xs (by simpa [okd] using h)
  | .dict _, h => by simp [okd] at h
theorem pls_of : ∀ xs : List PyData, okds xs = true → plDs xs = true
  | [], _ => rfl
  | x :: xs, h => by
    simp only [okds, Bool.and_eq_true] at h
    simp [plDs, pl_of x h.1, pls_of xs h.2]
end
theorem signs_lt {z : Str} (h : signOk z = true) : ∀ c ∈ z.cps.toList, c < 128 := fun c hc => of_decide_eq_true (List.all_eq_true.mp h c hc)
mutual
theorem lay_of : ∀ x : PyData, okd x = true → x.canLay0 = true
  | .none, _ | .bool _, _ | .int _, _ => by simp [PyData.canLay0]
  | .str z, h => by
    simp only [PyData.canLay0, PyData.strOk]
    rw [← Array.all_toList, List.all_eq_true]
    intro c hc
    have := signs_lt (by simpa [okd] using h) c hc
    exact decide_eq_true (by omega)
  | .list xs, h => by simpa [PyData.canLay0] using lays_of xs (by simpa [okd] using h)
  | .tuple xs, h => by simpa [PyData.canLay0] using lays_of xs (by simpa [okd] using h)
  | .dict _, h => by simp [okd] at h
theorem lays_of : ∀ xs : List PyData, okds xs = true → PyData.canLayAll0 xs = true
  | [], _ => by simp [PyData.canLayAll0]
  | x :: xs, h => by
    simp only [okds, Bool.and_eq_true] at h
    simp [PyData.canLayAll0, lay_of x h.1, lays_of xs h.2]
end
theorem Gd.okD {b d : Nat} {x : PyData} (h : Gd b d x) (hd : d ≤ 64) : okD x = true := by
  unfold CL.okD SeqAt.shaped
  rw [lay_of x h.ok, Bool.true_and]
  exact decide_eq_true (Nat.le_trans h.depth hd)
theorem int_short {i : Int} (h : i.natAbs < 10 ^ 70) : (PyData.shown (.int i)).length ≤ 80 ∧ i.natAbs.log2 < 1920 := by
  constructor
  · simp only [PyData.shown]
    rw [TL.len_tl]
    cases i with
    | ofNat n =>
      show (TL.tl (Str.ofString (toString ((n : Nat) : Int)))).length ≤ 80
      rw [TL.tl_num]
      exact Nat.le_trans (TL.numL_len (k := 70) (by decide) (by simpa using h)) (by decide)
    | negSucc n =>
      have e : toString (Int.negSucc n) = "-" ++ toString ((n + 1 : Nat) : Int) := rfl
      rw [e, TL.tl_ofString, String.toList_append, List.map_append, List.length_append]
      have h2 := TL.numL_len (n := n + 1) (k := 70) (by decide) (by simpa using h)
      rw [← TL.tl_num, TL.tl_ofString] at h2
      have h3 : (List.map Char.toNat "-".toList).length = 1 := rfl
      omega
  · by_cases h0 : i.natAbs = 0
    · rw [h0]; decide
    · exact Nat.lt_of_lt_of_le ((Nat.log2_lt h0).mpr (Nat.lt_of_lt_of_le h (show 10 ^ 70 ≤ 2 ^ 250 by decide))) (by decide)
mutual
theorem leaves_of : ∀ x : PyData, okd x = true → x.leavesShort 80 = true ∧ x.showable = true ∧ x.hasDict = false
  | .none, _ | .bool _, _ => by simp [PyData.leavesShort, PyData.showable, PyData.hasDict]
  | .int i, h => by
    obtain ⟨h1, h2⟩ := int_short (by simpa [okd] using h)
    exact ⟨by simpa only [PyData.leavesShort, decide_eq_true_eq] using h1, by simpa [PyData.showable] using h2, by simp [PyData.hasDict]⟩
  | .str z, h => by
    refine ⟨?_, by simp [PyData.showable], by simp [PyData.hasDict]⟩
    simp only [PyData.leavesShort, List.all_eq_true, decide_eq_true_eq]
    intro c hc
    have := signs_lt (by simpa [okd] using h) c hc
    omega
  | .list xs, h => by
    obtain ⟨h1, h2, h3⟩ := leavesAll_of xs (by simpa [okd] using h)
    exact ⟨by simpa [PyData.leavesShort] using h1, by simpa [PyData.showable] using h2, by simpa [PyData.hasDict] using h3⟩
  | .tuple xs, h => by
    obtain ⟨h1, h2, h3⟩ := leavesAll_of xs (by simpa [okd] using h)
    exact ⟨by simpa [PyData.leavesShort] using h1, by simpa [PyData.showable] using h2, by simpa [PyData.hasDict] using h3⟩
  | .dict _, h => by simp [okd] at h
theorem leavesAll_of : ∀ xs : List PyData, okds xs = true → PyData.leavesShortAll 80 xs = true ∧ PyData.showableAll xs = true ∧ PyData.hasDictAll xs = false
  | [], _ => by simp [PyData.leavesShortAll, PyData.showableAll, PyData.hasDictAll]
  | x :: xs, h => by
    simp only [okds, Bool.and_eq_true] at h
    obtain ⟨a1, a2, a3⟩ := leaves_of x h.1
    obtain ⟨b1, b2, b3⟩ := leavesAll_of xs h.2
    simp [PyData.leavesShortAll, PyData.showableAll, PyData.hasDictAll, a1, a2, a3, b1, b2, b3]
end
theorem Gd.repr {b d : Nat} {x : PyData} (h : Gd b d x) (hb : b ≤ 200000) (hd : d ≤ 60) : reprP x = some (.str x.shown) := by
  obtain ⟨h1, h2, h3⟩ := leaves_of x h.ok
  have h4 := PyData.shown_le_bulk 80 (by decide) x h1
  have h5 := h.bulk
  unfold reprP reprOk
  rw [h2, h3, decide_eq_true (show x.shown.length ≤ 16777216 by omega), decide_eq_true (Nat.le_trans h.depth hd)]
  rfl
end CL
end

section
/-! part CLShown -/
set_option Elab.async false
set_option linter.all false
set_option maxRecDepth 100000
/-! CLShown: what is shown of small data is plain signs. -/
namespace CL
open PySem PySem.Spec PyProof.Rows L2

theorem sign_app {a b : Str} (ha : signOk a = true) (hb : signOk b = true) : signOk (a ++ b) = true := by
  unfold signOk at *
  rw [show (a ++ b).cps.toList = a.cps.toList ++ b.cps.toList from TL.tl_append a b, List.all_append, ha, hb]; rfl
theorem sign_join {s : Str} (hs : signOk s = true) : ∀ {ts : List Str}, (∀ t ∈ ts, signOk t = true) → signOk (Str.join s ts) = true
  | [], _ => rfl
  | [x], h => h x List.mem_cons_self
  | x :: y :: r, h => sign_app (sign_app (h x List.mem_cons_self) hs) (sign_join hs fun t ht => h t (List.mem_cons_of_mem _ ht))
theorem sign_from : ∀ {ts : List Str} {k : Nat} {acc : Str}, signOk acc = true → (∀ t ∈ ts, signOk t = true) → signOk (textFrom k acc ts) = true
  | [], _, _, h, _ => h
  | t :: ts, k, acc, h, ht => by
    unfold textFrom
    refine sign_from (sign_app (sign_app h ?_) (ht t List.mem_cons_self)) fun u hu => ht u (List.mem_cons_of_mem _ hu)
    split <;> decide +kernel
theorem fold_flat (f : Nat → List Nat) : ∀ (l : List Nat) (acc : Array Nat), (l.foldl (fun out c => out ++ (f c).toArray) acc).toList = acc.toList ++ l.flatMap f
  | [], acc => by simp
  | c :: l, acc => by rw [List.foldl_cons, fold_flat f l]; simp
theorem char_low (q : Nat) (hq : q = 34 ∨ q = 39) : ∀ c, c < 128 → ∀ y ∈ Builtin.Str.reprChar q c, y < 128 := by
  have h : [34, 39].all (fun q => (List.range 128).all fun c => (Builtin.Str.reprChar q c).all fun y => decide (y < 128)) = true := by decide +kernel
  intro c hc y hy
  have h1 := List.all_eq_true.mp h q (by rcases hq with rfl | rfl <;> simp)
  have h2 := List.all_eq_true.mp h1 c (List.mem_range.mpr hc)
  exact of_decide_eq_true (List.all_eq_true.mp h2 y hy)
theorem sign_repr {z : Str} (h : signOk z = true) : signOk (reprText z) = true := by
  have hq : reprQuote z = 34 ∨ reprQuote z = 39 := by unfold reprQuote; split <;> simp
  have hl : reprQuote z < 128 := by omega
  refine List.all_eq_true.mpr fun c hc => decide_eq_true ?_
  unfold reprText at hc
  simp only [Array.toList_push, ← Array.foldl_toList] at hc
  rw [fold_flat] at hc
  simp only [List.mem_append, List.mem_singleton, List.mem_flatMap] at hc
  rcases hc with (hc | ⟨u, hu, hc⟩) | hc
  · have : c = reprQuote z := by simpa using hc
    omega
  · exact char_low _ hq u (signs_lt h u hu) c hc
  · omega
theorem dig_low (n : Nat) : ∀ c ∈ TL.numL n, c < 128 := fun c hc => by
  have := TL.numL_digits n c hc
  omega
theorem sign_num (i : Int) : signOk (Str.ofString (toString i)) = true := by
  unfold signOk
  rw [List.all_eq_true]
  intro c hc
  refine decide_eq_true ?_
  cases i with
  | ofNat n => exact dig_low n c (by rw [← TL.tl_num]; exact hc)
  | negSucc n =>
    have e : toString (Int.negSucc n) = "-" ++ toString ((n + 1 : Nat) : Int) := rfl
    have hc : c ∈ TL.tl (Str.ofString (toString (Int.negSucc n))) := hc
    rw [e, TL.tl_ofString, String.toList_append, List.map_append, ← TL.tl_ofString, ← TL.tl_ofString, TL.tl_num] at hc
    rcases List.mem_append.mp hc with hc | hc
    · have : ∀ c ∈ TL.tl (Str.ofString "-"), c < 128 := by decide +kernel
      exact this c hc
    · exact dig_low _ c hc
mutual
theorem sign_shown : ∀ x : PyData, okd x = true → signOk x.shown = true
  | .none, _ => by simp only [PyData.shown]; decide +kernel
  | .bool b, _ => by cases b <;> (simp only [PyData.shown]; decide +kernel)
  | .int i, _ => by simp only [PyData.shown]; exact sign_num i
  | .str z, h => by simp only [PyData.shown]; exact sign_repr (by simpa [okd] using h)
  | .list xs, h => by
    simp only [PyData.shown]
    unfold listText
    exact sign_app (sign_from (by decide +kernel) (signs_shown xs (by simpa [okd] using h))) (by decide +kernel)
  | .tuple xs, h => by
    simp only [PyData.shown]
    unfold tupleText
    refine sign_app (sign_app (by decide +kernel) (sign_join (by decide +kernel) (signs_shown xs (by simpa [okd] using h)))) ?_
    split <;> decide +kernel
  | .dict _, h => by simp [okd] at h
theorem signs_shown : ∀ xs : List PyData, okds xs = true → ∀ t ∈ PyData.shownAll xs, signOk t = true
  | [], _, t, ht => by simp [PyData.shownAll] at ht
  | x :: xs, h, t, ht => by
    simp only [okds, Bool.and_eq_true] at h
    simp only [PyData.shownAll] at ht
    rcases List.mem_cons.mp ht with e | ht
    · subst e; exact sign_shown x h.1
    · exact signs_shown xs h.2 t ht
end
/-- a text differs not from itself -/
theorem ne_self {z : Str} (h : signOk z = true) : neP (.str z) (.str z) = some (.bool false) := by
  have ok : okD (.str z) = true := by
    have : okd (.str z) = true := by simpa [okd] using h
    have g : Gd z.length 0 (.str z) := ⟨this, by simp [PyData.bulk, Str.length], by simp [PyData.depth]⟩
    exact g.okD (by decide)
  unfold neP
  rw [ok]
  simp [PyData.eqv]
end CL
end

section
/-! part CLHelp -/
set_option Elab.async false
set_option linter.all false
set_option maxRecDepth 100000
set_option maxHeartbeats 1000000
/-! CLHelp: helpers that the laws share. -/
namespace CL
open PySem PySem.Spec PyProof.Rows L2
section
variable {σ : En} {S : So}
theorem Ret_dDc (vs : List Nat) (it : DI) (tg : Tg) (c : DT) (key val : DE) (P : W → So → Prop) : Ret (dDc vs it tg c key val σ S) P ↔ Ret (it σ S) fun p S1 => Ret (dcGo p.2 p.1 S1.length vs σ tg c key val p.1 (S1 ++ [.dk []])) P := by unfold dDc; simp
theorem Ret_dItems (d : DE) (P : List PyData × Option Nat → So → Prop) : Ret (dItems d σ S) P ↔ Ret (d σ S) fun w S1 => ∃ xs, lkItems S1 w = some xs ∧ small xs.length = true ∧ P (xs, none) S1 := by
  unfold dItems
  simp only [Ret_bnd, Ret_giv, Option.bind_eq_some_iff]
  apply Iff.of_eq; congr; funext w S1
  apply propext
  constructor
  · rintro ⟨q, ⟨xs, h1, h2⟩, h3⟩
    split at h2
    · rename_i hz; cases h2; exact ⟨xs, h1, hz, h3⟩
    · cases h2
  · rintro ⟨xs, h1, hz, h3⟩
    exact ⟨(xs, none), ⟨xs, h1, by rw [if_pos hz]⟩, h3⟩
theorem Ret_dSortSet (d : DE) (P : List PyData → So → Prop) : Ret (dSortSet d σ S) P ↔ Ret (d σ S) fun w S1 => ∃ xs, lstW S1 w = some xs ∧ ∃ ys, sortSet xs = some ys ∧ P ys S1 := by
  unfold dSortSet
  simp only [Ret_bnd, Ret_giv, Option.bind_eq_some_iff]
  apply Iff.of_eq; congr; funext w S1
  apply propext
  exact ⟨fun ⟨y, ⟨x, a, b⟩, c⟩ => ⟨x, a, y, b, c⟩, fun ⟨x, a, y, b, c⟩ => ⟨y, ⟨x, a, b⟩, c⟩⟩
theorem Ret_dFnK (F : DF) (π : List Nat) (as : DA) (P : W → So → Prop) : Ret (dFnK F π as σ S) P ↔ Ret (as σ S) fun ws S1 => ws.length = π.length ∧ Ret (F (pick π ws) S1) P := by
  unfold dFnK
  simp only [Ret_bnd]
  apply Iff.of_eq; congr; funext ws S1
  by_cases h : ws.length = π.length <;> simp [h]
theorem Ret_dLockE (i : Nat) (d : DE) (P : W → So → Prop) : Ret (dLockE i d σ S) P ↔ ∃ n ob S1, lockS σ i S = some (n, ob, S1) ∧ Ret (d σ S1) fun w S2 => P w (S2.set n ob) := by
  unfold dLockE
  constructor
  · intro h
    split at h
    · rename_i n ob S1 e
      refine ⟨n, ob, S1, e, ?_⟩
      split at h
      · rename_i e2; rw [e2]; exact h
      · exact h.elim
    · exact h.elim
  · rintro ⟨n, ob, S1, e, h⟩
    rw [e]
    unfold Ret at h
    split at h
    · rename_i e2; simp only [e2]; exact h
    · exact h.elim
end
theorem dc_inv {vs : List Nat} {σ : En} {tg : Tg} {key val : DE} {all : List PyData} {c : DT} {m : Nat} (I : Nat → List (Key × PyData) → So → Prop) (hat : ∀ j kvs S, I j kvs S → S[m]? = some (.dk kvs)) : ∀ (xs : List PyData) (k : Nat) (kvs : List (Key × PyData)) (S : So), I k kvs S →
    (∀ (j : Nat) (x : PyData) (kvs : List (Key × PyData)) (S : So), xs[j]? = some x → I (k + j) kvs S → ∃ σ1, bindT tg (.d x) (wipeW σ vs) = some σ1 ∧ Ret (c σ1 S) fun b S1 => if b = true then Ret (key σ1 S1) fun w S2 => ∃ y, w = .d y ∧ Ret (val σ1 S2) fun u S3 => ∃ z ky, u = .d z ∧ keyP y = some ky ∧ S3[m]? = some (.dk kvs) ∧ small (kvs.length + 1) = true ∧ I (k + j + 1) (putD kvs ky z) (S3.set m (.dk (putD kvs ky z))) else I (k + j + 1) kvs S1) →
    Ret (dcGo none all m vs σ tg c key val xs S) fun w T => w = .r m ∧ ∃ kvs, I (k + xs.length) kvs T
  | [], k, kvs, S, h, _ => by unfold dcGo; exact ⟨rfl, kvs, h⟩
  | x :: xs, k, kvs, S, h, st => by
    obtain ⟨σ1, h1, h2⟩ := st 0 x kvs S rfl h
    unfold dcGo
    rw [if_pos (show keepB none all S = true from rfl), h1]
    dsimp only
    have rest : ∀ kvs' S', I (k + 0 + 1) kvs' S' → Ret (dcGo none all m vs σ tg c key val xs S') fun w T => w = .r m ∧ ∃ kvs, I (k + (x :: xs).length) kvs T := fun acc' S' hI => by
      have := dc_inv (all := all) I hat xs (k + 1) acc' S' hI fun j y acc S hy hI2 => by
        have := st (j + 1) y acc S (by simpa using hy) (by rw [show k + (j + 1) = k + 1 + j by omega]; exact hI2)
        rw [show k + (j + 1) + 1 = k + 1 + j + 1 by omega] at this
        exact this
      rw [List.length_cons, show k + (xs.length + 1) = k + 1 + xs.length by omega]
      exact this
    unfold Ret at h2
    split at h2
    · rename_i b S1 hc
      rw [hc]
      cases b with
      | true =>
        simp only [if_true] at h2
        dsimp only
        split at h2
        · rename_i w S2 he
          obtain ⟨y, rfl, hI⟩ := h2
          rw [he]
          dsimp only
          split at hI
          · rename_i u S3 hv
            obtain ⟨z, ky, rfl, g1, g2, g3, g4⟩ := hI
            rw [hv]
            dsimp only
            rw [g2, g1]
            dsimp only
            rw [if_pos g3]
            exact rest _ _ g4
          · exact hI.elim
        · exact h2.elim
      | false => exact rest _ _ (by simpa using h2)
    · exact h2.elim
theorem Ret_gcd (k : Nat) (x : PyData) (S : So) (P : W → So → Prop) : Ret (gc k (.d x) S) P ↔ P (.d x) (S.take k) := Iff.rfl
theorem small_str {z : Str} {b d : Nat} (h : Gd b d (.str z)) (hb : b ≤ 16777216) : small z.length = true := by
  have h1 := h.bulk
  simp only [PyData.bulk] at h1
  exact decide_eq_true (by show z.cps.size ≤ _; omega)
theorem small_of {n m : Nat} (h : n ≤ m) (hm : m ≤ 16777216 := by decide) : small n = true := decide_eq_true (Nat.le_trans h hm)
theorem bools_map (f : PyData → Bool) : ∀ xs : List PyData, bools (xs.map fun x => .bool (f x)) = some (xs.map f)
  | [] => rfl
  | x :: xs => by simp [bools, bools_map f xs]
theorem sign_of {z : Str} (h : signOk z = true) : ∀ x ∈ CL.signs z, ∃ c, c < 128 ∧ x = .str ⟨#[c]⟩ := fun x hx => by
  unfold CL.signs at hx
  obtain ⟨c, hc, rfl⟩ := List.mem_map.mp hx
  exact ⟨c, signs_lt h c hc, rfl⟩
theorem allB_map (f : PyData → Bool) (xs : List PyData) : (xs.map f).all id = xs.all f := by rw [List.all_map]; rfl
theorem lc_all {vs : List Nat} {σ : En} {i : Nat} {e : DE} {all xs : List PyData} {S : So} (f : PyData → Bool) (h : ∀ x ∈ xs, Ret (e ((wipeW σ vs).set i (some (.d x))) S) fun w T => w = .d (.bool (f x)) ∧ T = S) {P : List PyData → So → Prop} (q : P (xs.map fun x => .bool (f x)) S) :
    Ret (lcGo none all vs σ (.nm i) dYes e xs [] S) P := by
  refine Ret.of (lc_pure (fun _ => true) (fun x => .bool (f x)) _ _ fun x hx => ⟨_, rfl, ⟨rfl, rfl⟩, fun _ => h x hx⟩) ?_
  rw [List.filter_eq_self.mpr fun _ _ => rfl]
  simpa using q
def Cmp (x y : PyData) : Prop := PySem.W.alike x y = true ∧ x ≠ .none ∧ x.depth ≤ 60
theorem ltP_of {x y : PyData} (h : Cmp x y) : ltP x y = some (.bool (ltD x y)) := by
  obtain ⟨h1, h2, h3⟩ := h
  unfold ltP
  rw [if_pos ⟨h1, by cases x <;> simp [eqD] at *, decide_eq_true h3⟩]
theorem cut_one (xs : List PyData) : cutG xs (some 1) none = xs.drop 1 := by
  unfold cutG
  have e : HT.sIx xs.length 0 (some 1) = min 1 xs.length := HT.sIx_nat xs.length 0 1
  rw [e, HT.sIx_none]
  cases xs with
  | nil => rfl
  | cons x r =>
    have e2 : min 1 (x :: r).length = 1 := by simp
    rw [e2]
    simp
theorem cmp_int (a b : Int) : Cmp (.int a) (.int b) := ⟨by simp [PySem.W.alike], by simp, by simp [PyData.depth]⟩
theorem okD_list {xs : List PyData} {b d : Nat} (h : ∀ x ∈ xs, Gd b d x) (hd : d ≤ 60) : okD (.list xs) = true := (Gd.list (Gds.of_mem h)).okD (by omega)
theorem okD_nil : okD (.list []) = true := by decide +kernel
theorem eqv_nil (xs : List PyData) : PyData.eqv (.list xs) (.list []) = xs.isEmpty := by cases xs <;> simp [PyData.eqv, PyData.eqvAll]
theorem eq_nil {xs : List PyData} {b d : Nat} (h : ∀ x ∈ xs, Gd b d x) (hd : d ≤ 60) : eqP (.list xs) (.list []) = some (.bool xs.isEmpty) := by
  unfold eqP
  rw [okD_list h hd, okD_nil, eqv_nil]
  rfl
theorem empty_filter (p : PyData → Bool) (xs : List PyData) : (xs.filter fun x => !p x).isEmpty = xs.all p := by
  induction xs with
  | nil => rfl
  | cons x xs ih => cases h : p x <;> simp [h, ih]
theorem sign_gd {c : Nat} (h : c < 128) : Gd 1 0 (.str ⟨#[c]⟩) := ⟨by simp [okd, signOk, h], by simp [PyData.bulk], by simp [PyData.depth]⟩
theorem at_nat {xs : List PyData} {k : Int} (h0 : 0 ≤ k) (h1 : k < xs.length) : L2.atI xs k = some (xs.getD k.toNat .none) := by
  obtain ⟨j, rfl⟩ : ∃ j : Nat, k = (j : Int) := ⟨k.toNat, by omega⟩
  have hlt : j < xs.length := by omega
  refine (L2.atI_nat (v := xs[j]) (List.getElem?_eq_getElem hlt)).trans ?_
  simp [hlt]
theorem rng_mem {a b : Int} {x : PyData} (h : x ∈ rng a b) : ∃ k, x = .int k ∧ a ≤ k ∧ k < b := by
  unfold rng at h
  obtain ⟨i, hi, rfl⟩ := List.mem_map.mp h
  have := List.mem_range.mp hi
  exact ⟨_, rfl, by omega, by omega⟩
theorem okD_ints (ns : List Int) : okD (.list (ns.map PyData.int)) = true := by
  unfold CL.okD SeqAt.shaped
  have h1 : PyData.canLayAll0 (ns.map PyData.int) = true := by
    induction ns with
    | nil => rfl
    | cons n ns ih => simp [PyData.canLayAll0, PyData.canLay0, ih]
  have h2 : PyData.depthAll (ns.map PyData.int) = 0 := by
    induction ns with
    | nil => rfl
    | cons n ns ih => 
      have : PyData.canLayAll0 (ns.map PyData.int) = true := by simpa [PyData.canLayAll0, PyData.canLay0] using h1
      simp [PyData.depthAll, PyData.depth, ih this]
  simp [PyData.canLay0, PyData.depth, h1, h2]
theorem ne_nil_ints (ns : List Int) : neP (.list (ns.map PyData.int)) (.list []) = some (.bool (!ns.isEmpty)) := by
  unfold neP
  rw [okD_ints, okD_nil, eqv_nil]
  simp
theorem o2i {S : So} {f : Int → Int → Option PyData} {a b : Int} {c : PyData} (h : f a b = some c) : on2 (i2 f) S (.d (.int a)) (.d (.int b)) = some (.d c) := by simp [h]
theorem o2 {S : So} {f : PyData → PyData → Option PyData} {a b c : PyData} (h : f a b = some c) : on2 f S (.d a) (.d b) = some (.d c) := by simp [h]
theorem c1o {S : So} {f : PyData → Option PyData} {a c : PyData} (h : f a = some c) : c1 f S [.d a] = some (.d c) := by simp [h]
theorem take_set {S : So} {k : Nat} (o o' : O) : (S.set k o).take (S.set k o').length = S.set k o := by
  rw [List.length_set]
  exact List.take_of_length_le (by simp)
theorem mod_of {a b : Int} (h : 0 < b) : modI a b = some (.int (a % b)) := by unfold modI; rw [if_pos h]
theorem div_of {a b : Int} (h : 0 < b) (h1 : b < 1073741824) : divI a b = some (.int (a / b)) := by unfold divI; rw [if_pos ⟨h, h1⟩]
theorem mul_of {a b : Int} (h : (-18446744073709551616 < a ∧ a < 18446744073709551616) ∨ (-18446744073709551616 < b ∧ b < 18446744073709551616)) : mulI a b = some (.int (a * b)) := by unfold mulI; rw [if_pos h]
theorem om {o : Option PyData} {c : PyData} (h : o = some c) : o.map W.d = some (.d c) := by rw [h]; rfl
theorem eq_int (a b : Int) : eqP (.int a) (.int b) = some (.bool (decide (a = b))) := by
  simp [eqP, okD, SeqAt.shaped, PyData.canLay0, PyData.depth, PyData.eqv]
  by_cases h : a = b <;> simp [h]
theorem lenT (xs : List PyData) : lenP (.tuple xs) = some (.int xs.length) := rfl
theorem lenL (xs : List PyData) : lenP (.list xs) = some (.int xs.length) := rfl
def Sh (y : PyData) : Prop := ∃ z, y = .str z ∧ z.length ≤ 8 ∧ signOk z = true
def Row (n : Nat) (r : PyData) : Prop := ∃ ws, r = .tuple ws ∧ ws.length = n ∧ ∀ y ∈ ws, Sh y
def KSh (q : Key) : Prop := ∃ z, q = .inr z ∧ z.length ≤ 8 ∧ signOk z = true
def KRow (n : Nat) (q : List Key) : Prop := q.length = n ∧ ∀ x ∈ q, KSh x
theorem ksh_d {q : Key} (h : KSh q) : Sh (keyD q) := by obtain ⟨z, rfl, h1, h2⟩ := h; exact ⟨z, rfl, h1, h2⟩
theorem krow_d {n : Nat} {q : List Key} (h : KRow n q) : Row n (tupOf q) := ⟨q.map keyD, rfl, by simp [h.1], fun y hy => by
  obtain ⟨x, hx, rfl⟩ := List.mem_map.mp hy
  exact ksh_d (h.2 x hx)⟩
theorem sh_keys : ∀ {ws : List PyData}, (∀ y ∈ ws, Sh y) → ∃ q, keysP ws = some q ∧ KRow ws.length q
  | [], _ => ⟨[], rfl, rfl, by simp⟩
  | y :: ws, h => by
    obtain ⟨z, rfl, h1, h2⟩ := h y List.mem_cons_self
    obtain ⟨q, g1, g2, g3⟩ := sh_keys fun x hx => h x (List.mem_cons_of_mem _ hx)
    refine ⟨.inr z :: q, by simp [keysP, keyP, g1], by simp [g2], fun x hx => ?_⟩
    rcases List.mem_cons.mp hx with e | hx
    · subst e; exact ⟨z, rfl, h1, h2⟩
    · exact g3 x hx
theorem row_like {n m : Nat} {x y : PyData} (hx : Row n x) (hy : Row m y) : PySem.W.alike x y = true := by
  obtain ⟨xs, rfl, _, h1⟩ := hx
  obtain ⟨ys, rfl, _, h2⟩ := hy
  have : ∀ (xs ys : List PyData), (∀ y ∈ xs, Sh y) → (∀ y ∈ ys, Sh y) → PySem.W.alikeAll xs ys = true := by
    intro xs
    induction xs with
    | nil => intro ys _ _; cases ys <;> simp [PySem.W.alikeAll]
    | cons x xs ih =>
      intro ys h1 h2
      cases ys with
      | nil => simp [PySem.W.alikeAll]
      | cons y ys =>
        obtain ⟨z, rfl, _⟩ := h1 x List.mem_cons_self
        obtain ⟨z', rfl, _⟩ := h2 y List.mem_cons_self
        simp [PySem.W.alikeAll, PySem.W.alike, ih ys (fun q hq => h1 q (List.mem_cons_of_mem _ hq)) fun q hq => h2 q (List.mem_cons_of_mem _ hq)]
  simpa [PySem.W.alike] using this xs ys h1 h2
theorem sh_gd {y : PyData} (h : Sh y) : Gd 8 0 y := by
  obtain ⟨z, rfl, h1, h2⟩ := h
  exact ⟨by simpa [okd] using h2, by simpa [PyData.bulk, Str.length] using h1, by simp [PyData.depth]⟩
theorem row_gd {n : Nat} {y : PyData} (h : Row n y) : Gd (n * 9) 1 y := by
  obtain ⟨ws, rfl, h1, h2⟩ := h
  have := Gds.of_mem fun x hx => sh_gd (h2 x hx)
  rw [h1] at this
  exact Gd.tuple this
theorem depthAll_le {d : Nat} : ∀ {xs : List PyData}, (∀ x ∈ xs, x.depth ≤ d) → PyData.depthAll xs ≤ d
  | [], _ => Nat.zero_le _
  | x :: xs, h => by simp only [PyData.depthAll]; exact Nat.max_le.mpr ⟨h x List.mem_cons_self, depthAll_le fun y hy => h y (List.mem_cons_of_mem _ hy)⟩
def KOk (n : Nat) (kvs : List (List Key × PyData)) : Prop := ∀ q ∈ kvs, KRow n q.1
theorem keysOf_row {n : Nat} {kvs : List (List Key × PyData)} (h : KOk n kvs) : ∀ x ∈ keysOf kvs, Row n x := fun x hx => by
  obtain ⟨q, hq, rfl⟩ := List.mem_map.mp hx
  exact krow_d (h q hq)
theorem rows_sort {n : Nat} (hn : 0 < n) {xs : List PyData} (h : ∀ x ∈ xs, Row n x) (hl : xs.length ≤ 1000) : sortOk xs = true := by
  have h1 : likeAll xs = true := List.all_eq_true.mpr fun x hx => List.all_eq_true.mpr fun y hy => row_like (h x hx) (h y hy)
  have h2 : xs.all fullTup = true := List.all_eq_true.mpr fun x hx => by
    obtain ⟨ws, rfl, e, _⟩ := h x hx
    cases ws with
    | nil => simp at e; omega
    | cons _ _ => rfl
  have h3 : (xs.all fun x => decide (x.depth ≤ 60)) = true := List.all_eq_true.mpr fun x hx => decide_eq_true (Nat.le_trans (row_gd (h x hx)).depth (by decide))
  unfold sortOk
  rw [h1, h2, h3, small_of hl]
  rfl
theorem srt_mem {xs : List PyData} {x : PyData} (h : x ∈ srtD xs) : x ∈ xs := List.mem_mergeSort.mp h
theorem srt_len (xs : List PyData) : (srtD xs).length = xs.length := by unfold srtD; exact List.length_mergeSort _
theorem putD_ok {n : Nat} {kvs : List (List Key × PyData)} {q : List Key} {v : PyData} (h : KOk n kvs) (hq : KRow n q) : KOk n (putD kvs q v) := by
  unfold putD
  split
  · intro p hp
    obtain ⟨r, hr, rfl⟩ := List.mem_map.mp hp
    split
    · exact h r hr
    · exact h r hr
  · intro p hp
    rcases List.mem_append.mp hp with hp | hp
    · exact h p hp
    · rw [List.mem_singleton] at hp; subst hp; exact hq
theorem putD_len {κ : Type} [DecidableEq κ] (kvs : List (κ × PyData)) (q : κ) (v : PyData) : (putD kvs q v).length ≤ kvs.length + 1 ∧ 0 < (putD kvs q v).length := by
  unfold putD
  split
  · rename_i h
    rw [List.length_map]
    refine ⟨by omega, ?_⟩
    cases kvs with
    | nil => simp at h
    | cons _ _ => simp
  · simp
theorem mergeTD_ok {n : Nat} : ∀ {ps : List (List Key × PyData)} {kvs : List (List Key × PyData)}, KOk n kvs → KOk n ps → KOk n (mergeTD kvs ps) ∧ (mergeTD kvs ps).length ≤ kvs.length + ps.length
  | [], kvs, h, _ => ⟨h, Nat.le_refl _⟩
  | q :: ps, kvs, h, hp => by
    obtain ⟨h1, h2⟩ := mergeTD_ok (ps := ps) (kvs := putD kvs q.1 q.2) (putD_ok h (hp q List.mem_cons_self)) fun x hx => hp x (List.mem_cons_of_mem _ hx)
    have := (putD_len kvs q.1 q.2).1
    exact ⟨h1, by show (mergeTD (putD kvs q.1 q.2) ps).length ≤ _; rw [List.length_cons]; omega⟩
theorem prs_pairs : ∀ {zs : List PyData}, (∀ z ∈ zs, Row 2 z) → ∃ ps, prsP (zs.map fun z => .tuple [z, .bool true]) = some ps ∧ KOk 2 ps ∧ ps.length = zs.length
  | [], _ => ⟨[], rfl, (fun q hq => nomatch hq), rfl⟩
  | z :: zs, h => by
    obtain ⟨ws, rfl, e, hw⟩ := h z List.mem_cons_self
    obtain ⟨q, g1, g2⟩ := sh_keys hw
    obtain ⟨ps, g3, g4, g5⟩ := prs_pairs fun x hx => h x (List.mem_cons_of_mem _ hx)
    refine ⟨(q, .bool true) :: ps, by simp [prsP, prP, g1, g3], fun x hx => ?_, by simp [g5]⟩
    rcases List.mem_cons.mp hx with e2 | hx
    · subst e2; rw [e] at g2; exact g2
    · exact g4 x hx
theorem last_at {T0 : So} {o : O} : (T0 ++ [o])[T0.length]? = some o := by simp
theorem last_set {T0 : So} {o o' : O} : (T0 ++ [o]).set T0.length o' = T0 ++ [o'] := by simp
theorem at0 {a b : PyData} : atP (.tuple [a, b]) (.int 0) = some a := by simp [atP, L2.atI, L2.ixN]
theorem at1 {a b : PyData} : atP (.tuple [a, b]) (.int 1) = some b := by simp [atP, L2.atI, L2.ixN]
def Tab (n : Nat) (g : PyData) : Prop := ∃ hs rs, g = .tuple [.tuple hs, .tuple rs] ∧ hs.length = n ∧ (∀ x ∈ hs, Sh x) ∧ rs ≠ [] ∧ rs.length ≤ 20 ∧ ∀ r ∈ rs, Row n r
theorem zip_rows {hs ws : List PyData} (h : ∀ x ∈ hs, Sh x) (hw : ∀ x ∈ ws, Sh x) : ∀ z ∈ zipD hs ws, Row 2 z := fun z hz => by
  unfold zipD at hz
  obtain ⟨⟨a, b⟩, hp, rfl⟩ := List.mem_map.mp hz
  obtain ⟨h1, h2⟩ := List.of_mem_zip hp
  refine ⟨[a, b], rfl, rfl, fun y hy => ?_⟩
  rcases List.mem_cons.mp hy with e | hy
  · subst e; exact h _ h1
  · rw [List.mem_singleton] at hy; subst hy; exact hw _ h2
def gdB (b d : Nat) (x : PyData) : Bool := okd x && decide (x.bulk ≤ b) && decide (x.depth ≤ d)
theorem gdB_of {b d : Nat} {x : PyData} (h : gdB b d x = true) : Gd b d x := by
  unfold gdB at h
  simp only [Bool.and_eq_true, decide_eq_true_eq] at h
  exact ⟨h.1.1, h.1.2, h.2⟩

def shB : PyData → Bool
  | .str z => decide (z.length ≤ 8) && signOk z
  | _ => false
theorem sh_of {y : PyData} (h : shB y = true) : Sh y := by
  unfold shB at h
  split at h
  · simp only [Bool.and_eq_true, decide_eq_true_eq] at h
    exact ⟨_, rfl, h.1, h.2⟩
  · cases h
theorem sh_like {x y : PyData} (hx : Sh x) (hy : Sh y) : PySem.W.alike x y = true := by
  obtain ⟨z, rfl, _⟩ := hx
  obtain ⟨z', rfl, _⟩ := hy
  simp [PySem.W.alike]
theorem shs_sort {xs : List PyData} (h : ∀ x ∈ xs, Sh x) (hl : xs.length ≤ 1000) : sortOk xs = true := by
  have h1 : likeAll xs = true := List.all_eq_true.mpr fun x hx => List.all_eq_true.mpr fun y hy => sh_like (h x hx) (h y hy)
  have h2 : xs.all flatD = true := List.all_eq_true.mpr fun x hx => by
    obtain ⟨ws, rfl, e, _⟩ := h x hx
    rfl
  have h3 : (xs.all fun x => decide (x.depth ≤ 60)) = true := List.all_eq_true.mpr fun x hx => decide_eq_true (Nat.le_trans (sh_gd (h x hx)).depth (by decide))
  unfold sortOk
  rw [h1, h2, h3, small_of hl]
  simp
theorem rng0_len (n : Int) : (rng 0 n).length = n.toNat := by simp [rng]
theorem rng_at {n : Int} {j : Nat} {x : PyData} (h : (rng 0 n)[j]? = some x) : x = .int j ∧ (j : Int) < n := by
  have h1 := (List.getElem?_eq_some_iff.mp h)
  obtain ⟨h2, h3⟩ := h1
  rw [rng_len] at h2
  refine ⟨?_, by omega⟩
  subst h3
  simp [rng]
theorem minD_mem (x : PyData) (xs : List PyData) : PySem.W.minD x xs ∈ x :: xs := by
  unfold PySem.W.minD
  induction xs generalizing x with
  | nil => simp
  | cons y ys ih =>
    rw [List.foldl_cons]
    have := ih (if PySem.W.dataLt y x then y else x)
    rcases List.mem_cons.mp this with e | h
    · rw [e]
      split
      · exact List.mem_cons_of_mem _ List.mem_cons_self
      · exact List.mem_cons_self
    · exact List.mem_cons_of_mem _ (List.mem_cons_of_mem _ h)
theorem Ret_dLockN (i : Nat) (d : DN) {σ : En} {S : So} (P : List PyData → So → Prop) : Ret (dLockN i d σ S) P ↔ ∃ n ob S1, lockS σ i S = some (n, ob, S1) ∧ Ret (d σ S1) fun xs S2 => P xs (S2.set n ob) := by
  unfold dLockN
  constructor
  · intro h
    split at h
    · rename_i n ob S1 e
      refine ⟨n, ob, S1, e, ?_⟩
      split at h
      · rename_i e2; rw [e2]; exact h
      · exact h.elim
    · exact h.elim
  · rintro ⟨n, ob, S1, e, h⟩
    rw [e]
    unfold Ret at h
    split at h
    · rename_i e2; simp only [e2]; exact h
    · exact h.elim
def tupL : PyData → List PyData
  | .tuple xs => xs
  | _ => []
theorem set_same {α : Type} {l : List α} {n : Nat} {a : α} (h : l[n]? = some a) : l.set n a = l := by
  obtain ⟨h1, rfl⟩ := List.getElem?_eq_some_iff.mp h
  exact List.set_getElem_self h1
theorem txts_sh : ∀ {ds : List PyData}, (∀ y ∈ ds, Sh y) → ∃ xs, txts ds = some xs ∧ xs.length = ds.length
  | [], _ => ⟨[], rfl, rfl⟩
  | y :: ds, h => by
    obtain ⟨z, rfl, _⟩ := h y List.mem_cons_self
    obtain ⟨xs, h1, h2⟩ := txts_sh fun x hx => h x (List.mem_cons_of_mem _ hx)
    exact ⟨z :: xs, by simp [txts, h1], by simp [h2]⟩
theorem addT {S : So} {a b : List PyData} (h : a.length + b.length ≤ 1000) : addW S (.d (.tuple a)) (.d (.tuple b)) = some (.d (.tuple (a ++ b))) := by
  show (if small (a.length + b.length) = true then some (PyData.tuple (a ++ b)) else none).map W.d = _
  rw [if_pos (small_of h)]; rfl
theorem addT' {S : So} {a b : List PyData} (h : a.length + b.length ≤ 1000000) : addW S (.d (.tuple a)) (.d (.tuple b)) = some (.d (.tuple (a ++ b))) := by
  show (if small (a.length + b.length) = true then some (PyData.tuple (a ++ b)) else none).map W.d = _
  rw [if_pos (small_of h)]; rfl
theorem ltD_int (a b : Int) : ltD (.int a) (.int b) = decide (a < b) := by
  simp [ltD]
theorem addS {S : So} {a b : Str} (h : a.length + b.length ≤ 1000000) : addW S (.d (.str a)) (.d (.str b)) = some (.d (.str (a ++ b))) := by
  show (if small (a.length + b.length) = true then some (PyData.str (a ++ b)) else none).map W.d = _
  rw [if_pos (small_of h)]; rfl
theorem cut63 {xs : List PyData} (h : xs.length ≤ 63) : cutG xs none (some 63) = xs := by
  unfold cutG
  rw [HT.sIx_none, show (63 : Int) = ((63 : Nat) : Int) from rfl, HT.sIx_nat, show min 63 xs.length = xs.length by omega]
  simp
/-- the reader at k, whatever it has read -/
def Rdr (P : O → Prop) (k : Nat) (S T : So) : Prop := ∃ o, P o ∧ T = S.set k o
section
variable {P : O → Prop} {S T : So} {k : Nat} {l : List O} (hk : k < S.length)
include hk
theorem rdr_form (h : Rdr P k (S ++ l) T) : ∃ o, P o ∧ T = S.set k o ++ l := by
  obtain ⟨o, h, rfl⟩ := h
  exact ⟨o, h, by rw [List.set_append_left _ _ hk]⟩
theorem rdr_at (h : Rdr P k (S ++ l) T) (i : Nat) : T[S.length + i]? = l[i]? := by
  obtain ⟨o, h, rfl⟩ := rdr_form hk h
  rw [List.getElem?_append_right (by rw [List.length_set]; omega), List.length_set, Nat.add_sub_cancel_left]
theorem rdr_set (h : Rdr P k (S ++ l) T) (i : Nat) (o : O) : Rdr P k (S ++ l.set i o) (T.set (S.length + i) o) := by
  obtain ⟨u, hu, rfl⟩ := rdr_form hk h
  refine ⟨u, hu, ?_⟩
  rw [List.set_append_right _ _ (by rw [List.length_set]; omega), List.length_set, Nat.add_sub_cancel_left, List.set_append_left _ _ hk]
theorem rdr_push (h : Rdr P k (S ++ l) T) (o : O) : Rdr P k (S ++ (l ++ [o])) (T ++ [o]) := by
  obtain ⟨u, hu, rfl⟩ := rdr_form hk h
  refine ⟨u, hu, ?_⟩
  rw [List.set_append_left _ _ hk, List.append_assoc]
theorem rdr_take (h : Rdr P k (S ++ l) T) : Rdr P k S (T.take S.length) := by
  obtain ⟨u, hu, rfl⟩ := rdr_form hk h
  exact ⟨u, hu, by rw [List.take_append_of_le_length (by simp)]; exact List.take_of_length_le (by simp)⟩
theorem rdr_len (h : Rdr P k (S ++ l) T) : T.length = S.length + l.length := by
  obtain ⟨o, _, rfl⟩ := h
  simp
end
section
variable {P : O → Prop} {S T T0 : So} {k : Nat}
theorem rdr0 (h : Rdr P k S T) : Rdr P k (S ++ []) T := by rwa [List.append_nil]
theorem rdr1 (h : Rdr P k (S ++ []) T) : Rdr P k S T := by rwa [List.append_nil] at h
theorem rdr_lenS (h : Rdr P k S T) : T.length = S.length := by obtain ⟨o, _, rfl⟩ := h; simp
theorem rdr_takeS (h : Rdr P k S T) (h0 : Rdr P k S T0) : T.take T0.length = T := List.take_of_length_le (by rw [rdr_lenS h, rdr_lenS h0]; exact Nat.le_refl _)
end
theorem at_set {S : So} {k : Nat} (hk : k < S.length) (o : O) : (S.set k o)[k]? = some o := List.getElem?_set_self hk
theorem lc_invK {vs : List Nat} {σ : En} {tg : Tg} {c : DT} {e : DE} {all : List PyData} {o : Option Nat} (I : Nat → List PyData → So → Prop) (hK : ∀ j acc S, I j acc S → keepB o all S = true) : ∀ (xs : List PyData) (k : Nat) (acc : List PyData) (S : So), I k acc S →
    (∀ (j : Nat) (x : PyData) (acc : List PyData) (S : So), xs[j]? = some x → I (k + j) acc S → ∃ σ1, bindT tg (.d x) (wipeW σ vs) = some σ1 ∧ Ret (c σ1 S) fun b S1 => if b = true then Ret (e σ1 S1) fun w S2 => ∃ y, w = .d y ∧ I (k + j + 1) (acc ++ [y]) S2 else I (k + j + 1) acc S1) →
    Ret (lcGo o all vs σ tg c e xs acc S) (I (k + xs.length))
  | [], k, acc, S, h, _ => by unfold lcGo; rw [if_pos (hK _ _ _ h)]; exact h
  | x :: xs, k, acc, S, h, st => by
    obtain ⟨σ1, h1, h2⟩ := st 0 x acc S rfl h
    unfold lcGo
    rw [if_pos (hK _ _ _ h), h1]
    dsimp only
    have rest : ∀ acc' S', I (k + 0 + 1) acc' S' → Ret (lcGo o all vs σ tg c e xs acc' S') (I (k + (x :: xs).length)) := fun acc' S' hI => by
      have := lc_invK (all := all) I hK xs (k + 1) acc' S' hI fun j y acc S hy hI2 => by
        have := st (j + 1) y acc S (by simpa using hy) (by rw [show k + (j + 1) = k + 1 + j by omega]; exact hI2)
        rw [show k + (j + 1) + 1 = k + 1 + j + 1 by omega] at this
        exact this
      rw [List.length_cons, show k + (xs.length + 1) = k + 1 + xs.length by omega]
      exact this
    unfold Ret at h2
    split at h2
    · rename_i b S1 hc
      rw [hc]
      cases b with
      | true =>
        simp only [if_true] at h2
        dsimp only
        split at h2
        · rename_i w S2 he
          obtain ⟨y, rfl, hI⟩ := h2
          rw [he]
          exact rest _ _ hI
        · exact h2.elim
      | false => exact rest _ _ (by simpa using h2)
    · exact h2.elim
theorem lc_pureK {vs : List Nat} {σ : En} {tg : Tg} {c : DT} {e : DE} {all : List PyData} {S : So} {o : Option Nat} (hK : keepB o all S = true) (p : PyData → Bool) (f : PyData → PyData) : ∀ (xs acc : List PyData), (∀ x ∈ xs, ∃ σ1, bindT tg (.d x) (wipeW σ vs) = some σ1 ∧ Ret (c σ1 S) (fun b S1 => b = p x ∧ S1 = S) ∧ (p x = true → Ret (e σ1 S) fun w S2 => w = .d (f x) ∧ S2 = S)) →
    lcGo o all vs σ tg c e xs acc S = some (.ok (acc ++ (xs.filter p).map f) S)
  | [], acc, _ => by unfold lcGo; rw [if_pos hK]; simp
  | x :: xs, acc, h => by
    obtain ⟨σ1, h1, h2, h3⟩ := h x List.mem_cons_self
    have ih := fun acc' => lc_pureK (σ := σ) (vs := vs) (tg := tg) (c := c) (e := e) (all := all) (S := S) hK p f xs acc' fun y hy => h y (List.mem_cons_of_mem _ hy)
    unfold lcGo
    rw [if_pos hK, h1]
    dsimp only
    rw [h2.eq]
    cases hp : p x with
    | true =>
      dsimp only
      rw [(h3 hp).eq]
      dsimp only
      rw [ih]
      simp [hp]
    | false =>
      dsimp only
      rw [ih]
      simp [hp]
theorem for_invK {tg : Tg} {b : DS} {all : List PyData} {N : En → So → Prop} {R : W → So → Prop} {o : Option Nat} (I : Nat → En → So → Prop) (hK : ∀ j σ S, I j σ S → keepB o all S = true) : ∀ (xs : List PyData) (k : Nat) (σ : En) (S : So), I k σ S → (∀ σ S, I (k + xs.length) σ S → N σ S) →
    (∀ (j : Nat) (x : PyData) (σ : En) (S : So), xs[j]? = some x → I (k + j) σ S → ∃ σ1, bindT tg (.d x) σ = some σ1 ∧ RetS (b σ1 S) (I (k + j + 1)) R) → RetS (forGo o all tg b xs σ S) N R
  | [], k, σ, S, h, hN, _ => by unfold forGo; rw [if_pos (hK _ _ _ h)]; exact hN σ S h
  | x :: xs, k, σ, S, h, hN, st => by
    obtain ⟨σ1, h1, h2⟩ := st 0 x σ S rfl h
    unfold forGo
    rw [if_pos (hK _ _ _ h), h1]
    dsimp only
    unfold RetS at h2
    split at h2
    · rename_i σ2 S2 he
      rw [he]
      exact for_invK I hK xs (k + 1) σ2 S2 h2 (fun σ S q => hN σ S (by rw [List.length_cons, show k + (xs.length + 1) = k + 1 + xs.length by omega]; exact q)) fun j y σ S hy hI2 => by
        have := st (j + 1) y σ S (by simpa using hy) (by rw [show k + (j + 1) = k + 1 + j by omega]; exact hI2)
        rw [show k + (j + 1) + 1 = k + 1 + j + 1 by omega] at this
        exact this
    · rename_i w S2 he
      rw [he]
      exact h2
    · exact h2.elim
theorem keep_at {S : So} {n : Nat} {xs : List PyData} (h : S[n]? = some (.lst xs)) (hp : plDs xs = true) : keepB (some n) xs S = true := by
  unfold keepB
  simp only [h]
  exact eqDs_refl xs hp
theorem cut_mem {α : Type} {xs : List α} {lo hi : Option Int} {y : α} (h : y ∈ cutG xs lo hi) : y ∈ xs := List.mem_of_mem_drop (List.mem_of_mem_take h)
theorem cut_hi {α : Type} (xs : List α) (b : Nat) : cutG xs none (some (b : Int)) = xs.take b := by
  unfold cutG
  rw [HT.sIx_none, HT.sIx_nat]
  simp
theorem cut_len {α : Type} (xs : List α) (a b : Nat) (h : a ≤ b) (h2 : b ≤ xs.length) : (cutG xs (some (a : Int)) (some (b : Int))).length = b - a := by
  unfold cutG
  rw [HT.sIx_nat, HT.sIx_nat]
  simp
  omega
/-- a def, as one says it -/
theorem fnB_iff {G : Nat → W → So → M W} {np nN : Nat} {body : DS} {ws : List W} {S : So} {P : W → So → Prop} (hl : ws.length = np) : Ret (fnB G np nN body ws S) P ↔ RetS (body (startW nN ws) S) (fun _ S' => P (.d .none) (S'.take S.length)) fun w S' => Ret (G S.length w S') P := by
  unfold fnB
  rw [if_pos hl]
  unfold RetS
  generalize body (startW nN ws) S = o
  cases o with
  | none => exact Iff.rfl
  | some o => cases o <;> exact Iff.rfl
end CL
end

section
/-! part CLHelp2 -/
set_option Elab.async false
set_option linter.all false
set_option maxRecDepth 100000
set_option maxHeartbeats 1000000
/-! CLHelp2: wishes of the later forms. -/
namespace CL
open PySem PySem.Spec PyProof.Rows L2
section
variable {σ : En} {S : So} {N : En → So → Prop} {R : W → So → Prop}
theorem RetS_putL (d i v : DE) : RetS (sPutL d i v σ S) N R ↔ Ret (v σ S) fun x S1 => Ret (d σ S1) fun z S2 => Ret (i σ S2) fun y S3 => ∃ S4, lputW S3 z y x = some S4 ∧ N σ S4 := by
  unfold sPutL
  rw [RetS_bnd]
  apply Iff.of_eq
  congr
  funext x S1
  rw [eq_iff_iff, RetS_bnd]
  apply Iff.of_eq
  congr
  funext z S2
  rw [eq_iff_iff, RetS_bnd]
  apply Iff.of_eq
  congr
  funext y S3
  cases h : lputW S3 z y x <;> simp [RetS]
theorem Ret_dTupP (as : DA) (P : W → So → Prop) : Ret (dTupP as σ S) P ↔ Ret (as σ S) fun ws S1 => ∃ n x, ws = [.r n, .d x] ∧ P (.p n x) S1 := by
  unfold dTupP
  simp only [Ret_bnd]
  apply Iff.of_eq; congr; funext ws S1
  apply propext
  split
  · rename_i n x
    exact ⟨fun h => ⟨n, x, rfl, h⟩, fun ⟨a, b, e, h⟩ => by cases e; exact h⟩
  · rename_i h
    simp only [Ret_none, false_iff]
    rintro ⟨a, b, e, _⟩
    exact h a b e
theorem RetS_asgP (i j : Nat) (d : DE) : RetS (sAsgP i j d σ S) N R ↔ Ret (d σ S) fun w S1 => ∃ n x, w = .p n x ∧ N ((σ.set i (some (.r n))).set j (some (.d x))) S1 := by
  unfold sAsgP
  rw [RetS_bnd]
  apply Iff.of_eq; congr; funext w S1
  apply propext
  split
  · rename_i n x
    exact ⟨fun h => ⟨n, x, rfl, h⟩, fun ⟨a, b, e, h⟩ => by cases e; exact h⟩
  · rename_i h
    simp only [RetS_none, false_iff]
    rintro ⟨a, b, e, _⟩
    exact h a b e
theorem Ret_dSnd (d : DE) (P : W → So → Prop) : Ret (dSnd d σ S) P ↔ Ret (d σ S) fun w S1 => ∃ n x, w = .p n x ∧ P (.d x) S1 := by
  unfold dSnd
  simp only [Ret_bnd]
  apply Iff.of_eq; congr; funext w S1
  apply propext
  split
  · rename_i n x
    exact ⟨fun h => ⟨n, x, rfl, h⟩, fun ⟨a, b, e, h⟩ => by cases e; exact h⟩
  · rename_i h
    simp only [Ret_none, false_iff]
    rintro ⟨a, b, e, _⟩
    exact h a b e
theorem Ret_dD1T (k v : DE) (P : W → So → Prop) : Ret (dD1T k v σ S) P ↔ Ret (k σ (withDt S)) fun y S1 => Ret (v σ S1) fun x S2 => ∃ ys z q, y = .d (.tuple ys) ∧ x = .d z ∧ keysP ys = some q ∧ S2[S.length]? = some (.dt []) ∧ P (.r S.length) (S2.set S.length (.dt [(q, z)])) := by
  unfold dD1T
  simp only [Ret_bnd]
  apply Iff.of_eq; congr; funext y S1; congr; funext x S2
  apply propext
  split
  · rename_i ys z
    split
    · rename_i q h1 h2
      exact ⟨fun h => ⟨ys, z, q, rfl, rfl, h1, h2, h⟩, fun ⟨a, b, c, e1, e2, e3, e4, h⟩ => by cases e1; cases e2; rw [h1] at e3; cases e3; exact h⟩
    · rename_i h
      simp only [Ret_none, false_iff]
      rintro ⟨a, b, c, e1, e2, e3, e4, _⟩
      cases e1; cases e2
      exact h c e3 e4
  · rename_i h
    simp only [Ret_none, false_iff]
    rintro ⟨a, b, c, e1, e2, _⟩
    exact h a b e1 e2
theorem Ret_dListZip (as : DA) (P : List PyData → So → Prop) : Ret (dListZip as σ S) P ↔ Ret (as σ S) fun ws S1 => ∃ xs, zipW ws = some xs ∧ small (xs.length + 1) = true ∧ P xs S1 := by
  unfold dListZip
  simp only [Ret_bnd, Ret_giv, Option.bind_eq_some_iff]
  apply Iff.of_eq; congr; funext w S1
  apply propext
  constructor
  · rintro ⟨q, ⟨xs, h1, h2⟩, h3⟩
    split at h2
    · rename_i hz; cases h2; exact ⟨_, h1, hz, h3⟩
    · cases h2
  · rintro ⟨xs, h1, hz, h3⟩
    exact ⟨xs, ⟨xs, h1, by rw [if_pos hz]⟩, h3⟩
theorem RetS_augI (i : Nat) (d : DE) : RetS (sAugI i d σ S) N R ↔ ∃ a, σ[i]? = some (some (.d (.int a))) ∧ Ret (d σ S) fun w S1 => ∃ b, w = .d (.int b) ∧ N (σ.set i (some (.d (.int (a + b))))) S1 := by
  unfold sAugI
  split
  · rename_i a ha
    rw [RetS_bnd]
    constructor
    · intro h
      refine ⟨a, ha, h.mono fun w S1 q => ?_⟩
      split at q
      · rename_i b; exact ⟨b, rfl, q⟩
      · exact q.elim
    · rintro ⟨b, e, h⟩
      have : b = a := by rw [ha] at e; cases e; rfl
      subst this
      refine h.mono fun w S1 ⟨b, e, q⟩ => ?_
      subst e; exact q
  · rename_i h
    simp only [RetS_none, false_iff]
    rintro ⟨a, e, _⟩
    exact h a e
theorem Ret_gcp (k n : Nat) (x : PyData) (P : W → So → Prop) : Ret (gcNew k (.p n x) S) P ↔ if n < k then P (.p n x) (S.take k) else ∃ o, S[n]? = some o ∧ P (.p k x) (S.take k ++ [o]) := by
  unfold gcNew
  dsimp only
  split
  · rfl
  · cases h : S[n]? with
    | none => simp
    | some o => simp
/-- while, with a wish that falls -/
theorem wh_inv {c : DT} {b : DS} (I : Nat → En → So → Prop) : ∀ (n m : Nat) (σ : En) (S : So), I m σ S → m < n →
    (∀ m σ S, I m σ S → Ret (c σ S) fun k S1 => if k = true then RetS (b σ S1) (fun σ2 S2 => ∃ m', m' < m ∧ I m' σ2 S2) R else N σ S1) → RetS (whGo c b n σ S) N R
  | 0, m, σ, S, _, h, _ => absurd h (Nat.not_lt_zero _)
  | n + 1, m, σ, S, hI, hm, st => by
    have h := st m σ S hI
    unfold whGo
    unfold Ret at h
    split at h
    · rename_i k S1 e
      rw [e]
      cases k with
      | true =>
        rw [if_pos rfl] at h
        dsimp only
        unfold RetS at h
        split at h
        · rename_i σ2 S2 e2
          rw [e2]
          obtain ⟨m', h1, h2⟩ := h
          exact wh_inv I n m' σ2 S2 h2 (by omega) st
        · rename_i e2; rw [e2]; exact h
        · exact h.elim
      | false => exact h
    · exact h.elim
end
end CL
end

section
/-! part LM33a -/
set_option Elab.async false
set_option linter.all false
set_option maxRecDepth 100000
set_option maxHeartbeats 1000000
/-! LM33a: the tape and what is picked. -/
open CL
open PySem PySem.Spec PyProof.Rows L2
namespace LK33
def tpL (ns : List Int) (a r d : Int) : List PyData := [.list (ns.map PyData.int), .int a, .int r, .int d]
def tpO (ns : List Int) (a r d : Int) : O := .lst (tpL ns a r d)
def RdO (ns : List Int) (o : O) : Prop := ∃ a r d, o = tpO ns a r d
section
variable {S : So} {k : Nat} {ns : List Int} {a r d : Int} (hk : k < S.length)
include hk
theorem get_0 : on2 atP (S.set k (tpO ns a r d)) (.r k) (.d (.int 0)) = some (.d (.list (ns.map PyData.int))) := by
  simp only [on2, rd, at_set hk, tpO]; rfl
theorem get_1 : on2 atP (S.set k (tpO ns a r d)) (.r k) (.d (.int 1)) = some (.d (.int a)) := by
  simp only [on2, rd, at_set hk, tpO]; rfl
theorem get_2 : on2 atP (S.set k (tpO ns a r d)) (.r k) (.d (.int 2)) = some (.d (.int r)) := by
  simp only [on2, rd, at_set hk, tpO]; rfl
theorem get_3 : on2 atP (S.set k (tpO ns a r d)) (.r k) (.d (.int 3)) = some (.d (.int d)) := by
  simp only [on2, rd, at_set hk, tpO]; rfl
theorem set_1 (x : Int) : lputW (S.set k (tpO ns a r d)) (.r k) (.d (.int 1)) (.d (.int x)) = some (S.set k (tpO ns x r d)) := by
  simp only [lputW, at_set hk, tpO, List.set_set]; rfl
theorem set_2 (x : Int) : lputW (S.set k (tpO ns a r d)) (.r k) (.d (.int 2)) (.d (.int x)) = some (S.set k (tpO ns a x d)) := by
  simp only [lputW, at_set hk, tpO, List.set_set]; rfl
theorem set_3 (x : Int) : lputW (S.set k (tpO ns a r d)) (.r k) (.d (.int 3)) (.d (.int x)) = some (S.set k (tpO ns a r x)) := by
  simp only [lputW, at_set hk, tpO, List.set_set]; rfl
end
theorem pick_at {S : So} {k : Nat} {ns : List Int} {n r d : Int} (hk : k < S.length) {m : Int} (h0 : 0 < m) (h1 : m < 1073741824) :
    Ret (f_l_pick [.r k, .d (.int m)] (S.set k (tpO ns n r d))) fun w T => (∃ x, w = .d (.int x) ∧ 0 ≤ x ∧ x < m) ∧ Rdr (RdO ns) k S T := by
  have fin : ∀ (x n' r' d' : Int), 0 ≤ x → x < m → Ret (gc (S.set k (tpO ns n r d)).length (.d (.int x)) (S.set k (tpO ns n' r' d'))) fun w T => (∃ x, w = .d (.int x) ∧ 0 ≤ x ∧ x < m) ∧ Rdr (RdO ns) k S T := fun x n' r' d' a b => by
    rw [Ret_gcd]
    exact ⟨⟨x, rfl, a, b⟩, _, ⟨n', r', d', rfl⟩, take_set _ _⟩
  have b0 : ∀ y : Int, 0 ≤ y % m := fun y => Int.emod_nonneg _ (by omega)
  have b1 : ∀ y : Int, y % m < m := fun y => Int.emod_lt_of_pos _ h0
  refine Ret_fnB rfl ?_
  unfold b_l_pick
  simp only [RetS_cons, RetS_nil, RetS_set, RetS_drop, RetS_ret, RetS_if, RetS_asg, RetS_par, RetS_put, RetS_nx, RetS_rt, Ret_dFn, Ret_dCons, Ret_dNil, Ret_dBin, Ret_dUn, Ret_dCall, Ret_dCallN, Ret_dC, Ret_dG, Ret_dVar, Ret_dFz, Ret_dNew, Ret_dLst, Ret_dTup, Ret_dB, Ret_dAndT, Ret_dOrT, Ret_dNotT, Ret_dAnd, Ret_dOr, Ret_dNot, Ret_dIsi, Ret_dChain, Ret_dGet, Ret_dD0, Ret_dNoP, Ret_dPt, Ret_dSlA, Ret_dMeth, Ret_dAny, Ret_dLenSet, Ret_dZip, Ret_dZipL, Ret_dKeys, Ret_dRng1, Ret_dRng2, Ret_dLc, wipeW, Ret_dDc, RetS_putL, Ret_dTupP, RetS_asgP, Ret_dSnd, Ret_dD1T, Ret_dListZip, RetS_augI, Ret_gcp, Ret_dItems, Ret_dSortSet, Ret_dFnK, RetS_for, Ret_ok, startW, List.map_cons, List.map_nil, List.length_cons, List.length_nil, List.cons_append, List.nil_append, List.replicate, Nat.sub_self, Nat.reduceSub, Nat.reduceAdd, List.getElem?_cons_zero, List.getElem?_cons_succ, List.set_cons_zero, List.set_cons_succ, Option.some.injEq, exists_eq_left', rd_d, on2_d, on1_d, c1_d, bOf_b, exists_eq_left, Option.map_some, Option.bind_some, W.d.injEq, Ret_gcd, List.take_length, dIx]
  refine ⟨_, get_3 hk, _, rfl, _, set_3 hk _, _, get_2 hk, _, rfl, _, rfl, ?_⟩
  split
  · exact ⟨_, get_2 hk, _, o2i (mod_of h0), _, get_2 hk, _, o2i (div_of h0 h1), _, set_2 hk _, fin _ _ _ _ (b0 _) (b1 _)⟩
  · refine ⟨_, get_1 hk, _, rfl, _, set_1 hk _, ?_⟩
    refine Ret.mono (P := fun w T => (∃ c : Int, w = .d (.int c)) ∧ T = S.set k (tpO ns (n + 1) r (d + 1))) ?_ ?_
    · simp only [RetS_cons, RetS_nil, RetS_set, RetS_drop, RetS_ret, RetS_if, RetS_asg, RetS_par, RetS_put, RetS_nx, RetS_rt, Ret_dFn, Ret_dCons, Ret_dNil, Ret_dBin, Ret_dUn, Ret_dCall, Ret_dCallN, Ret_dC, Ret_dG, Ret_dVar, Ret_dIf, Ret_dFz, Ret_dNew, Ret_dLst, Ret_dTup, Ret_dB, Ret_dAndT, Ret_dOrT, Ret_dNotT, Ret_dAnd, Ret_dOr, Ret_dNot, Ret_dIsi, Ret_dChain, Ret_dGet, Ret_dD0, Ret_dNoP, Ret_dPt, Ret_dSlA, Ret_dMeth, Ret_dAny, Ret_dLenSet, Ret_dZip, Ret_dZipL, Ret_dKeys, Ret_dRng1, Ret_dRng2, Ret_dLc, wipeW, Ret_dDc, RetS_putL, Ret_dTupP, RetS_asgP, Ret_dSnd, Ret_dD1T, Ret_dListZip, RetS_augI, Ret_gcp, Ret_dItems, Ret_dSortSet, Ret_dFnK, RetS_for, Ret_ok, startW, List.map_cons, List.map_nil, List.length_cons, List.length_nil, List.cons_append, List.nil_append, List.replicate, Nat.sub_self, Nat.reduceSub, Nat.reduceAdd, List.getElem?_cons_zero, List.getElem?_cons_succ, List.set_cons_zero, List.set_cons_succ, Option.some.injEq, exists_eq_left', rd_d, on2_d, on1_d, c1_d, bOf_b, exists_eq_left, Option.map_some, Option.bind_some, W.d.injEq, Ret_gcd, List.take_length, dIx]
      refine ⟨_, get_0 hk, _, rfl, _, o2 (ne_nil_ints ns), _, rfl, ?_⟩
      split
      · rename_i hne
        have hl : 0 < ns.length := by
          cases ns with
          | nil => simp at hne
          | cons _ _ => simp
        have hb := Int.emod_nonneg n (b := (ns.length : Int)) (by omega)
        have hc := Int.emod_lt_of_pos n (b := (ns.length : Int)) (by omega)
        refine ⟨_, get_0 hk, _, get_0 hk, _, c1o (show lenP (.list (ns.map PyData.int)) = some (.int ns.length) by simp [lenP]), _, o2i (mod_of (by omega)), _, o2 (show atP (.list (ns.map PyData.int)) (.int (n % (ns.length : Int))) = some (.int (ns.getD (n % (ns.length : Int)).toNat 0)) from ?_), ⟨_, rfl⟩, trivial⟩
        refine (at_nat (xs := ns.map PyData.int) hb (by simpa using hc)).trans ?_
        have hlt : (n % (ns.length : Int)).toNat < ns.length := by omega
        simp [hlt]
      · exact ⟨⟨_, rfl⟩, trivial⟩
    · rintro w T ⟨⟨c, rfl⟩, rfl⟩
      have e18 : powI 10 18 = some (.int 1000000000000000000) := by unfold powI; rw [if_pos (by decide)]; rfl
      have m1 : ∀ x : Int, 0 ≤ x % 2147483629 ∧ x % 2147483629 < 2147483629 := fun x => ⟨Int.emod_nonneg _ (by decide), Int.emod_lt_of_pos _ (by decide)⟩
      have m2 : ∀ x : Int, 0 ≤ x % 2147483587 ∧ x % 2147483587 < 2147483587 := fun x => ⟨Int.emod_nonneg _ (by decide), Int.emod_lt_of_pos _ (by decide)⟩
      have tail : ∀ c : Int, ∃ w, on2 (i2 modI) (S.set k (tpO ns (n + 1) r (d + 1))) (.d (.int c)) (.d (.int 2147483549)) = some w ∧ ∃ w1, on2 atP (S.set k (tpO ns (n + 1) r (d + 1))) (.r k) (.d (.int 3)) = some w1 ∧ True := fun c => ⟨_, o2i (mod_of (by decide)), _, get_3 hk, trivial⟩
      refine ⟨_, show (i2 powI (.int 10) (.int 18)).map W.d = some (.d (.int 1000000000000000000)) by rw [i2_ii, e18]; rfl, _, rfl, _, rfl, ?_⟩
      split
      · refine ⟨_, get_0 hk, _, c1o (show lenP (.list (ns.map PyData.int)) = some (.int ns.length) by simp [lenP]), _, o2 (ltP_of (cmp_int _ _)), _, rfl, ?_⟩
        split
        · exact ⟨_, o2i (div_of h0 h1), _, set_2 hk _, _, o2i (mod_of h0), fin _ _ _ _ (b0 _) (b1 _)⟩
        · refine ⟨_, o2i (mod_of (by decide)), _, get_3 hk, _, o2i (mul_of (.inl (by decide))), _, rfl, _, rfl, _, o2i (mod_of (by decide)), ?_⟩
          generalize hx : (c % 2147483549 + 81023 * (d + 1) + 31) % 2147483629 = x
          have hx1 := m1 (c % 2147483549 + 81023 * (d + 1) + 31)
          rw [hx] at hx1
          refine ⟨_, o2i (mul_of (by omega)), _, get_3 hk, _, o2i (mul_of (.inl (by decide))), _, rfl, _, rfl, _, o2i (mod_of (by decide)), ?_⟩
          generalize hy : (x * x + 50021 * (d + 1) + 11) % 2147483587 = y
          have hy1 := m2 (x * x + 50021 * (d + 1) + 11)
          rw [hy] at hy1
          exact ⟨_, o2i (mul_of (by omega)), _, o2i (mul_of (by omega)), _, rfl, _, rfl, _, o2i (mod_of (by decide)), _, o2i (div_of (by decide) (by decide)), _, o2i (mod_of h0), fin _ _ _ _ (b0 _) (b1 _)⟩
      · refine ⟨_, o2i (mod_of (by decide)), _, get_3 hk, _, o2i (mul_of (.inl (by decide))), _, rfl, _, rfl, _, o2i (mod_of (by decide)), ?_⟩
        generalize hx : (c % 2147483549 + 81023 * (d + 1) + 31) % 2147483629 = x
        have hx1 := m1 (c % 2147483549 + 81023 * (d + 1) + 31)
        rw [hx] at hx1
        refine ⟨_, o2i (mul_of (by omega)), _, get_3 hk, _, o2i (mul_of (.inl (by decide))), _, rfl, _, rfl, _, o2i (mod_of (by decide)), ?_⟩
        generalize hy : (x * x + 50021 * (d + 1) + 11) % 2147483587 = y
        have hy1 := m2 (x * x + 50021 * (d + 1) + 11)
        rw [hy] at hy1
        exact ⟨_, o2i (mul_of (by omega)), _, o2i (mul_of (by omega)), _, rfl, _, rfl, _, o2i (mod_of (by decide)), _, o2i (div_of (by decide) (by decide)), _, o2i (mod_of h0), fin _ _ _ _ (b0 _) (b1 _)⟩
section
variable {S T : So} {k : Nat} {ns : List Int} {l : List O} (hk : k < S.length)
include hk
theorem rdr_pick (h : Rdr (RdO ns) k (S ++ l) T) {m : Int} (h0 : 0 < m) (h1 : m < 1073741824) : Ret (f_l_pick [.r k, .d (.int m)] T) fun w T' => (∃ x, w = .d (.int x) ∧ 0 ≤ x ∧ x < m) ∧ Rdr (RdO ns) k (S ++ l) T' := by
  obtain ⟨_, ⟨n, r, d, rfl⟩, rfl⟩ := h
  exact pick_at (by simp; omega) h0 h1
theorem pick' (h : Rdr (RdO ns) k S T) {m : Int} (h0 : 0 < m) (h1 : m < 1073741824) : Ret (f_l_pick [.r k, .d (.int m)] T) fun w T' => (∃ x, w = .d (.int x) ∧ 0 ≤ x ∧ x < m) ∧ Rdr (RdO ns) k S T' :=
  (rdr_pick hk (rdr0 h) h0 h1).mono fun w T' ⟨a, b⟩ => ⟨a, rdr1 b⟩
theorem any_ok (h : Rdr (RdO ns) k S T) {xs : List PyData} {c : List PyData → PyData} (hc : c = .list ∨ c = .tuple) (h0 : 0 < xs.length) (h1 : xs.length < 1000) : Ret (f_l_any [.r k, .d (c xs)] T) fun w T' => (∃ y, w = .d y ∧ y ∈ xs) ∧ Rdr (RdO ns) k S T' := by
  refine Ret_fnB rfl ?_
  unfold b_l_any
  simp only [RetS_cons, RetS_nil, RetS_set, RetS_drop, RetS_ret, RetS_if, RetS_asg, RetS_par, RetS_put, RetS_nx, RetS_rt, Ret_dFn, Ret_dCons, Ret_dNil, Ret_dBin, Ret_dUn, Ret_dCall, Ret_dCallN, Ret_dC, Ret_dG, Ret_dVar, Ret_dIf, Ret_dFz, Ret_dNew, Ret_dLst, Ret_dTup, Ret_dB, Ret_dAndT, Ret_dOrT, Ret_dNotT, Ret_dAnd, Ret_dOr, Ret_dNot, Ret_dIsi, Ret_dChain, Ret_dGet, Ret_dD0, Ret_dNoP, Ret_dPt, Ret_dSlA, Ret_dMeth, Ret_dAny, Ret_dLenSet, Ret_dZip, Ret_dZipL, Ret_dKeys, Ret_dRng1, Ret_dRng2, Ret_dLc, wipeW, Ret_dDc, RetS_putL, Ret_dTupP, RetS_asgP, Ret_dSnd, Ret_dD1T, Ret_dListZip, RetS_augI, Ret_gcp, Ret_dItems, Ret_dSortSet, Ret_dFnK, RetS_for, Ret_ok, startW, List.map_cons, List.map_nil, List.length_cons, List.length_nil, List.cons_append, List.nil_append, List.replicate, Nat.sub_self, Nat.reduceSub, Nat.reduceAdd, List.getElem?_cons_zero, List.getElem?_cons_succ, List.set_cons_zero, List.set_cons_succ, Option.some.injEq, exists_eq_left', rd_d, on2_d, on1_d, c1_d, bOf_b, exists_eq_left, Option.map_some, Option.bind_some, W.d.injEq, Ret_gcd, List.take_length, dIx]
  have hl : lenP (c xs) = some (.int xs.length) := by rcases hc with rfl | rfl <;> rfl
  have ha : ∀ i, atP (c xs) (.int i) = L2.atI xs i := by rcases hc with rfl | rfl <;> (intro i; rfl)
  refine ⟨_, om hl, ?_⟩
  refine (pick' hk h (by omega) (by omega)).mono ?_
  rintro _ T1 ⟨⟨x, rfl, x0, x1⟩, h1⟩
  refine ⟨_, om ((ha x).trans (at_nat x0 x1)), ?_⟩
  rw [Ret_gcd, rdr_takeS h1 h]
  have hx : x.toNat < xs.length := by omega
  exact ⟨⟨_, rfl, by rw [show xs.getD x.toNat .none = xs[x.toNat] by simp [hx]]; exact List.getElem_mem hx⟩, h1⟩
end
theorem tape_ok {ns : List Int} (h : ns.length ≤ 63) : f_l_tape [.s (ns.map PyData.int)] [] = some (.ok (.r 0) [tpO ns 0 0 0]) := by
  have h2 := cut63 (xs := ns.map PyData.int) (by simpa using h)
  refine Ret.eq (Ret_fnB rfl ?_)
  unfold b_l_tape
  simp only [RetS_cons, RetS_nil, RetS_set, RetS_drop, RetS_ret, RetS_if, RetS_asg, RetS_par, RetS_put, RetS_nx, RetS_rt, Ret_dFn, Ret_dCons, Ret_dNil, Ret_dBin, Ret_dUn, Ret_dCall, Ret_dCallN, Ret_dC, Ret_dG, Ret_dVar, Ret_dIf, Ret_dFz, Ret_dNew, Ret_dLst, Ret_dTup, Ret_dB, Ret_dAndT, Ret_dOrT, Ret_dNotT, Ret_dAnd, Ret_dOr, Ret_dNot, Ret_dIsi, Ret_dChain, Ret_dGet, Ret_dD0, Ret_dNoP, Ret_dPt, Ret_dSlA, Ret_dMeth, Ret_dAny, Ret_dLenSet, Ret_dZip, Ret_dZipL, Ret_dKeys, Ret_dRng1, Ret_dRng2, Ret_dLc, wipeW, Ret_dDc, RetS_putL, Ret_dTupP, RetS_asgP, Ret_dSnd, Ret_dD1T, Ret_dListZip, RetS_augI, Ret_gcp, Ret_dItems, Ret_dSortSet, Ret_dFnK, RetS_for, Ret_ok, startW, List.map_cons, List.map_nil, List.length_cons, List.length_nil, List.cons_append, List.nil_append, List.replicate, Nat.sub_self, Nat.reduceSub, Nat.reduceAdd, List.getElem?_cons_zero, List.getElem?_cons_succ, List.set_cons_zero, List.set_cons_succ, Option.some.injEq, exists_eq_left', rd_d, on2_d, on1_d, c1_d, bOf_b, exists_eq_left, Option.map_some, Option.bind_some, W.d.injEq, Ret_gcd, List.take_length, dIx]
  refine ⟨63, rfl, _, rfl, .list (cutG (ns.map PyData.int) none (some 63)), rfl, _, rfl, ?_⟩
  rw [h2]
  exact ⟨rfl, rfl⟩
end LK33
end

section
/-! part LM33b -/
set_option Elab.async false
set_option linter.all false
set_option maxRecDepth 100000
set_option maxHeartbeats 1000000
/-! LM33b: tables, pairs, what is picked of them. -/
open CL
open PySem PySem.Spec PyProof.Rows L2
namespace LK33
def itemL : List PyData := [.str "door", .str "room", .str "time", .str "zone"]
def letL : List PyData := [.str "a", .str "b", .str "c", .str "d", .str "e"]
theorem item_sh : ∀ y ∈ itemL, Sh y := fun y hy => sh_of (List.all_eq_true.mp (show itemL.all shB = true by decide +kernel) y hy)
theorem let_sh : ∀ y ∈ letL, Sh y := fun y hy => sh_of (List.all_eq_true.mp (show letL.all shB = true by decide +kernel) y hy)
/-- a table: heads and rows -/
def TB (n : Nat) (g : PyData) : Prop := ∃ hs rs, g = .tuple [.tuple hs, .tuple rs] ∧ hs.length = n ∧ (∀ x ∈ hs, Sh x) ∧ rs.length ≤ 10 ∧ ∀ r ∈ rs, Row n r
def Lots (ls : List (List PyData)) : Prop := ∀ l ∈ ls, 2 ≤ l.length ∧ l.length ≤ 5 ∧ ∀ y ∈ l, Sh y
def InR (ls : List (List PyData)) (fs : List Int) : Prop := fs.length = ls.length ∧ ∀ (i : Nat) (l : List PyData) (v : Int), ls[i]? = some l → fs[i]? = some v → 0 ≤ v ∧ v < (l.length : Int)
theorem at_map {α : Type} {f : α → PyData} {xs : List α} {i : Nat} {x : α} (h : xs[i]? = some x) (c : List PyData → PyData) (hc : c = .list ∨ c = .tuple) : atP (c (xs.map f)) (.int (i : Int)) = some (f x) := by
  have hl := (List.getElem?_eq_some_iff.mp h).1
  have ha : atP (c (xs.map f)) (.int (i : Int)) = L2.atI (xs.map f) i := by rcases hc with rfl | rfl <;> rfl
  rw [ha, at_nat (by omega) (by simpa using hl)]
  simp [h]
theorem sel {σ : En} {i : Nat} {ls : List (List PyData)} {fs : List Int} {all : List PyData} {T : So} (hl : Lots ls) (hf : InR ls fs) (h4 : σ[4]? = some (some (.d (.list (ls.map PyData.tuple))))) (hi : σ[i]? = some (some (.d (.list (fs.map PyData.int))))) (hn : i ≠ 9) (hs : 9 < σ.length) :
    Ret (lcGo none all [9] σ (.nm 9) dYes (dIx (dIx (dVar 4) (dVar 9)) (dIx (dVar i) (dVar 9))) (rng 0 ls.length) [] T) fun ws T' => (ws.length = ls.length ∧ ∀ y ∈ ws, Sh y) ∧ T' = T := by
  refine (lc_inv (fun j acc T' => T' = T ∧ acc.length = j ∧ ∀ y ∈ acc, Sh y) (rng 0 ls.length) 0 [] T ⟨rfl, rfl, by simp⟩ ?_).mono ?_
  · rintro j y acc T' hy ⟨rfl, a1, a2⟩
    obtain ⟨rfl, hj⟩ := rng_at hy
    have hjl : j < ls.length := by omega
    refine ⟨_, rfl, ?_⟩
    show Ret (some (.ok true _)) _
    rw [Ret_ok, if_pos rfl]
    have w9 : ((wipeW σ [9]).set 9 (some (.d (.int (j : Int)))))[9]? = some (some (.d (.int (j : Int)))) := by
      rw [List.getElem?_set_self (by simpa [wipeW] using hs)]
    have w4 : ((wipeW σ [9]).set 9 (some (.d (.int (j : Int)))))[4]? = some (some (.d (.list (ls.map PyData.tuple)))) := by
      rw [List.getElem?_set_ne (by decide)]
      simp only [wipeW]
      rw [List.getElem?_set_ne (by decide)]; exact h4
    have wi : ((wipeW σ [9]).set 9 (some (.d (.int (j : Int)))))[i]? = some (some (.d (.list (fs.map PyData.int)))) := by
      rw [List.getElem?_set_ne (Ne.symm hn)]
      simp only [wipeW]
      rw [List.getElem?_set_ne (Ne.symm hn)]; exact hi
    have hl1 : ls[j]? = some ls[j] := List.getElem?_eq_getElem hjl
    have hjf : j < fs.length := by rw [hf.1]; exact hjl
    have hf1 : fs[j]? = some fs[j] := List.getElem?_eq_getElem hjf
    obtain ⟨v0, v1⟩ := hf.2 j _ _ hl1 hf1
    generalize ls[j] = l at hl1 v1
    generalize fs[j] = v at hf1 v0 v1
    have hlm := hl l (List.mem_of_getElem? hl1)
    have hv : v.toNat < l.length := by omega
    simp only [dIx, Ret_dBin, Ret_dVar]
    refine ⟨_, w4, _, w9, _, om (at_map hl1 .list (.inl rfl)), _, wi, _, w9, _, om (at_map hf1 .list (.inl rfl)), _, om (at_nat (xs := l) v0 v1), _, rfl, trivial, by simp [a1], fun z hz => ?_⟩
    rcases List.mem_append.mp hz with hz | hz
    · exact a2 z hz
    · rw [List.mem_singleton] at hz
      rw [hz, show l.getD v.toNat .none = l[v.toNat] by simp [hv]]
      exact hlm.2.2 _ (List.getElem_mem hv)
  · rintro ws T' ⟨rfl, a1, a2⟩
    rw [Nat.zero_add, rng0_len, Int.toNat_natCast] at a1
    exact ⟨⟨a1, a2⟩, rfl⟩
section
variable {S T0 : So} {k : Nat} {ns : List Int} (hk : k < S.length)
include hk
theorem putT {n : Nat} {kvs : List (List Key × PyData)} {T : So} {ws : List PyData} {Q : So → Prop} (q1 : Rdr (RdO ns) k (S ++ [.dt kvs]) T) (f2 : KOk n kvs) (hm : kvs.length ≤ 1000) (q3 : ∀ y ∈ ws, Sh y) (hw : ws.length = n)
    (K : ∀ kvs' T', Rdr (RdO ns) k (S ++ [.dt kvs']) T' → KOk n kvs' → kvs'.length ≤ kvs.length + 1 → Q T') : ∃ S4, dputW T (.r S.length) (.d (.tuple ws)) (.d (.bool true)) = some S4 ∧ Q S4 := by
  obtain ⟨q, g1, g2⟩ := sh_keys q3
  rw [hw] at g2
  have ea : T[S.length + 0]? = some (.dt kvs) := rdr_at hk q1 0
  rw [Nat.add_zero] at ea
  have rs : Rdr (RdO ns) k (S ++ [.dt (putD kvs q (.bool true))]) (T.set (S.length + 0) (.dt (putD kvs q (.bool true)))) := rdr_set hk q1 0 (.dt (putD kvs q (.bool true)))
  refine ⟨T.set (S.length + 0) (.dt (putD kvs q (.bool true))), ?_, K (putD kvs q (.bool true)) _ rs (putD_ok f2 g2) (putD_len kvs q (.bool true)).1⟩
  simp only [dputW, ea]
  rw [if_pos (small_of (m := 10000) (by omega)), g1]; rfl
theorem table_ok (h : Rdr (RdO ns) k S T0) : Ret (f_l_table [.r k, .d (.int 4), .d (.int 9)] T0) fun w T => (∃ n g, w = .d g ∧ 1 ≤ n ∧ n ≤ 4 ∧ TB n g) ∧ Rdr (RdO ns) k S T := by
  have eL := rdr_lenS h
  refine Ret_fnB rfl ?_
  unfold b_l_table
  simp only [RetS_cons, RetS_nil, RetS_set, RetS_drop, RetS_ret, RetS_if, RetS_asg, RetS_par, RetS_put, RetS_nx, RetS_rt, Ret_dFn, Ret_dCons, Ret_dNil, Ret_dBin, Ret_dUn, Ret_dCall, Ret_dCallN, Ret_dC, Ret_dG, Ret_dVar, Ret_dIf, Ret_dFz, Ret_dNew, Ret_dLst, Ret_dTup, Ret_dB, Ret_dAndT, Ret_dOrT, Ret_dNotT, Ret_dAnd, Ret_dOr, Ret_dNot, Ret_dIsi, Ret_dChain, Ret_dGet, Ret_dD0, Ret_dNoP, Ret_dPt, Ret_dSlA, Ret_dMeth, Ret_dAny, Ret_dLenSet, Ret_dZip, Ret_dZipL, Ret_dKeys, Ret_dRng1, Ret_dRng2, Ret_dLc, wipeW, Ret_dDc, RetS_putL, Ret_dTupP, RetS_asgP, Ret_dSnd, Ret_dD1T, Ret_dListZip, RetS_augI, Ret_gcp, Ret_dItems, Ret_dSortSet, Ret_dFnK, RetS_for, Ret_ok, startW, List.map_cons, List.map_nil, List.length_cons, List.length_nil, List.cons_append, List.nil_append, List.replicate, Nat.sub_self, Nat.reduceSub, Nat.reduceAdd, List.getElem?_cons_zero, List.getElem?_cons_succ, List.set_cons_zero, List.set_cons_succ, Option.some.injEq, exists_eq_left', rd_d, on2_d, on1_d, c1_d, bOf_b, exists_eq_left, Option.map_some, Option.bind_some, W.d.injEq, Ret_gcd, List.take_length, dIx]
  refine ⟨itemL, rfl, (pick' hk h (by decide) (by decide)).mono ?_⟩
  rintro _ T1 ⟨⟨x, rfl, x0, x1⟩, h1⟩
  refine ⟨_, rfl, _, rfl, .tuple (itemL.take (1 + x).toNat), ?_, ?_⟩
  · have := cut_hi itemL (1 + x).toNat
    rw [show (((1 + x).toNat : Nat) : Int) = 1 + x by omega] at this
    exact congrArg (fun z => some (PyData.tuple z)) this
  have hn1 : ∀ y ∈ itemL.take (1 + x).toNat, Sh y := fun y hy => item_sh y (List.mem_of_mem_take hy)
  have hn2 : (itemL.take (1 + x).toNat).length = (1 + x).toNat := by
    rw [List.length_take]; show min _ 4 = _; omega
  have hn3 : 1 ≤ (1 + x).toNat ∧ (1 + x).toNat ≤ 4 := by omega
  generalize (1 + x).toNat = n at *
  generalize hnl : itemL.take n = names at *
  refine ⟨(names, none), rfl, ?_⟩
  refine (lc_inv (fun j acc T => Rdr (RdO ns) k S T ∧ ∃ ls : List (List PyData), acc = ls.map PyData.tuple ∧ ls.length = j ∧ Lots ls) names 0 [] T1 ⟨h1, [], rfl, rfl, fun l hl => nomatch hl⟩ ?_).mono ?_
  · rintro j y acc T hy ⟨i1, ls, rfl, i2, i3⟩
    refine ⟨_, rfl, ?_⟩
    simp only [RetS_cons, RetS_nil, RetS_set, RetS_drop, RetS_ret, RetS_if, RetS_asg, RetS_par, RetS_put, RetS_nx, RetS_rt, Ret_dFn, Ret_dCons, Ret_dNil, Ret_dBin, Ret_dUn, Ret_dCall, Ret_dCallN, Ret_dC, Ret_dG, Ret_dVar, Ret_dIf, Ret_dFz, Ret_dNew, Ret_dLst, Ret_dTup, Ret_dB, Ret_dAndT, Ret_dOrT, Ret_dNotT, Ret_dAnd, Ret_dOr, Ret_dNot, Ret_dIsi, Ret_dChain, Ret_dGet, Ret_dD0, Ret_dNoP, Ret_dPt, Ret_dSlA, Ret_dMeth, Ret_dAny, Ret_dLenSet, Ret_dZip, Ret_dZipL, Ret_dKeys, Ret_dRng1, Ret_dRng2, Ret_dLc, wipeW, Ret_dDc, RetS_putL, Ret_dTupP, RetS_asgP, Ret_dSnd, Ret_dD1T, Ret_dListZip, RetS_augI, Ret_gcp, Ret_dItems, Ret_dSortSet, Ret_dFnK, RetS_for, Ret_ok, startW, List.map_cons, List.map_nil, List.length_cons, List.length_nil, List.cons_append, List.nil_append, List.replicate, Nat.sub_self, Nat.reduceSub, Nat.reduceAdd, List.getElem?_cons_zero, List.getElem?_cons_succ, List.set_cons_zero, List.set_cons_succ, Option.some.injEq, exists_eq_left', rd_d, on2_d, on1_d, c1_d, bOf_b, exists_eq_left, Option.map_some, Option.bind_some, W.d.injEq, Ret_gcd, List.take_length, dIx]
    show Ret (some (.ok true _)) _
    rw [Ret_ok, if_pos rfl]
    refine ⟨letL, rfl, (pick' hk i1 (by decide) (by decide)).mono ?_⟩
    rintro _ T2 ⟨⟨z, rfl, z0, z1⟩, i4⟩
    refine ⟨_, rfl, _, rfl, .tuple (letL.take (2 + z).toNat), ?_, i4, ls ++ [letL.take (2 + z).toNat], by simp, by simp [i2], fun l hl => ?_⟩
    · have := cut_hi letL (2 + z).toNat
      rw [show (((2 + z).toNat : Nat) : Int) = 2 + z by omega] at this
      exact congrArg (fun z => some (PyData.tuple z)) this
    · rcases List.mem_append.mp hl with hl | hl
      · exact i3 l hl
      · rw [List.mem_singleton] at hl
        subst hl
        have e : (letL.take (2 + z).toNat).length = (2 + z).toNat := by
          rw [List.length_take]; show min _ 5 = _; omega
        exact ⟨by omega, by omega, fun y hy => let_sh y (List.mem_of_mem_take hy)⟩
  rintro _ T2 ⟨h2, ls, rfl, l1, l2⟩
  rw [Nat.zero_add, hn2] at l1
  have lp : (ls.map PyData.tuple).length = n := by rw [List.length_map]; exact l1
  refine ⟨(ls.map PyData.tuple, none), rfl, ?_⟩
  refine (lc_inv (fun j acc T => Rdr (RdO ns) k S T ∧ ∃ fs : List Int, acc = fs.map PyData.int ∧ fs.length = j ∧ ∀ (i : Nat) (l : List PyData) (v : Int), ls[i]? = some l → fs[i]? = some v → 0 ≤ v ∧ v < (l.length : Int)) (ls.map PyData.tuple) 0 [] T2 ⟨h2, [], rfl, rfl, fun i l v _ h => by simp at h⟩ ?_).mono ?_
  · rintro j y acc T hy ⟨i1, fs, rfl, i2, i3⟩
    rw [Nat.zero_add] at i2
    rw [List.getElem?_map] at hy
    obtain ⟨l, hl1, rfl⟩ := Option.map_eq_some_iff.mp hy
    have hlm := l2 l (List.mem_of_getElem? hl1)
    refine ⟨_, rfl, ?_⟩
    simp only [RetS_cons, RetS_nil, RetS_set, RetS_drop, RetS_ret, RetS_if, RetS_asg, RetS_par, RetS_put, RetS_nx, RetS_rt, Ret_dFn, Ret_dCons, Ret_dNil, Ret_dBin, Ret_dUn, Ret_dCall, Ret_dCallN, Ret_dC, Ret_dG, Ret_dVar, Ret_dIf, Ret_dFz, Ret_dNew, Ret_dLst, Ret_dTup, Ret_dB, Ret_dAndT, Ret_dOrT, Ret_dNotT, Ret_dAnd, Ret_dOr, Ret_dNot, Ret_dIsi, Ret_dChain, Ret_dGet, Ret_dD0, Ret_dNoP, Ret_dPt, Ret_dSlA, Ret_dMeth, Ret_dAny, Ret_dLenSet, Ret_dZip, Ret_dZipL, Ret_dKeys, Ret_dRng1, Ret_dRng2, Ret_dLc, wipeW, Ret_dDc, RetS_putL, Ret_dTupP, RetS_asgP, Ret_dSnd, Ret_dD1T, Ret_dListZip, RetS_augI, Ret_gcp, Ret_dItems, Ret_dSortSet, Ret_dFnK, RetS_for, Ret_ok, startW, List.map_cons, List.map_nil, List.length_cons, List.length_nil, List.cons_append, List.nil_append, List.replicate, Nat.sub_self, Nat.reduceSub, Nat.reduceAdd, List.getElem?_cons_zero, List.getElem?_cons_succ, List.set_cons_zero, List.set_cons_succ, Option.some.injEq, exists_eq_left', rd_d, on2_d, on1_d, c1_d, bOf_b, exists_eq_left, Option.map_some, Option.bind_some, W.d.injEq, Ret_gcd, List.take_length, dIx]
    show Ret (some (.ok true _)) _
    rw [Ret_ok, if_pos rfl]
    refine ⟨.d (.int l.length), om (lenT l), (pick' hk i1 (by omega) (by omega)).mono ?_⟩
    rintro _ T3 ⟨⟨z, rfl, z0, z1⟩, i4⟩
    refine ⟨_, rfl, i4, fs ++ [z], by simp, by simp [i2], fun i l' v hl' hv => ?_⟩
    by_cases hi : i < fs.length
    · rw [List.getElem?_append_left hi] at hv; exact i3 i l' v hl' hv
    · have hi2 : i < (fs ++ [z]).length := (List.getElem?_eq_some_iff.mp hv).1
      have : i = fs.length := by simp at hi2; omega
      subst this
      simp at hv
      subst hv
      rw [i2, hl1] at hl'; cases hl'
      exact ⟨z0, z1⟩
  rintro _ T3 ⟨h3, fs, rfl, f1, f2⟩
  rw [Nat.zero_add, lp] at f1
  have eL3 := rdr_lenS h3
  have hf : InR ls fs := ⟨by omega, f2⟩
  refine ⟨_, om (lenL _), _, rfl, by omega, ?_⟩
  rw [List.length_map]
  refine (sel l2 hf rfl rfl (by decide) (by simp)).mono ?_
  rintro ws _ ⟨⟨w1, w2⟩, rfl⟩
  obtain ⟨q, q1, q2⟩ := sh_keys w2
  rw [show ws.length = n by omega] at q2
  have d0 : Rdr (RdO ns) k (S ++ [.dt []]) (withDt T3) := rdr_push hk (rdr0 h3) (.dt [])
  have d1 : Rdr (RdO ns) k (S ++ [.dt [(q, .bool true)]]) ((withDt T3).set (S.length + 0) (.dt [(q, .bool true)])) := rdr_set hk d0 0 (.dt [(q, .bool true)])
  refine ⟨_, rfl, ws, .bool true, q, rfl, rfl, q1, by simp [withDt], ?_⟩
  rw [eL3]
  rw [Nat.add_zero] at d1
  generalize (withDt T3).set S.length (.dt [(q, .bool true)]) = T4 at d1
  refine ⟨_, om (lenL _), _, rfl, by omega, ?_⟩
  rw [List.length_map]
  refine (lc_inv (fun j acc T => Rdr (RdO ns) k (S ++ [.dt [(q, .bool true)]]) T ∧ ∃ gs : List Int, acc = gs.map PyData.int ∧ gs.length = j ∧ ∀ (i : Nat) (l : List PyData) (v : Int), ls[i]? = some l → gs[i]? = some v → 0 ≤ v ∧ v < (l.length : Int)) (rng 0 ls.length) 0 [] T4 ⟨d1, [], rfl, rfl, fun i l v _ h => by simp at h⟩ ?_).mono ?_
  · rintro j y acc T hy ⟨i1, gs, rfl, i2, i3⟩
    rw [Nat.zero_add] at i2
    obtain ⟨rfl, hj⟩ := rng_at hy
    have hjl : j < ls.length := by omega
    have hjf : j < fs.length := by omega
    have hl1 : ls[j]? = some ls[j] := List.getElem?_eq_getElem hjl
    have hf1 : fs[j]? = some fs[j] := List.getElem?_eq_getElem hjf
    generalize ls[j] = l at hl1
    generalize fs[j] = v at hf1
    have hlm := l2 l (List.mem_of_getElem? hl1)
    refine ⟨_, rfl, ?_⟩
    simp only [RetS_cons, RetS_nil, RetS_set, RetS_drop, RetS_ret, RetS_if, RetS_asg, RetS_par, RetS_put, RetS_nx, RetS_rt, Ret_dFn, Ret_dCons, Ret_dNil, Ret_dBin, Ret_dUn, Ret_dCall, Ret_dCallN, Ret_dC, Ret_dG, Ret_dVar, Ret_dIf, Ret_dFz, Ret_dNew, Ret_dLst, Ret_dTup, Ret_dB, Ret_dAndT, Ret_dOrT, Ret_dNotT, Ret_dAnd, Ret_dOr, Ret_dNot, Ret_dIsi, Ret_dChain, Ret_dGet, Ret_dD0, Ret_dNoP, Ret_dPt, Ret_dSlA, Ret_dMeth, Ret_dAny, Ret_dLenSet, Ret_dZip, Ret_dZipL, Ret_dKeys, Ret_dRng1, Ret_dRng2, Ret_dLc, wipeW, Ret_dDc, RetS_putL, Ret_dTupP, RetS_asgP, Ret_dSnd, Ret_dD1T, Ret_dListZip, RetS_augI, Ret_gcp, Ret_dItems, Ret_dSortSet, Ret_dFnK, RetS_for, Ret_ok, startW, List.map_cons, List.map_nil, List.length_cons, List.length_nil, List.cons_append, List.nil_append, List.replicate, Nat.sub_self, Nat.reduceSub, Nat.reduceAdd, List.getElem?_cons_zero, List.getElem?_cons_succ, List.set_cons_zero, List.set_cons_succ, Option.some.injEq, exists_eq_left', rd_d, on2_d, on1_d, c1_d, bOf_b, exists_eq_left, Option.map_some, Option.bind_some, W.d.injEq, Ret_gcd, List.take_length, dIx]
    show Ret (some (.ok true _)) _
    rw [Ret_ok, if_pos rfl]
    refine ⟨_, om (at_map hf1 .list (.inl rfl)), _, rfl, _, om (at_map hl1 .list (.inl rfl)), .d (.int l.length), om (lenT l), .d (.int ((l.length : Int) - 1)), rfl, (rdr_pick hk i1 (by omega) (by omega)).mono ?_⟩
    rintro _ T5 ⟨⟨z, rfl, z0, z1⟩, i4⟩
    refine ⟨_, rfl, _, om (at_map hl1 .list (.inl rfl)), .d (.int l.length), om (lenT l), _, o2i (mod_of (by omega)), _, rfl, i4, gs ++ [(v + 1 + z) % (l.length : Int)], by simp, by simp [i2], fun i l' u hl' hv => ?_⟩
    by_cases hi : i < gs.length
    · rw [List.getElem?_append_left hi] at hv; exact i3 i l' u hl' hv
    · have hi2 : i < (gs ++ [(v + 1 + z) % (l.length : Int)]).length := (List.getElem?_eq_some_iff.mp hv).1
      have : i = gs.length := by simp at hi2; omega
      subst this
      simp at hv
      subst hv
      rw [i2, hl1] at hl'; cases hl'
      exact ⟨Int.emod_nonneg _ (by omega), Int.emod_lt_of_pos _ (by omega)⟩
  rintro _ T5 ⟨h5, gs, rfl, g1, g2⟩
  rw [Nat.zero_add, rng0_len, Int.toNat_natCast] at g1
  have hg : InR ls gs := ⟨g1, g2⟩
  refine ⟨_, om (lenL _), _, rfl, by omega, ?_⟩
  rw [List.length_map]
  refine (sel l2 hg rfl rfl (by decide) (by simp)).mono ?_
  rintro vs _ ⟨⟨v1, v2⟩, rfl⟩
  refine ⟨_, rfl, ?_⟩
  refine putT hk h5 (fun p hp => by rw [List.mem_singleton.mp hp]; exact q2) (by simp) v2 (by omega) fun kvs T6 h6 k1 k2 => ?_
  refine ⟨.d (.int 8), rfl, (rdr_pick hk h6 (by decide) (by decide)).mono ?_⟩
  rintro _ T7 ⟨⟨y, rfl, y0, y1⟩, h7⟩
  refine ⟨y, rfl, by omega, ?_⟩
  refine for_inv (fun j σ T => (∃ o9, σ = [some (.r k), some (.d (.int 4)), some (.d (.int 9)), some (.d (.tuple names)), some (.d (.list (ls.map PyData.tuple))), none, some (.d (.list (fs.map PyData.int))), none, some (.r S.length), o9, some (.d (.list (gs.map PyData.int)))]) ∧ ∃ kvs, Rdr (RdO ns) k (S ++ [.dt kvs]) T ∧ KOk n kvs ∧ kvs.length ≤ 2 + j) (rng 0 y) 0 _ _ ⟨⟨_, rfl⟩, kvs, h7, k1, k2⟩ ?_ ?_
  · rintro σ T ⟨⟨o9, rfl⟩, kvs, e1, e2, e3⟩
    rw [rng0_len] at e3
    have ea : T[S.length + 0]? = some (.dt kvs) := rdr_at hk e1 0
    rw [Nat.add_zero] at ea
    have kr := keysOf_row e2
    have hl : (keysOf kvs).length = kvs.length := by unfold keysOf; rw [List.length_map]
    refine ⟨_, rfl, _, rfl, srtD (keysOf kvs), ?_, _, rfl, _, rfl, ?_⟩
    · simp only [sortDG, dtW, ea, Option.bind_some]
      rw [if_pos (rows_sort (by omega) kr (by omega))]
    · refine ⟨⟨n, by omega, by omega, names, srtD (keysOf kvs), rfl, hn2, hn1, by rw [srt_len]; omega, fun r hr => kr r (srt_mem hr)⟩, by rw [eL]; exact rdr_take hk e1⟩
  · rintro j z σ T hz ⟨⟨o9, rfl⟩, kvs, e1, e2, e3⟩
    have hj : j < 7 := by have := (List.getElem?_eq_some_iff.mp hz).1; rw [rng0_len] at this; omega
    refine ⟨_, rfl, ?_⟩
    simp only [RetS_cons, RetS_nil, RetS_set, RetS_drop, RetS_ret, RetS_if, RetS_asg, RetS_par, RetS_put, RetS_nx, RetS_rt, Ret_dFn, Ret_dCons, Ret_dNil, Ret_dBin, Ret_dUn, Ret_dCall, Ret_dCallN, Ret_dC, Ret_dG, Ret_dVar, Ret_dIf, Ret_dFz, Ret_dNew, Ret_dLst, Ret_dTup, Ret_dB, Ret_dAndT, Ret_dOrT, Ret_dNotT, Ret_dAnd, Ret_dOr, Ret_dNot, Ret_dIsi, Ret_dChain, Ret_dGet, Ret_dD0, Ret_dNoP, Ret_dPt, Ret_dSlA, Ret_dMeth, Ret_dAny, Ret_dLenSet, Ret_dZip, Ret_dZipL, Ret_dKeys, Ret_dRng1, Ret_dRng2, Ret_dLc, wipeW, Ret_dDc, RetS_putL, Ret_dTupP, RetS_asgP, Ret_dSnd, Ret_dD1T, Ret_dListZip, RetS_augI, Ret_gcp, Ret_dItems, Ret_dSortSet, Ret_dFnK, RetS_for, Ret_ok, startW, List.map_cons, List.map_nil, List.length_cons, List.length_nil, List.cons_append, List.nil_append, List.replicate, Nat.sub_self, Nat.reduceSub, Nat.reduceAdd, List.getElem?_cons_zero, List.getElem?_cons_succ, List.set_cons_zero, List.set_cons_succ, Option.some.injEq, exists_eq_left', rd_d, on2_d, on1_d, c1_d, bOf_b, exists_eq_left, Option.map_some, Option.bind_some, W.d.injEq, Ret_gcd, List.take_length, dIx]
    refine ⟨(ls.map PyData.tuple, none), rfl, ?_⟩
    refine (lc_inv (fun j acc T => Rdr (RdO ns) k (S ++ [.dt kvs]) T ∧ acc.length = j ∧ ∀ y ∈ acc, Sh y) (ls.map PyData.tuple) 0 [] T ⟨e1, rfl, by simp⟩ ?_).mono ?_
    · rintro j u acc T hu ⟨f1, f2, f3⟩
      rw [List.getElem?_map] at hu
      obtain ⟨l, hl1, rfl⟩ := Option.map_eq_some_iff.mp hu
      have hlm := l2 l (List.mem_of_getElem? hl1)
      refine ⟨_, rfl, ?_⟩
      show Ret (some (.ok true _)) _
      rw [Ret_ok, if_pos rfl]
      simp only [RetS_cons, RetS_nil, RetS_set, RetS_drop, RetS_ret, RetS_if, RetS_asg, RetS_par, RetS_put, RetS_nx, RetS_rt, Ret_dFn, Ret_dCons, Ret_dNil, Ret_dBin, Ret_dUn, Ret_dCall, Ret_dCallN, Ret_dC, Ret_dG, Ret_dVar, Ret_dIf, Ret_dFz, Ret_dNew, Ret_dLst, Ret_dTup, Ret_dB, Ret_dAndT, Ret_dOrT, Ret_dNotT, Ret_dAnd, Ret_dOr, Ret_dNot, Ret_dIsi, Ret_dChain, Ret_dGet, Ret_dD0, Ret_dNoP, Ret_dPt, Ret_dSlA, Ret_dMeth, Ret_dAny, Ret_dLenSet, Ret_dZip, Ret_dZipL, Ret_dKeys, Ret_dRng1, Ret_dRng2, Ret_dLc, wipeW, Ret_dDc, RetS_putL, Ret_dTupP, RetS_asgP, Ret_dSnd, Ret_dD1T, Ret_dListZip, RetS_augI, Ret_gcp, Ret_dItems, Ret_dSortSet, Ret_dFnK, RetS_for, Ret_ok, startW, List.map_cons, List.map_nil, List.length_cons, List.length_nil, List.cons_append, List.nil_append, List.replicate, Nat.sub_self, Nat.reduceSub, Nat.reduceAdd, List.getElem?_cons_zero, List.getElem?_cons_succ, List.set_cons_zero, List.set_cons_succ, Option.some.injEq, exists_eq_left', rd_d, on2_d, on1_d, c1_d, bOf_b, exists_eq_left, Option.map_some, Option.bind_some, W.d.injEq, Ret_gcd, List.take_length, dIx]
      refine (any_ok (by rw [List.length_append]; omega) f1 (.inr rfl) (by omega) (by omega)).mono ?_
      rintro _ T8 ⟨⟨y, rfl, hy⟩, r1⟩
      refine ⟨y, rfl, r1, by simp [f2], fun z hz => ?_⟩
      rcases List.mem_append.mp hz with hz | hz
      · exact f3 z hz
      · rw [List.mem_singleton] at hz; subst hz; exact hlm.2.2 _ hy
    · rintro ws T8 ⟨f1, f2, f3⟩
      rw [Nat.zero_add, lp] at f2
      refine ⟨_, rfl, ?_⟩
      exact putT hk f1 e2 (by omega) f3 f2 fun kvs' T' r1 r2 r3 => ⟨⟨_, rfl⟩, kvs', r1, r2, by omega⟩
end
end LK33
end

section
/-! part LM33c -/
set_option Elab.async false
set_option linter.all false
set_option maxRecDepth 100000
set_option maxHeartbeats 1000000
/-! LM33c: pairs of a table; trees that are drawn. -/
open CL
open PySem PySem.Spec PyProof.Rows L2
namespace LK33
theorem once_len (ks : List (List Key)) : (onceKs ks).length ≤ ks.length := by
  have : ∀ (ks acc : List (List Key)), (ks.foldl onceK acc).length ≤ acc.length + ks.length := by
    intro ks
    induction ks with
    | nil => intro acc; exact Nat.le_refl _
    | cons k ks ih =>
      intro acc
      rw [List.foldl_cons]
      have h1 := ih (onceK acc k)
      have h2 : (onceK acc k).length ≤ acc.length + 1 := by
        unfold onceK
        split <;> simp
      rw [List.length_cons]; omega
  have := this ks []
  unfold onceKs
  simpa using this
theorem tups_rows : ∀ {xs : List PyData}, (∀ x ∈ xs, Row 2 x) → ∃ ks, tupsK xs = some ks ∧ ks.length = xs.length ∧ ∀ k ∈ ks, KRow 2 k
  | [], _ => ⟨[], rfl, rfl, fun k hk => nomatch hk⟩
  | x :: xs, h => by
    obtain ⟨ws, rfl, e, hw⟩ := h x List.mem_cons_self
    obtain ⟨q, g1, g2⟩ := sh_keys hw
    obtain ⟨ks, g3, g4, g5⟩ := tups_rows fun y hy => h y (List.mem_cons_of_mem _ hy)
    refine ⟨q :: ks, by simp [tupsK, g1, g3], by simp [g4], fun k hk => ?_⟩
    rcases List.mem_cons.mp hk with e2 | hk
    · subst e2; rw [e] at g2; exact g2
    · exact g5 k hk
theorem sortSet_ok {xs : List PyData} (h : ∀ x ∈ xs, Row 2 x) (hl : xs.length ≤ 60) : ∃ ys, sortSet xs = some ys ∧ (∀ y ∈ ys, Row 2 y) ∧ ys.length ≤ 60 := by
  obtain ⟨ks, k1, k2, k3⟩ := tups_rows h
  have hr : ∀ x ∈ (onceKs ks).map tupOf, Row 2 x := fun x hx => by
    obtain ⟨q, hq, rfl⟩ := List.mem_map.mp hx
    exact krow_d (k3 q ((onceKs_mem ks q).mp hq))
  have hlen := once_len ks
  have so := rows_sort (by decide) hr (by rw [List.length_map]; omega)
  refine ⟨srtD ((onceKs ks).map tupOf), ?_, fun y hy => hr y (srt_mem hy), by rw [srt_len, List.length_map]; omega⟩
  unfold sortSet
  rw [k1, Option.bind_some, so, decide_eq_true (show ks.length < 64 by omega)]
  rfl
theorem in_row_ok {n : Nat} {hs rs : List PyData} {c : PyData} (h1 : ∀ x ∈ hs, Sh x) (hl : hs.length = n) (hc : Row n c) (hn : n ≤ 4) (T : So) : f_l_in_row [.d (.tuple [.tuple hs, .tuple rs]), .d c] T = some (.ok (.d (.tuple (zipD hs (match c with | .tuple ws => ws | _ => [])))) T) := by
  obtain ⟨ws, rfl, e, hw⟩ := hc
  refine Ret.eq (Ret_fnB rfl ?_)
  unfold b_l_in_row
  simp only [RetS_cons, RetS_nil, RetS_set, RetS_drop, RetS_ret, RetS_if, RetS_asg, RetS_par, RetS_put, RetS_nx, RetS_rt, Ret_dFn, Ret_dCons, Ret_dNil, Ret_dBin, Ret_dUn, Ret_dCall, Ret_dCallN, Ret_dC, Ret_dG, Ret_dVar, Ret_dIf, Ret_dFz, Ret_dNew, Ret_dLst, Ret_dTup, Ret_dB, Ret_dAndT, Ret_dOrT, Ret_dNotT, Ret_dAnd, Ret_dOr, Ret_dNot, Ret_dIsi, Ret_dChain, Ret_dGet, Ret_dD0, Ret_dNoP, Ret_dPt, Ret_dSlA, Ret_dMeth, Ret_dAny, Ret_dLenSet, Ret_dZip, Ret_dZipL, Ret_dKeys, Ret_dRng1, Ret_dRng2, Ret_dLc, wipeW, Ret_dDc, RetS_putL, Ret_dTupP, RetS_asgP, Ret_dSnd, Ret_dD1T, Ret_dListZip, RetS_augI, Ret_gcp, Ret_dItems, Ret_dSortSet, Ret_dFnK, RetS_for, Ret_ok, startW, List.map_cons, List.map_nil, List.length_cons, List.length_nil, List.cons_append, List.nil_append, List.replicate, Nat.sub_self, Nat.reduceSub, Nat.reduceAdd, List.getElem?_cons_zero, List.getElem?_cons_succ, List.set_cons_zero, List.set_cons_succ, Option.some.injEq, exists_eq_left', rd_d, on2_d, on1_d, c1_d, bOf_b, exists_eq_left, Option.map_some, Option.bind_some, W.d.injEq, Ret_gcd, List.take_length, dIx]
  refine ⟨_, om at0, zipD hs ws, rfl, small_of (m := 1000) (by rw [zipD_len]; omega), _, rfl, ?_⟩
  rw [Ret_gcd]
  exact ⟨rfl, List.take_length⟩
theorem every_ok {n : Nat} {g : PyData} (hg : TB n g) (hn : n ≤ 4) (T0 : So) : Ret (f_l_every [.d g] T0) fun w T => (∃ ps, w = .d (.list ps) ∧ (∀ p ∈ ps, Row 2 p) ∧ ps.length ≤ 60) ∧ T = T0 := by
  obtain ⟨hs, rs, rfl, l1, h1, l2, h2⟩ := hg
  refine Ret_fnB rfl ?_
  unfold b_l_every
  simp only [RetS_cons, RetS_nil, RetS_set, RetS_drop, RetS_ret, RetS_if, RetS_asg, RetS_par, RetS_put, RetS_nx, RetS_rt, Ret_dFn, Ret_dCons, Ret_dNil, Ret_dBin, Ret_dUn, Ret_dCall, Ret_dCallN, Ret_dC, Ret_dG, Ret_dVar, Ret_dIf, Ret_dFz, Ret_dNew, Ret_dLst, Ret_dTup, Ret_dB, Ret_dAndT, Ret_dOrT, Ret_dNotT, Ret_dAnd, Ret_dOr, Ret_dNot, Ret_dIsi, Ret_dChain, Ret_dGet, Ret_dD0, Ret_dNoP, Ret_dPt, Ret_dSlA, Ret_dMeth, Ret_dAny, Ret_dLenSet, Ret_dZip, Ret_dZipL, Ret_dKeys, Ret_dRng1, Ret_dRng2, Ret_dLc, wipeW, Ret_dDc, RetS_putL, Ret_dTupP, RetS_asgP, Ret_dSnd, Ret_dD1T, Ret_dListZip, RetS_augI, Ret_gcp, Ret_dItems, Ret_dSortSet, Ret_dFnK, RetS_for, Ret_ok, startW, List.map_cons, List.map_nil, List.length_cons, List.length_nil, List.cons_append, List.nil_append, List.replicate, Nat.sub_self, Nat.reduceSub, Nat.reduceAdd, List.getElem?_cons_zero, List.getElem?_cons_succ, List.set_cons_zero, List.set_cons_succ, Option.some.injEq, exists_eq_left', rd_d, on2_d, on1_d, c1_d, bOf_b, exists_eq_left, Option.map_some, Option.bind_some, W.d.injEq, Ret_gcd, List.take_length, dIx]
  refine ⟨[], rfl, _, om at1, (rs, none), rfl, ?_⟩
  refine for_inv (fun j σ T => (∃ o, σ = [some (.d (.tuple [.tuple hs, .tuple rs])), some (.r T0.length), o]) ∧ ∃ xs, T = T0 ++ [.lst xs] ∧ (∀ x ∈ xs, Row 2 x) ∧ xs.length ≤ 4 * j) rs 0 _ _ ⟨⟨_, rfl⟩, [], rfl, (fun q hq => nomatch hq), Nat.le_refl _⟩ ?_ ?_
  · rintro σ T ⟨⟨o, rfl⟩, xs, rfl, k1, k2⟩
    obtain ⟨ys, y1, y2, y3⟩ := sortSet_ok k1 (by omega)
    refine ⟨_, rfl, xs, by simp only [lstW, rd, last_at, Option.bind_some], ys, y1, ?_⟩
    refine ⟨⟨_, rfl, y2, y3⟩, ?_⟩
    rw [List.take_append_of_le_length (Nat.le_refl _), List.take_length]
  · rintro j r σ T hr ⟨⟨o, rfl⟩, xs, rfl, k1, k2⟩
    have hrm := h2 r (List.mem_of_getElem? hr)
    have hj := (List.getElem?_eq_some_iff.mp hr).1
    refine ⟨_, rfl, ?_⟩
    simp only [RetS_cons, RetS_nil, RetS_set, RetS_drop, RetS_ret, RetS_if, RetS_asg, RetS_par, RetS_put, RetS_nx, RetS_rt, Ret_dFn, Ret_dCons, Ret_dNil, Ret_dBin, Ret_dUn, Ret_dCall, Ret_dCallN, Ret_dC, Ret_dG, Ret_dVar, Ret_dIf, Ret_dFz, Ret_dNew, Ret_dLst, Ret_dTup, Ret_dB, Ret_dAndT, Ret_dOrT, Ret_dNotT, Ret_dAnd, Ret_dOr, Ret_dNot, Ret_dIsi, Ret_dChain, Ret_dGet, Ret_dD0, Ret_dNoP, Ret_dPt, Ret_dSlA, Ret_dMeth, Ret_dAny, Ret_dLenSet, Ret_dZip, Ret_dZipL, Ret_dKeys, Ret_dRng1, Ret_dRng2, Ret_dLc, wipeW, Ret_dDc, RetS_putL, Ret_dTupP, RetS_asgP, Ret_dSnd, Ret_dD1T, Ret_dListZip, RetS_augI, Ret_gcp, Ret_dItems, Ret_dSortSet, Ret_dFnK, RetS_for, Ret_ok, startW, List.map_cons, List.map_nil, List.length_cons, List.length_nil, List.cons_append, List.nil_append, List.replicate, Nat.sub_self, Nat.reduceSub, Nat.reduceAdd, List.getElem?_cons_zero, List.getElem?_cons_succ, List.set_cons_zero, List.set_cons_succ, Option.some.injEq, exists_eq_left', rd_d, on2_d, on1_d, c1_d, bOf_b, exists_eq_left, Option.map_some, Option.bind_some, W.d.injEq, Ret_gcd, List.take_length, dIx]
    refine ⟨by simp only [tyM, last_at]; rfl, ?_⟩
    rw [in_row_ok h1 l1 hrm hn, Ret_ok]
    obtain ⟨ws, rfl, e, hw⟩ := hrm
    have zl : (zipD hs ws).length ≤ 4 := by rw [zipD_len]; omega
    refine ⟨.d .none, T0 ++ [.lst (xs ++ zipD hs ws)], ?_, ⟨_, rfl⟩, _, rfl, fun x hx => ?_, by rw [List.length_append]; omega⟩
    · simp only [gExt, last_at, seqD, rd, Option.bind_some]
      rw [if_pos (small_of (m := 10000) (by omega)), last_set]
    · rcases List.mem_append.mp hx with hx | hx
      · exact k1 x hx
      · exact zip_rows h1 hw x hx
theorem eq_sh {x y : PyData} (hx : Sh x) (hy : Sh y) : ∃ b, eqP x y = some (.bool b) := by
  unfold eqP
  rw [(sh_gd hx).okD (by decide), (sh_gd hy).okD (by decide)]
  exact ⟨_, rfl⟩
theorem lot_ok {n : Nat} {g item : PyData} (hg : TB n g) (hn : n ≤ 4) (hi : Sh item) (T0 : So) : Ret (f_l_lot [.d g, .d item] T0) fun w T => (∃ ys, w = .d (.list ys) ∧ (∀ y ∈ ys, Sh y) ∧ ys.length ≤ 60) ∧ T = T0 := by
  refine Ret_fnB rfl ?_
  unfold b_l_lot
  simp only [RetS_cons, RetS_nil, RetS_set, RetS_drop, RetS_ret, RetS_if, RetS_asg, RetS_par, RetS_put, RetS_nx, RetS_rt, Ret_dFn, Ret_dCons, Ret_dNil, Ret_dBin, Ret_dUn, Ret_dCall, Ret_dCallN, Ret_dC, Ret_dG, Ret_dVar, Ret_dIf, Ret_dFz, Ret_dNew, Ret_dLst, Ret_dTup, Ret_dB, Ret_dAndT, Ret_dOrT, Ret_dNotT, Ret_dAnd, Ret_dOr, Ret_dNot, Ret_dIsi, Ret_dChain, Ret_dGet, Ret_dD0, Ret_dNoP, Ret_dPt, Ret_dSlA, Ret_dMeth, Ret_dAny, Ret_dLenSet, Ret_dZip, Ret_dZipL, Ret_dKeys, Ret_dRng1, Ret_dRng2, Ret_dLc, wipeW, Ret_dDc, RetS_putL, Ret_dTupP, RetS_asgP, Ret_dSnd, Ret_dD1T, Ret_dListZip, RetS_augI, Ret_gcp, Ret_dItems, Ret_dSortSet, Ret_dFnK, RetS_for, Ret_ok, startW, List.map_cons, List.map_nil, List.length_cons, List.length_nil, List.cons_append, List.nil_append, List.replicate, Nat.sub_self, Nat.reduceSub, Nat.reduceAdd, List.getElem?_cons_zero, List.getElem?_cons_succ, List.set_cons_zero, List.set_cons_succ, Option.some.injEq, exists_eq_left', rd_d, on2_d, on1_d, c1_d, bOf_b, exists_eq_left, Option.map_some, Option.bind_some, W.d.injEq, Ret_gcd, List.take_length, dIx]
  refine (every_ok hg hn T0).mono ?_
  rintro _ _ ⟨⟨ps, rfl, p1, p2⟩, rfl⟩
  refine ⟨(ps, none), rfl, ?_⟩
  rename_i T
  refine (lc_inv (fun j acc T' => T' = T ∧ acc.length ≤ j ∧ ∀ y ∈ acc, Sh y) ps 0 [] T ⟨rfl, Nat.le_refl _, by simp⟩ ?_).mono ?_
  · rintro j y acc T' hy ⟨rfl, a1, a2⟩
    obtain ⟨ws, rfl, wl, wm⟩ := p1 y (List.mem_of_getElem? hy)
    obtain ⟨a, b, rfl⟩ : ∃ a b, ws = [a, b] := by
      match ws, wl with
      | [a, b], _ => exact ⟨a, b, rfl⟩
    refine ⟨_, rfl, ?_⟩
    simp only [RetS_cons, RetS_nil, RetS_set, RetS_drop, RetS_ret, RetS_if, RetS_asg, RetS_par, RetS_put, RetS_nx, RetS_rt, Ret_dFn, Ret_dCons, Ret_dNil, Ret_dBin, Ret_dUn, Ret_dCall, Ret_dCallN, Ret_dC, Ret_dG, Ret_dVar, Ret_dIf, Ret_dFz, Ret_dNew, Ret_dLst, Ret_dTup, Ret_dB, Ret_dAndT, Ret_dOrT, Ret_dNotT, Ret_dAnd, Ret_dOr, Ret_dNot, Ret_dIsi, Ret_dChain, Ret_dGet, Ret_dD0, Ret_dNoP, Ret_dPt, Ret_dSlA, Ret_dMeth, Ret_dAny, Ret_dLenSet, Ret_dZip, Ret_dZipL, Ret_dKeys, Ret_dRng1, Ret_dRng2, Ret_dLc, wipeW, Ret_dDc, RetS_putL, Ret_dTupP, RetS_asgP, Ret_dSnd, Ret_dD1T, Ret_dListZip, RetS_augI, Ret_gcp, Ret_dItems, Ret_dSortSet, Ret_dFnK, RetS_for, Ret_ok, startW, List.map_cons, List.map_nil, List.length_cons, List.length_nil, List.cons_append, List.nil_append, List.replicate, Nat.sub_self, Nat.reduceSub, Nat.reduceAdd, List.getElem?_cons_zero, List.getElem?_cons_succ, List.set_cons_zero, List.set_cons_succ, Option.some.injEq, exists_eq_left', rd_d, on2_d, on1_d, c1_d, bOf_b, exists_eq_left, Option.map_some, Option.bind_some, W.d.injEq, Ret_gcd, List.take_length, dIx]
    obtain ⟨c, hc⟩ := eq_sh (wm a (by simp)) hi
    refine ⟨_, om at0, _, om hc, _, rfl, ?_⟩
    split
    · refine ⟨_, om at1, b, rfl, trivial, by simp; omega, fun z hz => ?_⟩
      rcases List.mem_append.mp hz with hz | hz
      · exact a2 z hz
      · rw [List.mem_singleton] at hz; subst hz; exact wm _ (by simp)
    · exact ⟨trivial, by omega, a2⟩
  · rintro ys T' ⟨rfl, a1, a2⟩
    exact ⟨⟨ys, rfl, a2, by omega⟩, List.take_length⟩
section
variable {S T0 : So} {k : Nat} {ns : List Int} (hk : k < S.length)
include hk
theorem some_ok (h : Rdr (RdO ns) k S T0) {ys : List PyData} (h1 : ∀ y ∈ ys, Sh y) (h2 : ys.length ≤ 60) : Ret (f_l_some [.r k, .d (.list ys), .d (.int 2)] T0) fun w T => (∃ zs, w = .d (.tuple zs) ∧ (∀ y ∈ zs, Sh y) ∧ zs.length ≤ 60) ∧ Rdr (RdO ns) k S T := by
  refine Ret_fnB rfl ?_
  unfold b_l_some
  simp only [RetS_cons, RetS_nil, RetS_set, RetS_drop, RetS_ret, RetS_if, RetS_asg, RetS_par, RetS_put, RetS_nx, RetS_rt, Ret_dFn, Ret_dCons, Ret_dNil, Ret_dBin, Ret_dUn, Ret_dCall, Ret_dCallN, Ret_dC, Ret_dG, Ret_dVar, Ret_dIf, Ret_dFz, Ret_dNew, Ret_dLst, Ret_dTup, Ret_dB, Ret_dAndT, Ret_dOrT, Ret_dNotT, Ret_dAnd, Ret_dOr, Ret_dNot, Ret_dIsi, Ret_dChain, Ret_dGet, Ret_dD0, Ret_dNoP, Ret_dPt, Ret_dSlA, Ret_dMeth, Ret_dAny, Ret_dLenSet, Ret_dZip, Ret_dZipL, Ret_dKeys, Ret_dRng1, Ret_dRng2, Ret_dLc, wipeW, Ret_dDc, RetS_putL, Ret_dTupP, RetS_asgP, Ret_dSnd, Ret_dD1T, Ret_dListZip, RetS_augI, Ret_gcp, Ret_dItems, Ret_dSortSet, Ret_dFnK, RetS_for, Ret_ok, startW, List.map_cons, List.map_nil, List.length_cons, List.length_nil, List.cons_append, List.nil_append, List.replicate, Nat.sub_self, Nat.reduceSub, Nat.reduceAdd, List.getElem?_cons_zero, List.getElem?_cons_succ, List.set_cons_zero, List.set_cons_succ, Option.some.injEq, exists_eq_left', rd_d, on2_d, on1_d, c1_d, bOf_b, exists_eq_left, Option.map_some, Option.bind_some, W.d.injEq, Ret_gcd, List.take_length, dIx]
  refine ⟨(ys, none), rfl, ?_⟩
  refine (lc_inv (fun j acc T => Rdr (RdO ns) k S T ∧ acc.length ≤ j ∧ ∀ y ∈ acc, Sh y) ys 0 [] T0 ⟨h, Nat.le_refl _, by simp⟩ ?_).mono ?_
  · rintro j y acc T hy ⟨i1, a1, a2⟩
    have hym := h1 y (List.mem_of_getElem? hy)
    refine ⟨_, rfl, ?_⟩
    simp only [RetS_cons, RetS_nil, RetS_set, RetS_drop, RetS_ret, RetS_if, RetS_asg, RetS_par, RetS_put, RetS_nx, RetS_rt, Ret_dFn, Ret_dCons, Ret_dNil, Ret_dBin, Ret_dUn, Ret_dCall, Ret_dCallN, Ret_dC, Ret_dG, Ret_dVar, Ret_dIf, Ret_dFz, Ret_dNew, Ret_dLst, Ret_dTup, Ret_dB, Ret_dAndT, Ret_dOrT, Ret_dNotT, Ret_dAnd, Ret_dOr, Ret_dNot, Ret_dIsi, Ret_dChain, Ret_dGet, Ret_dD0, Ret_dNoP, Ret_dPt, Ret_dSlA, Ret_dMeth, Ret_dAny, Ret_dLenSet, Ret_dZip, Ret_dZipL, Ret_dKeys, Ret_dRng1, Ret_dRng2, Ret_dLc, wipeW, Ret_dDc, RetS_putL, Ret_dTupP, RetS_asgP, Ret_dSnd, Ret_dD1T, Ret_dListZip, RetS_augI, Ret_gcp, Ret_dItems, Ret_dSortSet, Ret_dFnK, RetS_for, Ret_ok, startW, List.map_cons, List.map_nil, List.length_cons, List.length_nil, List.cons_append, List.nil_append, List.replicate, Nat.sub_self, Nat.reduceSub, Nat.reduceAdd, List.getElem?_cons_zero, List.getElem?_cons_succ, List.set_cons_zero, List.set_cons_succ, Option.some.injEq, exists_eq_left', rd_d, on2_d, on1_d, c1_d, bOf_b, exists_eq_left, Option.map_some, Option.bind_some, W.d.injEq, Ret_gcd, List.take_length, dIx]
    refine (pick' hk i1 (by decide) (by decide)).mono ?_
    rintro _ T2 ⟨⟨z, rfl, z0, z1⟩, i4⟩
    refine ⟨_, o2 (eq_int _ _), _, rfl, ?_⟩
    split
    · refine ⟨i4, by simp; omega, fun z hz => ?_⟩
      rcases List.mem_append.mp hz with hz | hz
      · exact a2 z hz
      · rw [List.mem_singleton] at hz; subst hz; exact hym
    · exact ⟨i4, by omega, a2⟩
  · rintro zs T ⟨i1, a1, a2⟩
    refine ⟨_, rfl, ?_⟩
    rw [Ret_gcd, rdr_takeS i1 h]
    exact ⟨⟨zs, rfl, a2, by omega⟩, i1⟩
end
/-! ### trees -/
inductive Tr where
  | stop
  | say (w : Str) (t : Tr)
  | ask (i : Str) (c : List Str) (y n : Tr)
def sts (ws : List Str) : List PyData := ws.map PyData.str
def Tr.d : Tr → PyData
  | .stop => .tuple [.str "stop"]
  | .say w t => .tuple [.str "say", .str w, t.d]
  | .ask i c y n => .tuple [.str "ask", .str i, .tuple (sts c), y.d, n.d]
def Tr.size : Tr → Nat
  | .stop => 1
  | .say _ t => 1 + t.size
  | .ask _ _ y n => 1 + y.size + n.size
/-- short words -/
def Sw (z : Str) : Prop := z.length ≤ 8 ∧ signOk z = true
def Tr.ok : Tr → Prop
  | .stop => True
  | .say w t => Sw w ∧ t.ok
  | .ask i c y n => Sw i ∧ (∀ z ∈ c, Sw z) ∧ c.length ≤ 60 ∧ y.ok ∧ n.ok
theorem sh_sw {y : PyData} (h : Sh y) : ∃ z, y = .str z ∧ Sw z := by obtain ⟨z, e, h1, h2⟩ := h; exact ⟨z, e, h1, h2⟩
theorem shs_strs : ∀ {ys : List PyData}, (∀ y ∈ ys, Sh y) → ∃ zs, ys = sts zs ∧ ∀ z ∈ zs, Sw z
  | [], _ => ⟨[], rfl, by simp⟩
  | y :: ys, h => by
    obtain ⟨z, rfl, h1⟩ := sh_sw (h y List.mem_cons_self)
    obtain ⟨zs, rfl, h2⟩ := shs_strs fun x hx => h x (List.mem_cons_of_mem _ hx)
    exact ⟨z :: zs, rfl, fun x hx => by rcases List.mem_cons.mp hx with rfl | hx; exact h1; exact h2 x hx⟩
theorem strs_len (zs : List Str) : (sts zs).length = zs.length := by simp [sts]
def sayL : List PyData := [.str "hi", .str "low", .str "no", .str "so"]
theorem say_sh : ∀ y ∈ sayL, Sh y := fun y hy => sh_of (List.all_eq_true.mp (show sayL.all shB = true by decide +kernel) y hy)
theorem ltPi (a b : Int) : CL.ltP (.int a) (.int b) = some (.bool (decide (a < b))) := ltP_of (cmp_int a b)
theorem tree_ok {S : So} {k : Nat} {ns : List Int} (hk : k < S.length) {n : Nat} {g : PyData} (hg : TB n g) (hn : n ≤ 4) (hn1 : 1 ≤ n) : ∀ (f : Nat) (m : Int) (T0 : So), m < f → 1 ≤ m → m ≤ 12 → Rdr (RdO ns) k S T0 →
    Ret (f_l_tree f [.r k, .d g, .d (.int m)] T0) fun w T => (∃ t : Tr, w = .d t.d ∧ t.ok ∧ (t.size : Int) ≤ m) ∧ Rdr (RdO ns) k S T
  | 0, m, T0, h, h1, _, _ => by omega
  | f + 1, m, T0, hf, h1, h2, hr => by
    obtain ⟨hs, rs, rfl, l1, s1, l2, s2⟩ := id hg
    refine Ret_fnB rfl ?_
    unfold b_l_tree
    simp only [RetS_cons, RetS_nil, RetS_set, RetS_drop, RetS_ret, RetS_if, RetS_asg, RetS_par, RetS_put, RetS_nx, RetS_rt, Ret_dFn, Ret_dCons, Ret_dNil, Ret_dBin, Ret_dUn, Ret_dCall, Ret_dCallN, Ret_dC, Ret_dG, Ret_dVar, Ret_dIf, Ret_dFz, Ret_dNew, Ret_dLst, Ret_dTup, Ret_dB, Ret_dAndT, Ret_dOrT, Ret_dNotT, Ret_dAnd, Ret_dOr, Ret_dNot, Ret_dIsi, Ret_dChain, Ret_dGet, Ret_dD0, Ret_dNoP, Ret_dPt, Ret_dSlA, Ret_dMeth, Ret_dAny, Ret_dLenSet, Ret_dZip, Ret_dZipL, Ret_dKeys, Ret_dRng1, Ret_dRng2, Ret_dLc, wipeW, Ret_dDc, RetS_putL, Ret_dTupP, RetS_asgP, Ret_dSnd, Ret_dD1T, Ret_dListZip, RetS_augI, Ret_gcp, Ret_dItems, Ret_dSortSet, Ret_dFnK, RetS_for, Ret_ok, startW, List.map_cons, List.map_nil, List.length_cons, List.length_nil, List.cons_append, List.nil_append, List.replicate, Nat.sub_self, Nat.reduceSub, Nat.reduceAdd, List.getElem?_cons_zero, List.getElem?_cons_succ, List.set_cons_zero, List.set_cons_succ, Option.some.injEq, exists_eq_left', rd_d, on2_d, on1_d, c1_d, bOf_b, exists_eq_left, Option.map_some, Option.bind_some, W.d.injEq, Ret_gcd, List.take_length, dIx]
    refine (pick' hk hr (by decide) (by decide)).mono ?_
    rintro _ T1 ⟨⟨x, rfl, x0, x1⟩, r1⟩
    refine ⟨_, om (ltPi _ _), _, rfl, ?_⟩
    have stopE : ∀ {T : So}, Rdr (RdO ns) k S T → (∃ t : Tr, PyData.tuple [.str "stop"] = t.d ∧ t.ok ∧ (t.size : Int) ≤ m) ∧ Rdr (RdO ns) k S (T.take T0.length) := fun {T} r => by
      rw [rdr_takeS r hr]
      exact ⟨⟨.stop, rfl, trivial, by simp [Tr.size]; omega⟩, r⟩
    by_cases hm2 : m < 2
    · rw [decide_eq_true hm2, if_pos rfl, if_pos trivial]
      exact ⟨_, rfl, stopE r1⟩
    · rw [decide_eq_false hm2, if_neg (by decide)]
      refine ⟨_, o2 (eq_int _ _), _, rfl, ?_⟩
      split
      · exact ⟨_, rfl, stopE r1⟩
      · have saysE : Ret (f_l_any [.r k, .d (.list sayL)] T1) fun x S1 => ∃ w, Option.map W.d (subP (.int m) (.int 1)) = some w ∧ Ret (f_l_tree f [.r k, .d (.tuple [.tuple hs, .tuple rs]), w] S1) fun x_1 S1 => ∃ xs, datz [.d (.str "say"), x, x_1] = some xs ∧ (∃ t : Tr, PyData.tuple xs = t.d ∧ t.ok ∧ (t.size : Int) ≤ m) ∧ Rdr (RdO ns) k S (List.take T0.length S1) := by
          refine (any_ok hk r1 (.inl rfl) (by decide) (by decide)).mono ?_
          rintro _ T2 ⟨⟨y, rfl, hy⟩, r2⟩
          refine ⟨.d (.int (m - 1)), rfl, (tree_ok hk hg hn hn1 f (m - 1) T2 (by omega) (by omega) (by omega) r2).mono ?_⟩
          rintro _ T3 ⟨⟨t, rfl, t1, t2⟩, r3⟩
          obtain ⟨z, rfl, hz⟩ := sh_sw (say_sh y hy)
          refine ⟨_, rfl, ?_⟩
          rw [rdr_takeS r3 hr]
          exact ⟨⟨.say z t, rfl, ⟨hz, t1⟩, by simp [Tr.size]; omega⟩, r3⟩
        refine ⟨_, o2 (eq_int _ _), _, rfl, ?_⟩
        by_cases hx1 : x = 1
        · rw [decide_eq_true hx1, if_pos rfl, if_pos trivial]
          exact ⟨sayL, rfl, saysE⟩
        · rw [decide_eq_false hx1, if_neg (by decide)]
          refine ⟨_, om (ltPi _ _), _, rfl, ?_⟩
          by_cases hm3 : m < 3
          · rw [decide_eq_true hm3, if_pos rfl]
            exact ⟨sayL, rfl, saysE⟩
          · rw [decide_eq_false hm3, if_neg (by decide)]
            refine ⟨_, om at0, hs, rfl, (any_ok hk r1 (.inl rfl) (by omega) (by omega)).mono ?_⟩
            rintro _ T2 ⟨⟨it, rfl, hit⟩, r2⟩
            refine (lot_ok hg hn (s1 it hit) T2).mono ?_
            rintro _ _ ⟨⟨ys, rfl, y1, y2⟩, rfl⟩
            refine (some_ok hk r2 y1 y2).mono ?_
            rintro _ T3 ⟨⟨zs, rfl, z1, z2⟩, r3⟩
            refine ⟨.d (.int (m - 2)), rfl, (pick' hk r3 (by omega) (by omega)).mono ?_⟩
            rintro _ T4 ⟨⟨u, rfl, u0, u1⟩, r4⟩
            refine ⟨.d (.int (1 + u)), rfl, (tree_ok hk hg hn hn1 f (1 + u) T4 (by omega) (by omega) (by omega) r4).mono ?_⟩
            rintro _ T5 ⟨⟨ty, rfl, ty1, ty2⟩, r5⟩
            refine ⟨.d (.int (m - 1)), rfl, .d (.int (m - 1 - (1 + u))), rfl, (tree_ok hk hg hn hn1 f (m - 1 - (1 + u)) T5 (by omega) (by omega) (by omega) r5).mono ?_⟩
            rintro _ T6 ⟨⟨tn, rfl, tn1, tn2⟩, r6⟩
            obtain ⟨z, rfl, hz⟩ := sh_sw (s1 it hit)
            obtain ⟨cs, rfl, hcs⟩ := shs_strs z1
            rw [strs_len] at z2
            refine ⟨_, rfl, _, rfl, _, rfl, _, rfl, _, rfl, _, rfl, ?_⟩
            rw [rdr_takeS r6 hr]
            exact ⟨⟨.ask z cs ty tn, rfl, ⟨hz, hcs, z2, ty1, tn1⟩, by simp [Tr.size]; omega⟩, r6⟩
end LK33
end

section
/-! part LM33d -/
set_option Elab.async false
set_option linter.all false
set_option maxRecDepth 100000
set_option maxHeartbeats 1000000
/-! LM33d: what is spoken; ways and paths. -/
open CL
open PySem PySem.Spec PyProof.Rows L2
namespace LK33
theorem okD_str {z : Str} (h : signOk z = true) : okD (.str z) = true := by
  have : Gd z.length 0 (.str z) := ⟨by simpa [okd] using h, by simp [PyData.bulk, Str.length], by simp [PyData.depth]⟩
  exact this.okD (by decide)
theorem eqS {a b : Str} (ha : signOk a = true) (hb : signOk b = true) : eqP (.str a) (.str b) = some (.bool (decide (a = b))) := by
  unfold eqP
  rw [okD_str ha, okD_str hb]
  simp only [Bool.and_self, if_true, PyData.eqv]
  by_cases h : a = b
  · subst h; simp
  · simp [h]
theorem eqSb {a b : Str} {c : Bool} (ha : signOk a = true := by decide +kernel) (hb : signOk b = true := by decide +kernel) (h : decide (a = b) = c := by decide +kernel) : eqP (.str a) (.str b) = some (.bool c) := (eqS ha hb).trans (by rw [h])
def Tr.sp : Tr → List Str × Tr
  | .stop => ([], .stop)
  | .say w t => (w :: t.sp.1, t.sp.2)
  | .ask i c y n => ([], .ask i c y n)
def Tr.isSay : Tr → Bool
  | .say _ _ => true
  | _ => false
def Tr.isStop : Tr → Bool
  | .stop => true
  | _ => false
theorem at_t (t : Tr) : ∃ z, atP t.d (.int 0) = some (.str z) ∧ eqP (.str z) (.str "say") = some (.bool t.isSay) ∧ eqP (.str z) (.str "stop") = some (.bool t.isStop) := by
  cases t with
  | stop => exact ⟨"stop", rfl, eqSb (c := false), eqSb (c := true)⟩
  | say w t => exact ⟨"say", rfl, eqSb (c := true), eqSb (c := false)⟩
  | ask i c y n => exact ⟨"ask", rfl, eqSb (c := false), eqSb (c := false)⟩
theorem spoken_ok (t : Tr) (ht : t.size < 40) (T : So) : f_spoken [.d t.d] T = some (.ok (.p T.length t.sp.2.d) (T ++ [.lst (sts t.sp.1)])) := by
  refine Ret.eq (Ret_fnB rfl ?_)
  unfold b_spoken
  simp only [RetS_cons, RetS_nil, RetS_set, RetS_drop, RetS_ret, RetS_if, RetS_asg, RetS_par, RetS_put, RetS_nx, RetS_rt, Ret_dFn, Ret_dCons, Ret_dNil, Ret_dBin, Ret_dUn, Ret_dCall, Ret_dCallN, Ret_dC, Ret_dG, Ret_dVar, Ret_dIf, Ret_dFz, Ret_dNew, Ret_dLst, Ret_dTup, Ret_dB, Ret_dAndT, Ret_dOrT, Ret_dNotT, Ret_dAnd, Ret_dOr, Ret_dNot, Ret_dIsi, Ret_dChain, Ret_dGet, Ret_dD0, Ret_dNoP, Ret_dPt, Ret_dSlA, Ret_dMeth, Ret_dAny, Ret_dLenSet, Ret_dZip, Ret_dZipL, Ret_dKeys, Ret_dRng1, Ret_dRng2, Ret_dLc, wipeW, Ret_dDc, RetS_putL, Ret_dTupP, RetS_asgP, Ret_dSnd, Ret_dD1T, Ret_dListZip, RetS_augI, Ret_gcp, Ret_dItems, Ret_dSortSet, Ret_dFnK, RetS_for, Ret_ok, startW, List.map_cons, List.map_nil, List.length_cons, List.length_nil, List.cons_append, List.nil_append, List.replicate, Nat.sub_self, Nat.reduceSub, Nat.reduceAdd, List.getElem?_cons_zero, List.getElem?_cons_succ, List.set_cons_zero, List.set_cons_succ, Option.some.injEq, exists_eq_left', rd_d, on2_d, on1_d, c1_d, bOf_b, exists_eq_left, Option.map_some, Option.bind_some, W.d.injEq, Ret_gcd, List.take_length, dIx]
  refine ⟨[], rfl, _, rfl, ?_⟩
  refine wh_inv (fun m σ T' => ∃ (u : Tr) (pre : List Str), σ = [some (.d t.d), some (.r T.length), some (.d u.d)] ∧ T' = T ++ [.lst (sts pre)] ∧ u.size = m ∧ pre.length + m ≤ t.size ∧ (pre ++ u.sp.1, u.sp.2) = t.sp) 40 t.size _ _ ⟨t, [], rfl, rfl, rfl, by simp, rfl⟩ ht ?_
  rintro m σ T' ⟨u, pre, rfl, rfl, hu, hm, hsp⟩
  simp only [RetS_cons, RetS_nil, RetS_set, RetS_drop, RetS_ret, RetS_if, RetS_asg, RetS_par, RetS_put, RetS_nx, RetS_rt, Ret_dFn, Ret_dCons, Ret_dNil, Ret_dBin, Ret_dUn, Ret_dCall, Ret_dCallN, Ret_dC, Ret_dG, Ret_dVar, Ret_dIf, Ret_dFz, Ret_dNew, Ret_dLst, Ret_dTup, Ret_dB, Ret_dAndT, Ret_dOrT, Ret_dNotT, Ret_dAnd, Ret_dOr, Ret_dNot, Ret_dIsi, Ret_dChain, Ret_dGet, Ret_dD0, Ret_dNoP, Ret_dPt, Ret_dSlA, Ret_dMeth, Ret_dAny, Ret_dLenSet, Ret_dZip, Ret_dZipL, Ret_dKeys, Ret_dRng1, Ret_dRng2, Ret_dLc, wipeW, Ret_dDc, RetS_putL, Ret_dTupP, RetS_asgP, Ret_dSnd, Ret_dD1T, Ret_dListZip, RetS_augI, Ret_gcp, Ret_dItems, Ret_dSortSet, Ret_dFnK, RetS_for, Ret_ok, startW, List.map_cons, List.map_nil, List.length_cons, List.length_nil, List.cons_append, List.nil_append, List.replicate, Nat.sub_self, Nat.reduceSub, Nat.reduceAdd, List.getElem?_cons_zero, List.getElem?_cons_succ, List.set_cons_zero, List.set_cons_succ, Option.some.injEq, exists_eq_left', rd_d, on2_d, on1_d, c1_d, bOf_b, exists_eq_left, Option.map_some, Option.bind_some, W.d.injEq, Ret_gcd, List.take_length, dIx]
  obtain ⟨z, h1, h2, h3⟩ := at_t u
  refine ⟨_, om h1, _, om h2, _, rfl, ?_⟩
  have fin : u.sp = ([], u) → ∃ n x, [W.r T.length, W.d u.d] = [W.r n, W.d x] ∧ if n < T.length then W.p n x = W.p T.length t.sp.2.d ∧ List.take T.length (T ++ [O.lst (sts pre)]) = T ++ [O.lst (sts t.sp.1)] else ∃ o, (T ++ [O.lst (sts pre)])[n]? = some o ∧ W.p T.length x = W.p T.length t.sp.2.d ∧ List.take T.length (T ++ [O.lst (sts pre)]) ++ [o] = T ++ [O.lst (sts t.sp.1)] := fun e => by
    rw [e, List.append_nil] at hsp
    refine ⟨T.length, u.d, rfl, ?_⟩
    rw [if_neg (Nat.lt_irrefl _), ← hsp]
    exact ⟨_, last_at, rfl, by simp⟩
  cases u with
  | stop =>
    rw [if_neg (show ¬ Tr.stop.isSay = true by decide)]
    exact fin rfl
  | ask i c y n =>
    rw [if_neg (show ¬ (Tr.ask i c y n).isSay = true by simp [Tr.isSay])]
    exact fin rfl
  | say w u =>
    rw [if_pos (show (Tr.say w u).isSay = true from rfl)]
    have e : (sts pre).length = pre.length := strs_len pre
    simp only [Tr.size] at hu
    refine ⟨by simp only [tyM, last_at]; rfl, .d (.str w), rfl, .d .none, T ++ [.lst (sts (pre ++ [w]))], ?_, .d u.d, rfl, u.size, by omega, u, pre ++ [w], rfl, rfl, rfl, by simp; omega, ?_⟩
    · simp only [gApp, last_at]
      rw [if_pos (small_of (m := 1000) (by omega)), last_set]
      simp [sts]
    · rw [← hsp]; simp [Tr.sp]
/-! ### answers, ways -/
def ansS (b : Bool) : Str := if b = true then "yes" else "no"
def ansD (b : Bool) : PyData := .str (ansS b)
theorem after_ok (i : Str) (c : List Str) (y n : Tr) (b : Bool) (T : So) : f_after_answer [.d (Tr.ask i c y n).d, .d (ansD b)] T = some (.ok (.d (if b = true then y.d else n.d)) T) := by
  refine Ret.eq (Ret_fnB rfl ?_)
  unfold b_after_answer
  simp only [RetS_cons, RetS_nil, RetS_set, RetS_drop, RetS_ret, RetS_if, RetS_asg, RetS_par, RetS_put, RetS_nx, RetS_rt, Ret_dFn, Ret_dCons, Ret_dNil, Ret_dBin, Ret_dUn, Ret_dCall, Ret_dCallN, Ret_dC, Ret_dG, Ret_dVar, Ret_dIf, Ret_dFz, Ret_dNew, Ret_dLst, Ret_dTup, Ret_dB, Ret_dAndT, Ret_dOrT, Ret_dNotT, Ret_dAnd, Ret_dOr, Ret_dNot, Ret_dIsi, Ret_dChain, Ret_dGet, Ret_dD0, Ret_dNoP, Ret_dPt, Ret_dSlA, Ret_dMeth, Ret_dAny, Ret_dLenSet, Ret_dZip, Ret_dZipL, Ret_dKeys, Ret_dRng1, Ret_dRng2, Ret_dLc, wipeW, Ret_dDc, RetS_putL, Ret_dTupP, RetS_asgP, Ret_dSnd, Ret_dD1T, Ret_dListZip, RetS_augI, Ret_gcp, Ret_dItems, Ret_dSortSet, Ret_dFnK, RetS_for, Ret_ok, startW, List.map_cons, List.map_nil, List.length_cons, List.length_nil, List.cons_append, List.nil_append, List.replicate, Nat.sub_self, Nat.reduceSub, Nat.reduceAdd, List.getElem?_cons_zero, List.getElem?_cons_succ, List.set_cons_zero, List.set_cons_succ, Option.some.injEq, exists_eq_left', rd_d, on2_d, on1_d, c1_d, bOf_b, exists_eq_left, Option.map_some, Option.bind_some, W.d.injEq, Ret_gcd, List.take_length, dIx]
  have e : eqP (ansD b) (.str "yes") = some (.bool b) := by cases b <;> exact eqSb
  refine ⟨_, rfl, _, rfl, _, om e, _, rfl, ?_⟩
  cases b with
  | true =>
    rw [if_pos rfl]
    exact ⟨_, rfl, rfl, List.take_length⟩
  | false =>
    rw [if_neg (by decide)]
    exact ⟨_, rfl, rfl, List.take_length⟩
def Tr.ways : Tr → List (List Bool × List Str)
  | .stop => [([], [])]
  | .say w t => t.ways.map fun q => (q.1, w :: q.2)
  | .ask _ _ y n => (n.ways.map fun q => (false :: q.1, q.2)) ++ y.ways.map fun q => (true :: q.1, q.2)
def pD (p : List Bool) : PyData := .tuple (p.map ansD)
def wayD (q : List Bool × List Str) : PyData := .tuple [pD q.1, .tuple (sts q.2)]
theorem ways_len : ∀ t : Tr, t.ways.length ≤ t.size ∧ ∀ q ∈ t.ways, q.1.length ≤ t.size ∧ q.2.length ≤ t.size
  | .stop => by simp [Tr.ways, Tr.size]
  | .say w t => by
    obtain ⟨h1, h2⟩ := ways_len t
    simp only [Tr.ways, Tr.size]
    refine ⟨by rw [List.length_map]; omega, fun q hq => ?_⟩
    obtain ⟨r, hr, rfl⟩ := List.mem_map.mp hq
    obtain ⟨a, b⟩ := h2 r hr
    exact ⟨by dsimp only; omega, by simp; omega⟩
  | .ask i c y n => by
    obtain ⟨h1, h2⟩ := ways_len y
    obtain ⟨h3, h4⟩ := ways_len n
    simp only [Tr.ways, Tr.size]
    refine ⟨by rw [List.length_append, List.length_map, List.length_map]; omega, fun q hq => ?_⟩
    rcases List.mem_append.mp hq with hq | hq
    · obtain ⟨r, hr, rfl⟩ := List.mem_map.mp hq
      obtain ⟨a, b⟩ := h4 r hr
      exact ⟨by simp; omega, by dsimp only; omega⟩
    · obtain ⟨r, hr, rfl⟩ := List.mem_map.mp hq
      obtain ⟨a, b⟩ := h2 r hr
      exact ⟨by simp; omega, by dsimp only; omega⟩
theorem ways_ok : ∀ (f : Nat) (t : Tr), t.size < f → t.size ≤ 100 → ∀ T : So, f_l_ways f [.d t.d] T = some (.ok (.d (.list (t.ways.map wayD))) T)
  | 0, t, h, _, _ => absurd h (Nat.not_lt_zero _)
  | f + 1, t, h, hb, T => by
    refine Ret.eq (Ret_fnB rfl ?_)
    unfold b_l_ways
    simp only [RetS_cons, RetS_nil, RetS_set, RetS_drop, RetS_ret, RetS_if, RetS_asg, RetS_par, RetS_put, RetS_nx, RetS_rt, Ret_dFn, Ret_dCons, Ret_dNil, Ret_dBin, Ret_dUn, Ret_dCall, Ret_dCallN, Ret_dC, Ret_dG, Ret_dVar, Ret_dIf, Ret_dFz, Ret_dNew, Ret_dLst, Ret_dTup, Ret_dB, Ret_dAndT, Ret_dOrT, Ret_dNotT, Ret_dAnd, Ret_dOr, Ret_dNot, Ret_dIsi, Ret_dChain, Ret_dGet, Ret_dD0, Ret_dNoP, Ret_dPt, Ret_dSlA, Ret_dMeth, Ret_dAny, Ret_dLenSet, Ret_dZip, Ret_dZipL, Ret_dKeys, Ret_dRng1, Ret_dRng2, Ret_dLc, wipeW, Ret_dDc, RetS_putL, Ret_dTupP, RetS_asgP, Ret_dSnd, Ret_dD1T, Ret_dListZip, RetS_augI, Ret_gcp, Ret_dItems, Ret_dSortSet, Ret_dFnK, RetS_for, Ret_ok, startW, List.map_cons, List.map_nil, List.length_cons, List.length_nil, List.cons_append, List.nil_append, List.replicate, Nat.sub_self, Nat.reduceSub, Nat.reduceAdd, List.getElem?_cons_zero, List.getElem?_cons_succ, List.set_cons_zero, List.set_cons_succ, Option.some.injEq, exists_eq_left', rd_d, on2_d, on1_d, c1_d, bOf_b, exists_eq_left, Option.map_some, Option.bind_some, W.d.injEq, Ret_gcd, List.take_length, dIx]
    obtain ⟨z, h1, h2, h3⟩ := at_t t
    refine ⟨_, om h1, _, om h3, _, rfl, ?_⟩
    cases t with
    | stop =>
      rw [if_pos (show Tr.stop.isStop = true from rfl)]
      exact ⟨[], rfl, [], rfl, [.tuple [], .tuple []], rfl, [.tuple [.tuple [], .tuple []]], rfl, rfl, trivial⟩
    | say w u =>
      rw [if_neg (show ¬ (Tr.say w u).isStop = true by simp [Tr.isStop])]
      refine ⟨_, om h1, _, om h2, _, rfl, ?_⟩
      rw [if_pos (show (Tr.say w u).isSay = true from rfl)]
      simp only [Tr.size] at h hb
      refine ⟨.d u.d, rfl, ?_⟩
      rw [ways_ok f u (by omega) (by omega) T, Ret_ok]
      refine ⟨(u.ways.map wayD, none), rfl, ?_⟩
      have hw := (ways_len u).2
      refine (lc_inv (fun j acc T' => T' = T ∧ acc = ((u.ways.take j).map fun q => (q.1, w :: q.2)).map wayD) (u.ways.map wayD) 0 [] T ⟨rfl, rfl⟩ ?_).mono ?_
      · rintro j x acc T' hx ⟨rfl, rfl⟩
        rw [List.getElem?_map] at hx
        obtain ⟨q, hq, rfl⟩ := Option.map_eq_some_iff.mp hx
        obtain ⟨q1, q2⟩ := hw q (List.mem_of_getElem? hq)
        refine ⟨_, rfl, ?_⟩
        simp only [RetS_cons, RetS_nil, RetS_set, RetS_drop, RetS_ret, RetS_if, RetS_asg, RetS_par, RetS_put, RetS_nx, RetS_rt, Ret_dFn, Ret_dCons, Ret_dNil, Ret_dBin, Ret_dUn, Ret_dCall, Ret_dCallN, Ret_dC, Ret_dG, Ret_dVar, Ret_dIf, Ret_dFz, Ret_dNew, Ret_dLst, Ret_dTup, Ret_dB, Ret_dAndT, Ret_dOrT, Ret_dNotT, Ret_dAnd, Ret_dOr, Ret_dNot, Ret_dIsi, Ret_dChain, Ret_dGet, Ret_dD0, Ret_dNoP, Ret_dPt, Ret_dSlA, Ret_dMeth, Ret_dAny, Ret_dLenSet, Ret_dZip, Ret_dZipL, Ret_dKeys, Ret_dRng1, Ret_dRng2, Ret_dLc, wipeW, Ret_dDc, RetS_putL, Ret_dTupP, RetS_asgP, Ret_dSnd, Ret_dD1T, Ret_dListZip, RetS_augI, Ret_gcp, Ret_dItems, Ret_dSortSet, Ret_dFnK, RetS_for, Ret_ok, startW, List.map_cons, List.map_nil, List.length_cons, List.length_nil, List.cons_append, List.nil_append, List.replicate, Nat.sub_self, Nat.reduceSub, Nat.reduceAdd, List.getElem?_cons_zero, List.getElem?_cons_succ, List.set_cons_zero, List.set_cons_succ, Option.some.injEq, exists_eq_left', rd_d, on2_d, on1_d, c1_d, bOf_b, exists_eq_left, Option.map_some, Option.bind_some, W.d.injEq, Ret_gcd, List.take_length, dIx]
        show Ret (some (.ok true _)) _
        rw [Ret_ok, if_pos rfl]
        refine ⟨.d (.str w), rfl, [.str w], rfl, .d (.tuple ([.str w] ++ sts q.2)), addT (by simp [sts]; omega), _, rfl, rfl, ?_⟩
        rw [Nat.zero_add, List.take_succ, hq]
        simp [wayD, sts, pD]
      · rintro xs T' ⟨rfl, rfl⟩
        rw [Nat.zero_add, List.length_map, List.take_length]
        exact ⟨rfl, List.take_length⟩
    | ask i c y n =>
      rw [if_neg (show ¬ (Tr.ask i c y n).isStop = true by simp [Tr.isStop])]
      refine ⟨_, om h1, _, om h2, _, rfl, ?_⟩
      rw [if_neg (show ¬ (Tr.ask i c y n).isSay = true by simp [Tr.isSay])]
      simp only [Tr.size] at h hb
      have half : ∀ {σ : En} {T' : So} {all : List PyData} (b : Bool) (u : Tr), u.size ≤ 100 → 2 < σ.length →
          Ret (lcGo none all [1, 2] σ (.tp [1, 2]) dYes (dTup (dCons (dBin addW (dTup (dCons (dC (ansD b)) dNil)) (dVar 1)) (dCons (dVar 2) dNil))) (u.ways.map wayD) [] T') fun xs T2 => xs = (u.ways.map fun q => (b :: q.1, q.2)).map wayD ∧ T2 = T' := by
        intro σ T' all b u hu hσ
        have hw := (ways_len u).2
        refine (lc_inv (fun j acc T2 => T2 = T' ∧ acc = ((u.ways.take j).map fun q => (b :: q.1, q.2)).map wayD) (u.ways.map wayD) 0 [] T' ⟨rfl, rfl⟩ ?_).mono ?_
        · rintro j x acc T2 hx ⟨rfl, rfl⟩
          rw [List.getElem?_map] at hx
          obtain ⟨q, hq, rfl⟩ := Option.map_eq_some_iff.mp hx
          obtain ⟨q1, q2⟩ := hw q (List.mem_of_getElem? hq)
          refine ⟨_, rfl, ?_⟩
          show Ret (some (.ok true _)) _
          rw [Ret_ok, if_pos rfl]
          have w1 : (((wipeW σ [1, 2]).set 1 (some (.d (pD q.1)))).set 2 (some (.d (.tuple (sts q.2)))))[1]? = some (some (.d (pD q.1))) := by
            rw [List.getElem?_set_ne (by decide), List.getElem?_set_self (by simp [wipeW]; omega)]
          have w2 : (((wipeW σ [1, 2]).set 1 (some (.d (pD q.1)))).set 2 (some (.d (.tuple (sts q.2)))))[2]? = some (some (.d (.tuple (sts q.2)))) := by
            rw [List.getElem?_set_self (by simp [wipeW]; omega)]
          simp only [Ret_dTup, Ret_dCons, Ret_dBin, Ret_dC, Ret_dNil, Ret_dVar]
          refine ⟨[ansD b], rfl, _, w1, .d (.tuple ([ansD b] ++ q.1.map ansD)), addT (by simp; omega), _, w2, _, rfl, _, rfl, trivial, ?_⟩
          rw [Nat.zero_add, List.take_succ, hq]
          simp [wayD, pD]
        · rintro xs T2 ⟨rfl, rfl⟩
          rw [Nat.zero_add, List.length_map, List.take_length]
          exact ⟨rfl, rfl⟩
      refine ⟨.d n.d, rfl, ?_⟩
      rw [ways_ok f n (by omega) (by omega) T, Ret_ok]
      refine ⟨(n.ways.map wayD, none), rfl, (half false n (by omega) (by simp)).mono ?_⟩
      rintro _ _ ⟨rfl, rfl⟩
      rename_i T'
      refine ⟨.d y.d, rfl, ?_⟩
      rw [ways_ok f y (by omega) (by omega) T', Ret_ok]
      refine ⟨(y.ways.map wayD, none), rfl, (half true y (by omega) (by simp)).mono ?_⟩
      rintro _ _ ⟨rfl, rfl⟩
      have l1 := (ways_len n).1
      have l2 := (ways_len y).1
      refine ⟨.d (.list (((n.ways.map fun q => (false :: q.1, q.2)).map wayD) ++ ((y.ways.map fun q => (true :: q.1, q.2)).map wayD))), ?_, ?_⟩
      · show (if small _ = true then some (PyData.list _) else none).map W.d = _
        rw [if_pos (small_of (m := 1000) (by simp; omega))]; rfl
      · rw [Ret_gcd, List.take_length]
        exact ⟨by rw [← List.map_append]; rfl, rfl⟩
end LK33
end

section
/-! part LM33e -/
set_option Elab.async false
set_option linter.all false
set_option maxRecDepth 100000
set_option maxHeartbeats 1000000
/-! LM33e: paths; what follows a path. -/
open CL
open PySem PySem.Spec PyProof.Rows L2
namespace LK33
theorem sp_size : ∀ t : Tr, t.sp.2.size ≤ t.size ∧ t.sp.1.length + t.sp.2.size ≤ t.size
  | .stop => by simp [Tr.sp]
  | .say w t => by have := sp_size t; simp only [Tr.sp, Tr.size, List.length_cons]; omega
  | .ask i c y n => by simp [Tr.sp]
theorem sp_say : ∀ t : Tr, t.sp.2.isSay = false
  | .stop => rfl
  | .say w t => sp_say t
  | .ask i c y n => rfl
theorem sp_paths : ∀ t : Tr, t.ways.map (·.1) = t.sp.2.ways.map (·.1)
  | .stop => rfl
  | .say w t => by
    simp only [Tr.ways, Tr.sp, List.map_map]
    rw [← sp_paths t]
    rfl
  | .ask i c y n => rfl
def Tr.paths (t : Tr) : List (List Bool) := t.ways.map (·.1)
theorem paths_ask (i : Str) (c : List Str) (y n : Tr) : (Tr.ask i c y n).paths = (n.paths.map (false :: ·)) ++ y.paths.map (true :: ·) := by
  simp only [Tr.paths, Tr.ways, List.map_append, List.map_map]
  rfl
theorem paths_len (t : Tr) : t.paths.length ≤ t.size ∧ ∀ p ∈ t.paths, p.length ≤ t.size := by
  refine ⟨by unfold Tr.paths; rw [List.length_map]; exact (ways_len t).1, fun p hp => ?_⟩
  obtain ⟨q, hq, rfl⟩ := List.mem_map.mp hp
  exact ((ways_len t).2 q hq).1
theorem paths_ok : ∀ (f : Nat) (t : Tr), t.size < f → t.size < 40 → ∀ T : So, f_paths_of f [.d t.d] T = some (.ok (.d (.tuple (t.paths.map pD))) T)
  | 0, t, h, _, _ => absurd h (Nat.not_lt_zero _)
  | f + 1, t, h, hb, T => by
    refine Ret.eq (Ret_fnB rfl ?_)
    unfold b_paths_of
    simp only [RetS_cons, RetS_nil, RetS_set, RetS_drop, RetS_ret, RetS_if, RetS_asg, RetS_par, RetS_put, RetS_nx, RetS_rt, Ret_dFn, Ret_dCons, Ret_dNil, Ret_dBin, Ret_dUn, Ret_dCall, Ret_dCallN, Ret_dC, Ret_dG, Ret_dVar, Ret_dIf, Ret_dFz, Ret_dNew, Ret_dLst, Ret_dTup, Ret_dB, Ret_dAndT, Ret_dOrT, Ret_dNotT, Ret_dAnd, Ret_dOr, Ret_dNot, Ret_dIsi, Ret_dChain, Ret_dGet, Ret_dD0, Ret_dNoP, Ret_dPt, Ret_dSlA, Ret_dMeth, Ret_dAny, Ret_dLenSet, Ret_dZip, Ret_dZipL, Ret_dKeys, Ret_dRng1, Ret_dRng2, Ret_dLc, wipeW, Ret_dDc, RetS_putL, Ret_dTupP, RetS_asgP, Ret_dSnd, Ret_dD1T, Ret_dListZip, RetS_augI, Ret_gcp, Ret_dItems, Ret_dSortSet, Ret_dFnK, RetS_for, Ret_ok, startW, List.map_cons, List.map_nil, List.length_cons, List.length_nil, List.cons_append, List.nil_append, List.replicate, Nat.sub_self, Nat.reduceSub, Nat.reduceAdd, List.getElem?_cons_zero, List.getElem?_cons_succ, List.set_cons_zero, List.set_cons_succ, Option.some.injEq, exists_eq_left', rd_d, on2_d, on1_d, c1_d, bOf_b, exists_eq_left, Option.map_some, Option.bind_some, W.d.injEq, Ret_gcd, List.take_length, dIx]
    rw [spoken_ok t hb, Ret_ok]
    refine ⟨_, _, rfl, ?_⟩
    obtain ⟨z, h1, h2, h3⟩ := at_t t.sp.2
    refine ⟨_, om h1, _, om h3, _, rfl, ?_⟩
    have hsz := (sp_size t).1
    have hpp : t.paths = t.sp.2.paths := sp_paths t
    rw [hpp]
    have hns := sp_say t
    generalize t.sp.2 = u at *
    cases u with
    | stop =>
      rw [if_pos (show Tr.stop.isStop = true from rfl)]
      exact ⟨[], rfl, [.tuple []], rfl, rfl, by simp⟩
    | say w u => cases hns
    | ask i c y n =>
      rw [if_neg (show ¬ (Tr.ask i c y n).isStop = true by simp [Tr.isStop])]
      have sz : (if true = true then y else n).size < f ∧ (if false = true then y else n).size < f ∧ y.size < 40 ∧ n.size < 40 ∧ y.size + n.size < 40 := by
        simp only [Tr.size] at hsz
        refine ⟨?_, ?_, by omega, by omega, by omega⟩
        · show y.size < f; omega
        · show n.size < f; omega
      refine ⟨[], rfl, [ansD false, ansD true], rfl, ([ansD false, ansD true], none), rfl, ?_⟩
      generalize sts t.sp.1 = wd
      have lT : (T ++ [O.lst wd]).length = T.length + 1 := by simp
      rw [lT]
      refine for_inv (fun j σ T' => (∃ o4 o5, σ = [some (.d t.d), some (.r T.length), some (.d (Tr.ask i c y n).d), some (.r (T.length + 1)), o4, o5]) ∧ T' = T ++ [O.lst wd] ++ [O.lst ((([false, true].take j).flatMap fun b => (if b = true then y else n).paths.map (b :: ·)).map pD)]) [ansD false, ansD true] 0 _ _ ⟨⟨_, _, rfl⟩, rfl⟩ ?_ ?_
      · rintro σ T' ⟨⟨o4, o5, rfl⟩, rfl⟩
        have e3 : (T ++ [O.lst wd] ++ [O.lst ((([false, true].take (0 + [ansD false, ansD true].length)).flatMap fun b => (if b = true then y else n).paths.map (b :: ·)).map pD)])[T.length + 1]? = some (O.lst ((Tr.ask i c y n).paths.map pD)) := by
          rw [← lT, last_at, paths_ask]
          simp
        refine ⟨_, rfl, .d (.tuple ((Tr.ask i c y n).paths.map pD)), ?_, rfl, ?_⟩
        · simp only [CL.c1, on1, rd, e3, tupP, Option.map_some]
        · simp
      · rintro j x σ T' hx ⟨⟨o4, o5, rfl⟩, rfl⟩
        rw [Nat.zero_add]
        obtain ⟨b, hb2, rfl⟩ : ∃ b, [false, true][j]? = some b ∧ x = ansD b := by
          match j, hx with
          | 0, hx => simp at hx; exact ⟨false, rfl, hx.symm⟩
          | 1, hx => simp at hx; exact ⟨true, rfl, hx.symm⟩
        refine ⟨_, rfl, ?_⟩
        simp only [RetS_cons, RetS_nil, RetS_set, RetS_drop, RetS_ret, RetS_if, RetS_asg, RetS_par, RetS_put, RetS_nx, RetS_rt, Ret_dFn, Ret_dCons, Ret_dNil, Ret_dBin, Ret_dUn, Ret_dCall, Ret_dCallN, Ret_dC, Ret_dG, Ret_dVar, Ret_dIf, Ret_dFz, Ret_dNew, Ret_dLst, Ret_dTup, Ret_dB, Ret_dAndT, Ret_dOrT, Ret_dNotT, Ret_dAnd, Ret_dOr, Ret_dNot, Ret_dIsi, Ret_dChain, Ret_dGet, Ret_dD0, Ret_dNoP, Ret_dPt, Ret_dSlA, Ret_dMeth, Ret_dAny, Ret_dLenSet, Ret_dZip, Ret_dZipL, Ret_dKeys, Ret_dRng1, Ret_dRng2, Ret_dLc, wipeW, Ret_dDc, RetS_putL, Ret_dTupP, RetS_asgP, Ret_dSnd, Ret_dD1T, Ret_dListZip, RetS_augI, Ret_gcp, Ret_dItems, Ret_dSortSet, Ret_dFnK, RetS_for, Ret_ok, startW, List.map_cons, List.map_nil, List.length_cons, List.length_nil, List.cons_append, List.nil_append, List.replicate, Nat.sub_self, Nat.reduceSub, Nat.reduceAdd, List.getElem?_cons_zero, List.getElem?_cons_succ, List.set_cons_zero, List.set_cons_succ, Option.some.injEq, exists_eq_left', rd_d, on2_d, on1_d, c1_d, bOf_b, exists_eq_left, Option.map_some, Option.bind_some, W.d.injEq, Ret_gcd, List.take_length, dIx]
        generalize hA : (([false, true].take j).flatMap fun b => (if b = true then y else n).paths.map (b :: ·)).map pD = A
        have hAl : A.length ≤ 100 := by
          have l1 := (paths_len y).1
          have l2 := (paths_len n).1
          rw [← hA, List.length_map]
          match j, hx with
          | 0, _ => simp
          | 1, _ => simp; omega
        have e3 : (T ++ [O.lst wd] ++ [O.lst A])[T.length + 1]? = some (O.lst A) := by rw [← lT, last_at]
        refine ⟨by simp only [tyM, e3]; rfl, ?_⟩
        rw [after_ok, Ret_ok]
        have hd : (if b = true then y.d else n.d) = (if b = true then y else n).d := by cases b <;> rfl
        rw [hd]
        have hsf : (if b = true then y else n).size < f := by
          cases b
          · exact sz.2.1
          · exact sz.1
        have hs40 : (if b = true then y else n).size < 40 := by
          cases b
          · exact sz.2.2.2.1
          · exact sz.2.2.1
        generalize hu : (if b = true then y else n) = u at hsf hs40 ⊢
        rw [paths_ok f u hsf hs40, Ret_ok]
        refine ⟨(u.paths.map pD, none), rfl, ?_⟩
        have hpl := paths_len u
        refine Ret.of (lc_pure (fun _ => true) (fun z => match z with | .tuple xs => .tuple (ansD b :: xs) | z => z) _ _ fun z hz => ⟨_, rfl, ⟨rfl, rfl⟩, fun _ => ?_⟩) ?_
        · obtain ⟨q, hq, rfl⟩ := List.mem_map.mp hz
          have := hpl.2 q hq
          simp only [RetS_cons, RetS_nil, RetS_set, RetS_drop, RetS_ret, RetS_if, RetS_asg, RetS_par, RetS_put, RetS_nx, RetS_rt, Ret_dFn, Ret_dCons, Ret_dNil, Ret_dBin, Ret_dUn, Ret_dCall, Ret_dCallN, Ret_dC, Ret_dG, Ret_dVar, Ret_dIf, Ret_dFz, Ret_dNew, Ret_dLst, Ret_dTup, Ret_dB, Ret_dAndT, Ret_dOrT, Ret_dNotT, Ret_dAnd, Ret_dOr, Ret_dNot, Ret_dIsi, Ret_dChain, Ret_dGet, Ret_dD0, Ret_dNoP, Ret_dPt, Ret_dSlA, Ret_dMeth, Ret_dAny, Ret_dLenSet, Ret_dZip, Ret_dZipL, Ret_dKeys, Ret_dRng1, Ret_dRng2, Ret_dLc, wipeW, Ret_dDc, RetS_putL, Ret_dTupP, RetS_asgP, Ret_dSnd, Ret_dD1T, Ret_dListZip, RetS_augI, Ret_gcp, Ret_dItems, Ret_dSortSet, Ret_dFnK, RetS_for, Ret_ok, startW, List.map_cons, List.map_nil, List.length_cons, List.length_nil, List.cons_append, List.nil_append, List.replicate, Nat.sub_self, Nat.reduceSub, Nat.reduceAdd, List.getElem?_cons_zero, List.getElem?_cons_succ, List.set_cons_zero, List.set_cons_succ, Option.some.injEq, exists_eq_left', rd_d, on2_d, on1_d, c1_d, bOf_b, exists_eq_left, Option.map_some, Option.bind_some, W.d.injEq, Ret_gcd, List.take_length, dIx]
          exact ⟨[ansD b], rfl, .d (.tuple ([ansD b] ++ q.map ansD)), addT (by simp; omega), rfl, trivial⟩
        · rw [List.filter_eq_self.mpr fun _ _ => rfl, List.nil_append]
          have eM : (u.paths.map pD).map (fun z => match z with | .tuple xs => .tuple (ansD b :: xs) | z => z) = (u.paths.map (b :: ·)).map pD := by
            rw [List.map_map, List.map_map]
            exact List.map_congr_left fun q _ => by simp [pD, Function.comp]
          rw [eM]
          have hMl : ((u.paths.map (b :: ·)).map pD).length ≤ 100 := by
            rw [List.length_map, List.length_map]; omega
          generalize hM : (u.paths.map (b :: ·)).map pD = M' at hMl ⊢
          refine ⟨.d .none, (T ++ [O.lst wd]) ++ [O.lst (A ++ M')], ?_, ⟨_, _, rfl⟩, ?_⟩
          · simp only [gExt, e3, seqD, rd, Option.bind_some]
            rw [if_pos (small_of (m := 1000) (by omega)), ← lT, last_set]
          · rw [List.take_succ, hb2, Option.toList_some, List.flatMap_append, List.map_append, hA]
            have e1 : ([b].flatMap fun b => (if b = true then y else n).paths.map (b :: ·)) = u.paths.map (b :: ·) := by simp [hu]
            rw [e1, hM]
end LK33
end

section
/-! part LM33f -/
set_option Elab.async false
set_option linter.all false
set_option maxRecDepth 100000
set_option maxHeartbeats 1000000
/-! LM33f: what stands behind a path. -/
open CL
open PySem PySem.Spec PyProof.Rows L2
namespace LK33
def Tr.step (t : Tr) (b : Bool) : Tr := match t.sp.2 with
  | .ask _ _ y n => if b = true then y else n
  | u => u
def runS (s : Tr × List Str) (b : Bool) : Tr × List Str := (s.1.step b, s.2 ++ s.1.sp.1)
def Tr.run (t : Tr) (p : List Bool) : Tr × List Str := p.foldl runS (t, [])
theorem run_snoc (t : Tr) (p : List Bool) (b : Bool) : t.run (p ++ [b]) = runS (t.run p) b := by simp [Tr.run]
theorem step_size (t : Tr) (b : Bool) : (t.step b).size ≤ t.sp.2.size := by
  unfold Tr.step
  split
  · rename_i i c y n h
    rw [h]; simp only [Tr.size]; cases b <;> simp <;> omega
  · rename_i h; exact Nat.le_refl _
theorem run_size (t : Tr) : ∀ p : List Bool, (t.run p).2.length + (t.run p).1.size ≤ t.size := by
  intro p
  have : ∀ (p : List Bool) (s : Tr × List Str), (p.foldl runS s).2.length + (p.foldl runS s).1.size ≤ s.2.length + s.1.size := by
    intro p
    induction p with
    | nil => intro s; exact Nat.le_refl _
    | cons b p ih =>
      intro s
      rw [List.foldl_cons]
      have h1 := ih (runS s b)
      have h2 := (sp_size s.1).2
      have h3 := step_size s.1 b
      have h4 : (runS s b).2.length + (runS s b).1.size ≤ s.2.length + s.1.size := by
        simp only [runS, List.length_append]; omega
      omega
  have h := this p (t, [])
  unfold Tr.run
  simpa using h
/-- each answer is one to a question -/
def VP (t : Tr) (p : List Bool) : Prop := ∀ j, j < p.length → ∃ i c y n, (t.run (p.take j)).1.sp.2 = .ask i c y n
theorem take_snoc {p : List Bool} {j : Nat} {b : Bool} (h : p[j]? = some b) : p.take (j + 1) = p.take j ++ [b] := by rw [List.take_succ, h, Option.toList_some]
theorem at_pd {p : List Bool} {j : Nat} {x : PyData} (h : (p.map ansD)[j]? = some x) : ∃ b, p[j]? = some b ∧ x = ansD b := by
  rw [List.getElem?_map] at h
  obtain ⟨b, h1, h2⟩ := Option.map_eq_some_iff.mp h
  exact ⟨b, h1, h2.symm⟩
/-- one answer -/
theorem one_ok {u : Tr} {b : Bool} (h : ∃ i c y n, u.sp.2 = .ask i c y n) (T : So) : f_after_answer [.d u.sp.2.d, .d (ansD b)] T = some (.ok (.d (u.step b).d) T) := by
  obtain ⟨i, c, y, n, e⟩ := h
  rw [e, after_ok]
  unfold Tr.step
  rw [e]
  cases b <;> rfl
theorem after_path {t : Tr} {p : List Bool} (ht : t.size < 40) (hp : VP t p) (T : So) : f_program_after [.d t.d, .d (pD p)] T = some (.ok (.d (t.run p).1.d) T) := by
  refine Ret.eq (Ret_fnB rfl ?_)
  unfold b_program_after
  simp only [RetS_cons, RetS_nil, RetS_set, RetS_drop, RetS_ret, RetS_if, RetS_asg, RetS_par, RetS_put, RetS_nx, RetS_rt, Ret_dFn, Ret_dCons, Ret_dNil, Ret_dBin, Ret_dUn, Ret_dCall, Ret_dCallN, Ret_dC, Ret_dG, Ret_dVar, Ret_dIf, Ret_dFz, Ret_dNew, Ret_dLst, Ret_dTup, Ret_dB, Ret_dAndT, Ret_dOrT, Ret_dNotT, Ret_dAnd, Ret_dOr, Ret_dNot, Ret_dIsi, Ret_dChain, Ret_dGet, Ret_dD0, Ret_dNoP, Ret_dPt, Ret_dSlA, Ret_dMeth, Ret_dAny, Ret_dLenSet, Ret_dZip, Ret_dZipL, Ret_dKeys, Ret_dRng1, Ret_dRng2, Ret_dLc, wipeW, Ret_dDc, RetS_putL, Ret_dTupP, RetS_asgP, Ret_dSnd, Ret_dD1T, Ret_dListZip, RetS_augI, Ret_gcp, Ret_dItems, Ret_dSortSet, Ret_dFnK, RetS_for, Ret_ok, startW, List.map_cons, List.map_nil, List.length_cons, List.length_nil, List.cons_append, List.nil_append, List.replicate, Nat.sub_self, Nat.reduceSub, Nat.reduceAdd, List.getElem?_cons_zero, List.getElem?_cons_succ, List.set_cons_zero, List.set_cons_succ, Option.some.injEq, exists_eq_left', rd_d, on2_d, on1_d, c1_d, bOf_b, exists_eq_left, Option.map_some, Option.bind_some, W.d.injEq, Ret_gcd, List.take_length, dIx]
  refine ⟨(p.map ansD, none), rfl, ?_⟩
  refine for_inv (fun j σ T' => (∃ o, σ = [some (.d t.d), some (.d (pD p)), some (.d (t.run (p.take j)).1.d), o]) ∧ ∃ ex, T' = T ++ ex) (p.map ansD) 0 _ _ ⟨⟨_, rfl⟩, [], (List.append_nil T).symm⟩ ?_ ?_
  · rintro σ T' ⟨⟨o, rfl⟩, ex, rfl⟩
    rw [Nat.zero_add, List.length_map, List.take_length]
    refine ⟨_, rfl, ?_⟩
    rw [Ret_gcd]
    exact ⟨rfl, by simp⟩
  · rintro j x σ T' hx ⟨⟨o, rfl⟩, ex, rfl⟩
    rw [Nat.zero_add]
    obtain ⟨b, hb, rfl⟩ := at_pd hx
    have hj := (List.getElem?_eq_some_iff.mp hb).1
    have hs := run_size t (p.take j)
    refine ⟨_, rfl, ?_⟩
    simp only [RetS_cons, RetS_nil, RetS_set, RetS_drop, RetS_ret, RetS_if, RetS_asg, RetS_par, RetS_put, RetS_nx, RetS_rt, Ret_dFn, Ret_dCons, Ret_dNil, Ret_dBin, Ret_dUn, Ret_dCall, Ret_dCallN, Ret_dC, Ret_dG, Ret_dVar, Ret_dIf, Ret_dFz, Ret_dNew, Ret_dLst, Ret_dTup, Ret_dB, Ret_dAndT, Ret_dOrT, Ret_dNotT, Ret_dAnd, Ret_dOr, Ret_dNot, Ret_dIsi, Ret_dChain, Ret_dGet, Ret_dD0, Ret_dNoP, Ret_dPt, Ret_dSlA, Ret_dMeth, Ret_dAny, Ret_dLenSet, Ret_dZip, Ret_dZipL, Ret_dKeys, Ret_dRng1, Ret_dRng2, Ret_dLc, wipeW, Ret_dDc, RetS_putL, Ret_dTupP, RetS_asgP, Ret_dSnd, Ret_dD1T, Ret_dListZip, RetS_augI, Ret_gcp, Ret_dItems, Ret_dSortSet, Ret_dFnK, RetS_for, Ret_ok, startW, List.map_cons, List.map_nil, List.length_cons, List.length_nil, List.cons_append, List.nil_append, List.replicate, Nat.sub_self, Nat.reduceSub, Nat.reduceAdd, List.getElem?_cons_zero, List.getElem?_cons_succ, List.set_cons_zero, List.set_cons_succ, Option.some.injEq, exists_eq_left', rd_d, on2_d, on1_d, c1_d, bOf_b, exists_eq_left, Option.map_some, Option.bind_some, W.d.injEq, Ret_gcd, List.take_length, dIx]
    rw [spoken_ok _ (by omega), Ret_ok]
    refine ⟨_, _, rfl, ?_⟩
    rw [one_ok (hp j hj), Ret_ok, take_snoc hb, run_snoc]
    exact ⟨⟨_, rfl⟩, _, by rw [List.append_assoc]⟩
theorem out_path {t : Tr} {p : List Bool} (ht : t.size < 40) (hp : VP t p) (T : So) : f_output_of [.d t.d, .d (pD p)] T = some (.ok (.d (.tuple (sts ((t.run p).2 ++ (t.run p).1.sp.1)))) T) := by
  refine Ret.eq (Ret_fnB rfl ?_)
  unfold b_output_of
  simp only [RetS_cons, RetS_nil, RetS_set, RetS_drop, RetS_ret, RetS_if, RetS_asg, RetS_par, RetS_put, RetS_nx, RetS_rt, Ret_dFn, Ret_dCons, Ret_dNil, Ret_dBin, Ret_dUn, Ret_dCall, Ret_dCallN, Ret_dC, Ret_dG, Ret_dVar, Ret_dIf, Ret_dFz, Ret_dNew, Ret_dLst, Ret_dTup, Ret_dB, Ret_dAndT, Ret_dOrT, Ret_dNotT, Ret_dAnd, Ret_dOr, Ret_dNot, Ret_dIsi, Ret_dChain, Ret_dGet, Ret_dD0, Ret_dNoP, Ret_dPt, Ret_dSlA, Ret_dMeth, Ret_dAny, Ret_dLenSet, Ret_dZip, Ret_dZipL, Ret_dKeys, Ret_dRng1, Ret_dRng2, Ret_dLc, wipeW, Ret_dDc, RetS_putL, Ret_dTupP, RetS_asgP, Ret_dSnd, Ret_dD1T, Ret_dListZip, RetS_augI, Ret_gcp, Ret_dItems, Ret_dSortSet, Ret_dFnK, RetS_for, Ret_ok, startW, List.map_cons, List.map_nil, List.length_cons, List.length_nil, List.cons_append, List.nil_append, List.replicate, Nat.sub_self, Nat.reduceSub, Nat.reduceAdd, List.getElem?_cons_zero, List.getElem?_cons_succ, List.set_cons_zero, List.set_cons_succ, Option.some.injEq, exists_eq_left', rd_d, on2_d, on1_d, c1_d, bOf_b, exists_eq_left, Option.map_some, Option.bind_some, W.d.injEq, Ret_gcd, List.take_length, dIx]
  rw [spoken_ok t ht, Ret_ok]
  refine ⟨_, _, rfl, (p.map ansD, none), rfl, ?_⟩
  refine for_inv (fun j σ T' => (∃ o4 o5, σ = [some (.d t.d), some (.d (pD p)), some (.r T.length), some (.d (t.run (p.take j)).1.sp.2.d), o4, o5]) ∧ ∃ ex, T' = T ++ [.lst (sts ((t.run (p.take j)).2 ++ (t.run (p.take j)).1.sp.1))] ++ ex) (p.map ansD) 0 _ _ ⟨⟨_, _, rfl⟩, [], by simp [Tr.run]⟩ ?_ ?_
  · rintro σ T' ⟨⟨o4, o5, rfl⟩, ex, rfl⟩
    rw [Nat.zero_add, List.length_map, List.take_length]
    refine ⟨_, rfl, .d (.tuple (sts ((t.run p).2 ++ (t.run p).1.sp.1))), ?_, rfl, by simp⟩
    simp only [CL.c1, on1, rd]
    rw [List.getElem?_append_left (by simp), last_at]
    rfl
  · rintro j x σ T' hx ⟨⟨o4, o5, rfl⟩, ex, rfl⟩
    rw [Nat.zero_add]
    obtain ⟨b, hb, rfl⟩ := at_pd hx
    have hj := (List.getElem?_eq_some_iff.mp hb).1
    have hs := run_size t (p.take j)
    have hs2 := run_size t (p.take j ++ [b])
    have hsp := (sp_size (t.run (p.take j ++ [b])).1).2
    refine ⟨_, rfl, ?_⟩
    simp only [RetS_cons, RetS_nil, RetS_set, RetS_drop, RetS_ret, RetS_if, RetS_asg, RetS_par, RetS_put, RetS_nx, RetS_rt, Ret_dFn, Ret_dCons, Ret_dNil, Ret_dBin, Ret_dUn, Ret_dCall, Ret_dCallN, Ret_dC, Ret_dG, Ret_dVar, Ret_dIf, Ret_dFz, Ret_dNew, Ret_dLst, Ret_dTup, Ret_dB, Ret_dAndT, Ret_dOrT, Ret_dNotT, Ret_dAnd, Ret_dOr, Ret_dNot, Ret_dIsi, Ret_dChain, Ret_dGet, Ret_dD0, Ret_dNoP, Ret_dPt, Ret_dSlA, Ret_dMeth, Ret_dAny, Ret_dLenSet, Ret_dZip, Ret_dZipL, Ret_dKeys, Ret_dRng1, Ret_dRng2, Ret_dLc, wipeW, Ret_dDc, RetS_putL, Ret_dTupP, RetS_asgP, Ret_dSnd, Ret_dD1T, Ret_dListZip, RetS_augI, Ret_gcp, Ret_dItems, Ret_dSortSet, Ret_dFnK, RetS_for, Ret_ok, startW, List.map_cons, List.map_nil, List.length_cons, List.length_nil, List.cons_append, List.nil_append, List.replicate, Nat.sub_self, Nat.reduceSub, Nat.reduceAdd, List.getElem?_cons_zero, List.getElem?_cons_succ, List.set_cons_zero, List.set_cons_succ, Option.some.injEq, exists_eq_left', rd_d, on2_d, on1_d, c1_d, bOf_b, exists_eq_left, Option.map_some, Option.bind_some, W.d.injEq, Ret_gcd, List.take_length, dIx]
    rw [one_ok (hp j hj), Ret_ok]
    rw [run_snoc] at hs2 hsp
    rw [spoken_ok _ (show ((t.run (p.take j)).1.step b).size < 40 by simp only [runS] at hs2; omega), Ret_ok, take_snoc hb, run_snoc]
    generalize t.run (p.take j) = s at *
    refine ⟨_, _, rfl, ?_⟩
    simp only [runS] at hs2 hsp ⊢
    simp only [List.length_append] at hs2
    generalize hW : sts (s.2 ++ s.1.sp.1) = W
    generalize hV : sts (s.1.step b).sp.1 = V
    have lW : W.length ≤ 100 := by rw [← hW, strs_len, List.length_append]; omega
    have lV : V.length ≤ 100 := by rw [← hV, strs_len]; omega
    have eA : (T ++ [O.lst W] ++ ex ++ [O.lst V])[T.length]? = some (O.lst W) := by
      rw [List.getElem?_append_left (by simp), List.getElem?_append_left (by simp), last_at]
    have eB : (T ++ [O.lst W] ++ ex ++ [O.lst V])[(T ++ [O.lst W] ++ ex).length]? = some (O.lst V) := last_at
    refine ⟨by simp only [tyM, eA]; rfl, .d .none, T ++ [O.lst (W ++ V)] ++ (ex ++ [O.lst V]), ?_, ⟨_, _, rfl⟩, ex ++ [O.lst V], by rw [← hW, ← hV]; simp [sts]⟩
    simp only [gExt, eA, seqD, rd, eB, Option.bind_some]
    rw [if_pos (small_of (m := 1000) (by omega))]
    congr 2
    rw [List.append_assoc, List.append_assoc, List.set_append_right _ _ (Nat.le_refl _)]
    simp
end LK33
end

section
/-! part LM33g -/
set_option Elab.async false
set_option linter.all false
set_option maxRecDepth 100000
set_option maxHeartbeats 1000000
/-! LM33g: questions, the law's own walk, is_path. -/
open CL
open PySem PySem.Spec PyProof.Rows L2
namespace LK33
/-- the question that stands next -/
def Tr.nq : Tr → PyData
  | .ask i c _ _ => .tuple [.str i, .tuple (sts c)]
  | _ => .none
theorem nq_ok {u : Tr} (h : u.isSay = false) {σ : En} {T : So} {i : Nat} (hi : σ[i]? = some (some (.d u.d))) {P : W → So → Prop} (hP : P (.d u.nq) T) :
    Ret (dIf (dB (dBin (on2 eqP) (dIx (dVar i) (dC (.int 0))) (dC (.str "stop")))) (dC .none) (dSlA (dVar i) (dPt (dC (.int 1))) (dPt (dC (.int 3)))) σ T) P := by
  obtain ⟨z, h1, h2, h3⟩ := at_t u
  simp only [dIx, Ret_dIf, Ret_dB, Ret_dBin, Ret_dVar, Ret_dC, Ret_dSlA, Ret_dPt]
  refine ⟨_, hi, _, om h1, _, om h3, _, rfl, ?_⟩
  cases u with
  | stop => rw [if_pos (show Tr.stop.isStop = true from rfl)]; exact hP
  | say w u => cases h
  | ask i c y n =>
    rw [if_neg (show ¬ (Tr.ask i c y n).isStop = true by simp [Tr.isStop])]
    exact ⟨_, hi, _, rfl, _, rfl, _, rfl, _, rfl, hP⟩
theorem next_path {t : Tr} {p : List Bool} (ht : t.size < 40) (hp : VP t p) (T : So) : f_next_question [.d t.d, .d (pD p)] T = some (.ok (.d (t.run p).1.sp.2.nq) T) := by
  refine Ret.eq (Ret_fnB rfl ?_)
  unfold b_next_question
  have hs := run_size t p
  rw [RetS_cons, RetS_asgP]
  simp only [Ret_dFn, Ret_dCons, Ret_dNil, Ret_dVar]
  refine ⟨_, rfl, _, rfl, ?_⟩
  rw [after_path ht hp, Ret_ok, spoken_ok _ (by omega), Ret_ok]
  refine ⟨_, _, rfl, ?_⟩
  rw [RetS_cons, RetS_ret]
  refine nq_ok (sp_say _) rfl ?_
  rw [Ret_gcd]
  exact ⟨rfl, by simp⟩
theorem set4 {α : Type} {a b : Nat} (ab : a ≠ b) (l : List α) (x y z w : α) : (((l.set a x).set b y).set a z).set b w = (l.set a z).set b w := by
  have e : ((l.set a x).set b y).set a z = ((l.set a x).set a z).set b y := List.set_comm _ _ (Ne.symm ab)
  rw [e, List.set_set, List.set_set]
/-- the law's own skipping of what is said: slot a holds the words, slot b the tree -/
theorem skip_ok {σ : En} {T : So} {a b : Nat} {pre : List Str} {u : Tr} {N : En → So → Prop} {R : W → So → Prop} (ab : a ≠ b) (la : a < σ.length) (lb : b < σ.length) (ha : σ[a]? = some (some (.d (.tuple (sts pre))))) (hb : σ[b]? = some (some (.d u.d))) (hs : pre.length + u.size < 40)
    {sw : DS} (hsw : ∀ (σ' : En) (w : Str) (v : Tr) (pre' : List Str), σ'[a]? = some (some (.d (.tuple (sts pre')))) → σ'[b]? = some (some (.d (Tr.say w v).d)) → pre'.length < 40 → ∀ N' : En → So → Prop, N' ((σ'.set a (some (.d (.tuple (sts (pre' ++ [w])))))).set b (some (.d v.d))) T → RetS (sw σ' T) N' R)
    (hN : N ((σ.set a (some (.d (.tuple (sts (pre ++ u.sp.1)))))).set b (some (.d u.sp.2.d))) T) :
    RetS (whGo (dB (dBin (on2 eqP) (dIx (dVar b) (dC (.int 0))) (dC (.str "say")))) sw 40 σ T) N R := by
  refine wh_inv (fun m σ' T' => ∃ (v : Tr) (pre' : List Str), T' = T ∧ σ' = (σ.set a (some (.d (.tuple (sts pre'))))).set b (some (.d v.d)) ∧ v.size = m ∧ pre'.length + m < 40 ∧ (pre' ++ v.sp.1, v.sp.2) = (pre ++ u.sp.1, u.sp.2)) 40 u.size σ T ⟨u, pre, rfl, ?_, rfl, hs, rfl⟩ (by omega) ?_
  · rw [set_same (l := σ) ha, set_same hb]
  · rintro m σ' T' ⟨v, pre', rfl, rfl, hv, hl, hsp⟩
    have ga : ((σ.set a (some (.d (.tuple (sts pre'))))).set b (some (W.d v.d)))[a]? = some (some (.d (.tuple (sts pre')))) := by
      rw [List.getElem?_set_ne (Ne.symm ab), List.getElem?_set_self la]
    have gb : ((σ.set a (some (.d (.tuple (sts pre'))))).set b (some (W.d v.d)))[b]? = some (some (.d v.d)) := by
      rw [List.getElem?_set_self (by simpa using lb)]
    obtain ⟨z, h1, h2, h3⟩ := at_t v
    simp only [dIx, Ret_dB, Ret_dBin, Ret_dVar, Ret_dC]
    refine ⟨_, gb, _, om h1, _, om h2, _, rfl, ?_⟩
    have fin : v.sp = ([], v) → N ((σ.set a (some (.d (.tuple (sts pre'))))).set b (some (.d v.d))) T' := fun e => by
      rw [e, List.append_nil] at hsp
      obtain ⟨e1, e2⟩ := Prod.mk.inj hsp
      rw [← e1, ← e2] at hN
      exact hN
    cases v with
    | stop => rw [if_neg (show ¬ Tr.stop.isSay = true by decide)]; exact fin rfl
    | ask i c y n => rw [if_neg (show ¬ (Tr.ask i c y n).isSay = true by simp [Tr.isSay])]; exact fin rfl
    | say w v =>
      rw [if_pos (show (Tr.say w v).isSay = true from rfl)]
      simp only [Tr.size] at hv
      refine hsw _ w v pre' ga gb (by omega) _ ⟨v.size, by omega, v, pre' ++ [w], rfl, ?_, rfl, by simp; omega, ?_⟩
      · exact set4 ab _ _ _ _ _
      · rw [← hsp]; simp [Tr.sp]
theorem lafter_path {t : Tr} {p : List Bool} (ht : t.size < 40) (hp : VP t p) (T : So) : f_l_after [.d t.d, .d (pD p)] T = some (.ok (.d (.tuple [(t.run p).1.d, .tuple (sts (t.run p).2)])) T) := by
  refine Ret.eq (Ret_fnB rfl ?_)
  unfold b_l_after
  rw [RetS_cons, RetS_par]
  refine Ret.of (a := [.d (.tuple []), .d t.d]) (S := T) rfl ?_
  refine ⟨_, rfl, ?_⟩
  rw [RetS_cons, RetS_for]
  simp only [Ret_dAny, Ret_dVar]
  refine ⟨_, rfl, (p.map ansD, none), rfl, ?_⟩
  refine for_inv (fun j σ T' => (∃ o, σ = [some (.d t.d), some (.d (pD p)), some (.d (.tuple (sts (t.run (p.take j)).2))), some (.d (t.run (p.take j)).1.d), o]) ∧ T' = T) (p.map ansD) 0 _ _ ⟨⟨_, rfl⟩, rfl⟩ ?_ ?_
  · rintro σ T' ⟨⟨o, rfl⟩, rfl⟩
    rw [Nat.zero_add, List.length_map, List.take_length]
    simp only [RetS_cons, RetS_nil, RetS_set, RetS_drop, RetS_ret, RetS_if, RetS_asg, RetS_par, RetS_put, RetS_nx, RetS_rt, Ret_dFn, Ret_dCons, Ret_dNil, Ret_dBin, Ret_dUn, Ret_dCall, Ret_dCallN, Ret_dC, Ret_dG, Ret_dVar, Ret_dIf, Ret_dFz, Ret_dNew, Ret_dLst, Ret_dTup, Ret_dB, Ret_dAndT, Ret_dOrT, Ret_dNotT, Ret_dAnd, Ret_dOr, Ret_dNot, Ret_dIsi, Ret_dChain, Ret_dGet, Ret_dD0, Ret_dNoP, Ret_dPt, Ret_dSlA, Ret_dMeth, Ret_dAny, Ret_dLenSet, Ret_dZip, Ret_dZipL, Ret_dKeys, Ret_dRng1, Ret_dRng2, Ret_dLc, wipeW, Ret_dDc, RetS_putL, Ret_dTupP, RetS_asgP, Ret_dSnd, Ret_dD1T, Ret_dListZip, RetS_augI, Ret_gcp, Ret_dItems, Ret_dSortSet, Ret_dFnK, RetS_for, Ret_ok, startW, List.map_cons, List.map_nil, List.length_cons, List.length_nil, List.cons_append, List.nil_append, List.replicate, Nat.sub_self, Nat.reduceSub, Nat.reduceAdd, List.getElem?_cons_zero, List.getElem?_cons_succ, List.set_cons_zero, List.set_cons_succ, Option.some.injEq, exists_eq_left', rd_d, on2_d, on1_d, c1_d, bOf_b, exists_eq_left, Option.map_some, Option.bind_some, W.d.injEq, Ret_gcd, List.take_length, dIx]
    exact ⟨_, rfl, rfl, trivial⟩
  · rintro j x σ T' hx ⟨⟨o, rfl⟩, rfl⟩
    rw [Nat.zero_add]
    obtain ⟨b, hb, rfl⟩ := at_pd hx
    have hj := (List.getElem?_eq_some_iff.mp hb).1
    have hs := run_size t (p.take j)
    obtain ⟨i, c, y, n, hsp⟩ := hp j hj
    refine ⟨_, rfl, ?_⟩
    rw [RetS_cons]
    refine skip_ok (a := 2) (b := 3) (pre := (t.run (p.take j)).2) (u := (t.run (p.take j)).1) (by decide) (by simp) (by simp) rfl rfl (by omega) ?_ ?_
    · intro σ' w v pre' h2 h3 hl N' hN'
      simp only [RetS_cons, RetS_nil, RetS_set, RetS_drop, RetS_ret, RetS_if, RetS_asg, RetS_par, RetS_put, RetS_nx, RetS_rt, Ret_dFn, Ret_dCons, Ret_dNil, Ret_dBin, Ret_dUn, Ret_dCall, Ret_dCallN, Ret_dC, Ret_dG, Ret_dVar, Ret_dIf, Ret_dFz, Ret_dNew, Ret_dLst, Ret_dTup, Ret_dB, Ret_dAndT, Ret_dOrT, Ret_dNotT, Ret_dAnd, Ret_dOr, Ret_dNot, Ret_dIsi, Ret_dChain, Ret_dGet, Ret_dD0, Ret_dNoP, Ret_dPt, Ret_dSlA, Ret_dMeth, Ret_dAny, Ret_dLenSet, Ret_dZip, Ret_dZipL, Ret_dKeys, Ret_dRng1, Ret_dRng2, Ret_dLc, wipeW, Ret_dDc, RetS_putL, Ret_dTupP, RetS_asgP, Ret_dSnd, Ret_dD1T, Ret_dListZip, RetS_augI, Ret_gcp, Ret_dItems, Ret_dSortSet, Ret_dFnK, RetS_for, Ret_ok, startW, List.map_cons, List.map_nil, List.length_cons, List.length_nil, List.cons_append, List.nil_append, List.replicate, Nat.sub_self, Nat.reduceSub, Nat.reduceAdd, List.getElem?_cons_zero, List.getElem?_cons_succ, List.set_cons_zero, List.set_cons_succ, Option.some.injEq, exists_eq_left', rd_d, on2_d, on1_d, c1_d, bOf_b, exists_eq_left, Option.map_some, Option.bind_some, W.d.injEq, Ret_gcd, List.take_length, dIx]
      refine ⟨_, h2, _, h3, .d (.str w), rfl, [.str w], rfl, .d (.tuple (sts pre' ++ [.str w])), addT (by rw [strs_len]; simp; omega), _, h3, .d v.d, rfl, _, rfl, ?_⟩
      have e : sts pre' ++ [.str w] = sts (pre' ++ [w]) := by simp [sts]
      rw [e]; exact hN'
    · rw [RetS_cons, RetS_set, hsp]
      have e : eqP (ansD b) (.str "yes") = some (.bool b) := by cases b <;> exact eqSb
      rw [take_snoc hb, run_snoc]
      simp only [runS, Tr.step, hsp]
      simp only [dIx, Ret_dIf, Ret_dB, Ret_dBin, Ret_dVar, Ret_dC, RetS_nil]
      refine ⟨_, rfl, _, om e, _, rfl, ?_⟩
      cases b with
      | true => rw [if_pos rfl]; exact ⟨_, rfl, .d y.d, rfl, ⟨_, rfl⟩, trivial⟩
      | false => rw [if_neg (by decide)]; exact ⟨_, rfl, .d n.d, rfl, ⟨_, rfl⟩, trivial⟩
theorem lnext_path {t : Tr} {p : List Bool} (ht : t.size < 40) (hp : VP t p) (T : So) : f_l_next [.d t.d, .d (pD p)] T = some (.ok (.d (.tuple [(t.run p).1.sp.2.nq, .tuple (sts ((t.run p).2 ++ (t.run p).1.sp.1))])) T) := by
  refine Ret.eq (Ret_fnB rfl ?_)
  unfold b_l_next
  have hs := run_size t p
  rw [RetS_cons, RetS_asg]
  simp only [Ret_dFn, Ret_dCons, Ret_dNil, Ret_dVar]
  refine ⟨_, rfl, _, rfl, ?_⟩
  rw [lafter_path ht hp, Ret_ok]
  refine ⟨_, rfl, ?_⟩
  rw [RetS_cons]
  refine skip_ok (a := 3) (b := 2) (pre := (t.run p).2) (u := (t.run p).1) (by decide) (by simp [startW]) (by simp [startW]) rfl rfl (by omega) ?_ ?_
  · intro σ' w v pre' h2 h3 hl N' hN'
    simp only [RetS_cons, RetS_nil, RetS_set, RetS_drop, RetS_ret, RetS_if, RetS_asg, RetS_par, RetS_put, RetS_nx, RetS_rt, Ret_dFn, Ret_dCons, Ret_dNil, Ret_dBin, Ret_dUn, Ret_dCall, Ret_dCallN, Ret_dC, Ret_dG, Ret_dVar, Ret_dIf, Ret_dFz, Ret_dNew, Ret_dLst, Ret_dTup, Ret_dB, Ret_dAndT, Ret_dOrT, Ret_dNotT, Ret_dAnd, Ret_dOr, Ret_dNot, Ret_dIsi, Ret_dChain, Ret_dGet, Ret_dD0, Ret_dNoP, Ret_dPt, Ret_dSlA, Ret_dMeth, Ret_dAny, Ret_dLenSet, Ret_dZip, Ret_dZipL, Ret_dKeys, Ret_dRng1, Ret_dRng2, Ret_dLc, wipeW, Ret_dDc, RetS_putL, Ret_dTupP, RetS_asgP, Ret_dSnd, Ret_dD1T, Ret_dListZip, RetS_augI, Ret_gcp, Ret_dItems, Ret_dSortSet, Ret_dFnK, RetS_for, Ret_ok, startW, List.map_cons, List.map_nil, List.length_cons, List.length_nil, List.cons_append, List.nil_append, List.replicate, Nat.sub_self, Nat.reduceSub, Nat.reduceAdd, List.getElem?_cons_zero, List.getElem?_cons_succ, List.set_cons_zero, List.set_cons_succ, Option.some.injEq, exists_eq_left', rd_d, on2_d, on1_d, c1_d, bOf_b, exists_eq_left, Option.map_some, Option.bind_some, W.d.injEq, Ret_gcd, List.take_length, dIx]
    refine ⟨_, h2, _, h3, .d (.str w), rfl, [.str w], rfl, .d (.tuple (sts pre' ++ [.str w])), addT (by rw [strs_len]; simp; omega), _, h3, .d v.d, rfl, _, rfl, ?_⟩
    have e : sts pre' ++ [.str w] = sts (pre' ++ [w]) := by simp [sts]
    rw [e]; exact hN'
  · rw [RetS_cons, RetS_ret, Ret_dTup, Ret_dCons]
    refine nq_ok (u := (t.run p).1.sp.2) (sp_say _) rfl ?_
    simp only [Ret_dCons, Ret_dVar, Ret_dNil]
    refine ⟨_, rfl, _, rfl, ?_⟩
    rw [Ret_gcd]
    exact ⟨rfl, List.take_length⟩
/-! ### is_path, of any value -/
def ansB : PyData → Option Bool
  | .str z => if z = "yes" then some true else if z = "no" then some false else none
  | _ => none
theorem ansB_of {x : PyData} {b : Bool} (h : ansB x = some b) : x = ansD b := by
  unfold ansB at h
  split at h
  · split at h
    · rename_i e; cases h; rw [e]; rfl
    · split at h
      · rename_i e; cases h; rw [e]; rfl
      · cases h
  · cases h
theorem ansB_d (b : Bool) : ansB (ansD b) = some b := by cases b <;> decide +kernel
theorem is_answer_ok {x : PyData} {b d : Nat} (h : Gd b d x) (hd : d ≤ 60) (T : So) : f_is_answer [.d x] T = some (.ok (.d (.bool (ansB x).isSome)) T) := by
  refine Ret.eq (Ret_fnB rfl ?_)
  unfold b_is_answer
  simp only [RetS_cons, RetS_nil, RetS_set, RetS_drop, RetS_ret, RetS_if, RetS_asg, RetS_par, RetS_put, RetS_nx, RetS_rt, Ret_dFn, Ret_dCons, Ret_dNil, Ret_dBin, Ret_dUn, Ret_dCall, Ret_dCallN, Ret_dC, Ret_dG, Ret_dVar, Ret_dIf, Ret_dFz, Ret_dNew, Ret_dLst, Ret_dTup, Ret_dB, Ret_dAndT, Ret_dOrT, Ret_dNotT, Ret_dAnd, Ret_dOr, Ret_dNot, Ret_dIsi, Ret_dChain, Ret_dGet, Ret_dD0, Ret_dNoP, Ret_dPt, Ret_dSlA, Ret_dMeth, Ret_dAny, Ret_dLenSet, Ret_dZip, Ret_dZipL, Ret_dKeys, Ret_dRng1, Ret_dRng2, Ret_dLc, wipeW, Ret_dDc, RetS_putL, Ret_dTupP, RetS_asgP, Ret_dSnd, Ret_dD1T, Ret_dListZip, RetS_augI, Ret_gcp, Ret_dItems, Ret_dSortSet, Ret_dFnK, RetS_for, Ret_ok, startW, List.map_cons, List.map_nil, List.length_cons, List.length_nil, List.cons_append, List.nil_append, List.replicate, Nat.sub_self, Nat.reduceSub, Nat.reduceAdd, List.getElem?_cons_zero, List.getElem?_cons_succ, List.set_cons_zero, List.set_cons_succ, Option.some.injEq, exists_eq_left', rd_d, on2_d, on1_d, c1_d, bOf_b, exists_eq_left, Option.map_some, Option.bind_some, W.d.injEq, Ret_gcd, List.take_length, dIx]
  have hok := h.okD (by omega)
  cases x with
  | str z =>
    refine ⟨.bool true, rfl, true, rfl, ?_⟩
    rw [if_pos rfl]
    have hz : signOk z = true := by simpa [okd] using h.ok
    refine ⟨[.str "yes", .str "no"], rfl, .d (.bool (memD (.str z) [.str "yes", .str "no"])), ?_, ?_⟩
    · have e : inP false (.str z) (.tuple [.str "yes", .str "no"]) = some (.bool (memD (.str z) [.str "yes", .str "no"] ^^ false)) := by
        show (if (okD (.str z) && okD (.tuple [.str "yes", .str "no"])) = true then _ else none) = _
        rw [hok, show okD (.tuple [.str "yes", .str "no"]) = true by decide +kernel]; rfl
      exact om (e.trans (by simp))
    · rw [Ret_gcd]
      refine ⟨?_, List.take_length⟩
      congr 2
      have e1 : ∀ a : Str, PyData.eqv (.str a) (.str z) = decide (z = a) := fun a => by
        simp only [PyData.eqv]
        by_cases h : z = a
        · subst h; simp
        · have : a ≠ z := fun e => h e.symm
          simp [h, this]
      simp only [memD, List.any_cons, List.any_nil, Bool.or_false, e1, ansB]
      by_cases h1 : z = "yes"
      · simp [h1]
      · by_cases h2 : z = "no"
        · subst h2; decide +kernel
        · simp [h1, h2]
  | dict _ => have := h.ok; simp [okd] at this
  | _ =>
    refine ⟨.bool false, rfl, false, rfl, ?_⟩
    rw [if_neg (by decide)]
    exact ⟨rfl, trivial⟩
end LK33
end

section
/-! part LM33h -/
set_option Elab.async false
set_option linter.all false
set_option maxRecDepth 100000
set_option maxHeartbeats 1000000
/-! LM33h: is_path; the starts of paths. -/
open CL
open PySem PySem.Spec PyProof.Rows L2
namespace LK33
theorem Ret_ex {α : Type} {m : M α} {P : α → So → Prop} (h : Ret m P) : ∃ a S, m = some (.ok a S) ∧ P a S := by
  unfold Ret at h
  split at h
  · exact ⟨_, _, rfl, h⟩
  · exact h.elim
theorem ansD_inj : ∀ {p q : List Bool}, p.map ansD = q.map ansD → p = q
  | [], [], _ => rfl
  | [], _ :: _, h => by simp at h
  | _ :: _, [], h => by simp at h
  | a :: p, b :: q, h => by
    simp only [List.map_cons, List.cons.injEq] at h
    have h1 := congrArg ansB h.1
    rw [ansB_d, ansB_d] at h1
    rw [Option.some.inj h1, ansD_inj h.2]
def IsP (t : Tr) (v : PyData) : Prop := ∃ p, v = pD p ∧ VP t p
theorem is_path_ok {t : Tr} {v : PyData} {b d : Nat} (ht : t.size < 40) (hv : Gd b d v) (hd : d ≤ 40) (T : So) : ∃ c, f_is_path [.d t.d, .d v] T = some (.ok (.d (.bool c)) T) ∧ (c = true ↔ IsP t v) := by
  have key : Ret (f_is_path [.d t.d, .d v] T) fun w T' => (∃ c, w = .d (.bool c) ∧ (c = true ↔ IsP t v)) ∧ T' = T := by
    refine Ret_fnB rfl ?_
    unfold b_is_path
    have no : ∀ {v : PyData}, (∀ xs, v ≠ .tuple xs) → (false = true ↔ IsP t v) := fun {v} hn => ⟨fun h => (by cases h), fun ⟨p, e, _⟩ => absurd e (hn _)⟩
    cases v with
    | dict _ => have := hv.ok; simp [okd] at this
    | tuple xs =>
      simp only [RetS_cons, RetS_nil, RetS_set, RetS_drop, RetS_ret, RetS_if, RetS_asg, RetS_par, RetS_put, RetS_nx, RetS_rt, Ret_dFn, Ret_dCons, Ret_dNil, Ret_dBin, Ret_dUn, Ret_dCall, Ret_dCallN, Ret_dC, Ret_dG, Ret_dVar, Ret_dIf, Ret_dFz, Ret_dNew, Ret_dLst, Ret_dTup, Ret_dB, Ret_dAndT, Ret_dOrT, Ret_dNotT, Ret_dAnd, Ret_dOr, Ret_dNot, Ret_dIsi, Ret_dChain, Ret_dGet, Ret_dD0, Ret_dNoP, Ret_dPt, Ret_dSlA, Ret_dMeth, Ret_dAny, Ret_dLenSet, Ret_dZip, Ret_dZipL, Ret_dKeys, Ret_dRng1, Ret_dRng2, Ret_dLc, wipeW, Ret_dDc, RetS_putL, Ret_dTupP, RetS_asgP, Ret_dSnd, Ret_dD1T, Ret_dListZip, RetS_augI, Ret_gcp, Ret_dItems, Ret_dSortSet, Ret_dFnK, RetS_for, Ret_ok, startW, List.map_cons, List.map_nil, List.length_cons, List.length_nil, List.cons_append, List.nil_append, List.replicate, Nat.sub_self, Nat.reduceSub, Nat.reduceAdd, List.getElem?_cons_zero, List.getElem?_cons_succ, List.set_cons_zero, List.set_cons_succ, Option.some.injEq, exists_eq_left', rd_d, on2_d, on1_d, c1_d, bOf_b, exists_eq_left, Option.map_some, Option.bind_some, W.d.injEq, Ret_gcd, List.take_length, dIx]
      refine ⟨.bool true, rfl, true, rfl, ?_⟩
      rw [if_neg (by decide), spoken_ok t ht, Ret_ok]
      refine ⟨_, _, rfl, (xs, none), rfl, ?_⟩
      refine for_inv (fun j σ T' => (∃ (q : List Bool) (m : Nat) (o : Option W), q.map ansD = xs.take j ∧ VP t q ∧ σ = [some (.d t.d), some (.d (.tuple xs)), some (.r m), some (.d (t.run q).1.sp.2.d), o]) ∧ ∃ ex, T' = T ++ ex) xs 0 _ _ ⟨⟨[], _, _, rfl, fun j h => by simp at h, rfl⟩, _, rfl⟩ ?_ ?_
      · rintro σ T' ⟨⟨q, m, o, hq, hv2, rfl⟩, ex, rfl⟩
        rw [Nat.zero_add, List.take_length] at hq
        refine ⟨⟨true, rfl, fun _ => ⟨q, by rw [pD, hq], hv2⟩, fun _ => rfl⟩, by simp⟩
      · rintro j x σ T' hx ⟨⟨q, m, o, hq, hv2, rfl⟩, ex, rfl⟩
        rw [Nat.zero_add] at hq ⊢
        have hj := (List.getElem?_eq_some_iff.mp hx).1
        have hql : q.length = j := by
          have := congrArg List.length hq
          rw [List.length_map, List.length_take] at this; omega
        have hgx : Gd b (d - 1) x := hv.ofTuple.mem (List.mem_of_getElem? hx)
        refine ⟨_, rfl, ?_⟩
        simp only [RetS_cons, RetS_nil, RetS_set, RetS_drop, RetS_ret, RetS_if, RetS_asg, RetS_par, RetS_put, RetS_nx, RetS_rt, Ret_dFn, Ret_dCons, Ret_dNil, Ret_dBin, Ret_dUn, Ret_dCall, Ret_dCallN, Ret_dC, Ret_dG, Ret_dVar, Ret_dIf, Ret_dFz, Ret_dNew, Ret_dLst, Ret_dTup, Ret_dB, Ret_dAndT, Ret_dOrT, Ret_dNotT, Ret_dAnd, Ret_dOr, Ret_dNot, Ret_dIsi, Ret_dChain, Ret_dGet, Ret_dD0, Ret_dNoP, Ret_dPt, Ret_dSlA, Ret_dMeth, Ret_dAny, Ret_dLenSet, Ret_dZip, Ret_dZipL, Ret_dKeys, Ret_dRng1, Ret_dRng2, Ret_dLc, wipeW, Ret_dDc, RetS_putL, Ret_dTupP, RetS_asgP, Ret_dSnd, Ret_dD1T, Ret_dListZip, RetS_augI, Ret_gcp, Ret_dItems, Ret_dSortSet, Ret_dFnK, RetS_for, Ret_ok, startW, List.map_cons, List.map_nil, List.length_cons, List.length_nil, List.cons_append, List.nil_append, List.replicate, Nat.sub_self, Nat.reduceSub, Nat.reduceAdd, List.getElem?_cons_zero, List.getElem?_cons_succ, List.set_cons_zero, List.set_cons_succ, Option.some.injEq, exists_eq_left', rd_d, on2_d, on1_d, c1_d, bOf_b, exists_eq_left, Option.map_some, Option.bind_some, W.d.injEq, Ret_gcd, List.take_length, dIx]
        rw [is_answer_ok hgx (by omega), Ret_ok]
        refine ⟨_, rfl, ?_⟩
        have tk : xs.take (j + 1) = xs.take j ++ [x] := by rw [List.take_succ, hx, Option.toList_some]
        cases hb : ansB x with
        | none =>
          rw [if_pos (show (!(none : Option Bool).isSome) = true from rfl), if_pos trivial]
          refine ⟨⟨false, rfl, fun h => (by cases h), fun ⟨p, e, _⟩ => ?_⟩, by simp⟩
          simp only [pD, PyData.tuple.injEq] at e
          subst e
          rw [List.getElem?_map] at hx
          obtain ⟨c, _, rfl⟩ := Option.map_eq_some_iff.mp hx
          rw [ansB_d] at hb; cases hb
        | some c =>
          rw [if_neg (show ¬ (!(some c : Option Bool).isSome) = true by simp)]
          have hxc := ansB_of hb
          subst hxc
          obtain ⟨z, h1, h2, h3⟩ := at_t (t.run q).1.sp.2
          refine ⟨_, om h1, _, om h3, _, rfl, ?_⟩
          have hs := run_size t q
          have hns := sp_say (t.run q).1
          cases hu : (t.run q).1.sp.2 with
          | say w u => rw [hu] at hns; cases hns
          | stop =>
            rw [if_pos (show Tr.stop.isStop = true from rfl)]
            refine ⟨⟨false, rfl, fun h => (by cases h), fun ⟨p, e, hp⟩ => ?_⟩, by simp⟩
            simp only [pD, PyData.tuple.injEq] at e
            subst e
            rw [← List.map_take] at hq
            have := ansD_inj hq
            subst this
            rw [List.length_map] at hj
            obtain ⟨i, k, y, n, e⟩ := hp j hj
            rw [hu] at e; cases e
          | ask i k y n =>
            rw [if_neg (show ¬ (Tr.ask i k y n).isStop = true by simp [Tr.isStop])]
            have ask : ∃ i c y n, (t.run q).1.sp.2 = .ask i c y n := ⟨i, k, y, n, hu⟩
            have o1 := one_ok (b := c) ask (T ++ ex)
            rw [hu] at o1
            rw [o1, Ret_ok]
            have hs2 := run_size t (q ++ [c])
            rw [run_snoc] at hs2
            rw [spoken_ok _ (show ((t.run q).1.step c).size < 40 by simp only [runS] at hs2; omega), Ret_ok]
            refine ⟨_, _, rfl, ⟨q ++ [c], _, _, by rw [List.map_append, hq, tk]; rfl, ?_, by rw [run_snoc]; rfl⟩, _, by rw [List.append_assoc]⟩
            intro l hl
            by_cases hl2 : l < q.length
            · rw [List.take_append_of_le_length (by omega)]; exact hv2 l hl2
            · have : l = q.length := by simp at hl; omega
              subst this
              rw [List.take_append_of_le_length (Nat.le_refl _), List.take_length]
              exact ask
    | _ =>
      simp only [RetS_cons, RetS_nil, RetS_set, RetS_drop, RetS_ret, RetS_if, RetS_asg, RetS_par, RetS_put, RetS_nx, RetS_rt, Ret_dFn, Ret_dCons, Ret_dNil, Ret_dBin, Ret_dUn, Ret_dCall, Ret_dCallN, Ret_dC, Ret_dG, Ret_dVar, Ret_dIf, Ret_dFz, Ret_dNew, Ret_dLst, Ret_dTup, Ret_dB, Ret_dAndT, Ret_dOrT, Ret_dNotT, Ret_dAnd, Ret_dOr, Ret_dNot, Ret_dIsi, Ret_dChain, Ret_dGet, Ret_dD0, Ret_dNoP, Ret_dPt, Ret_dSlA, Ret_dMeth, Ret_dAny, Ret_dLenSet, Ret_dZip, Ret_dZipL, Ret_dKeys, Ret_dRng1, Ret_dRng2, Ret_dLc, wipeW, Ret_dDc, RetS_putL, Ret_dTupP, RetS_asgP, Ret_dSnd, Ret_dD1T, Ret_dListZip, RetS_augI, Ret_gcp, Ret_dItems, Ret_dSortSet, Ret_dFnK, RetS_for, Ret_ok, startW, List.map_cons, List.map_nil, List.length_cons, List.length_nil, List.cons_append, List.nil_append, List.replicate, Nat.sub_self, Nat.reduceSub, Nat.reduceAdd, List.getElem?_cons_zero, List.getElem?_cons_succ, List.set_cons_zero, List.set_cons_succ, Option.some.injEq, exists_eq_left', rd_d, on2_d, on1_d, c1_d, bOf_b, exists_eq_left, Option.map_some, Option.bind_some, W.d.injEq, Ret_gcd, List.take_length, dIx]
      refine ⟨.bool false, rfl, false, rfl, ?_⟩
      rw [if_pos (by decide)]
      exact ⟨⟨false, rfl, no (by simp)⟩, by simp⟩
  obtain ⟨w, S, e, ⟨c, rfl, h⟩, rfl⟩ := Ret_ex key
  exact ⟨c, e, h⟩
end LK33
end

section
/-! part LM33i -/
set_option Elab.async false
set_option linter.all false
set_option maxRecDepth 100000
set_option maxHeartbeats 1000000
/-! LM33i: the starts of paths; the law's comparison. -/
open CL
open PySem PySem.Spec PyProof.Rows L2
namespace LK33
theorem run_fst : ∀ (p : List Bool) (s : Tr × List Str), (p.foldl runS s).1 = p.foldl Tr.step s.1
  | [], _ => rfl
  | b :: p, s => by rw [List.foldl_cons, List.foldl_cons, run_fst p]; rfl
def AskT (t : Tr) : Prop := ∃ i c y n, t.sp.2 = .ask i c y n
theorem vp_nil (t : Tr) : VP t [] := fun j h => by simp at h
theorem vp_cons {t : Tr} {b : Bool} {p : List Bool} : VP t (b :: p) ↔ AskT t ∧ VP (t.step b) p := by
  constructor
  · intro h
    refine ⟨h 0 (by simp), fun j hj => ?_⟩
    have := h (j + 1) (by simpa using hj)
    simp only [Tr.run, run_fst] at this ⊢
    exact this
  · rintro ⟨h0, h⟩ j hj
    cases j with
    | zero => exact h0
    | succ j =>
      have := h j (by simpa using hj)
      simp only [Tr.run, run_fst] at this ⊢
      exact this
theorem paths_ne : ∀ t : Tr, ∃ p, p ∈ t.paths
  | .stop => ⟨[], by simp [Tr.paths, Tr.ways]⟩
  | .say w t => by
    obtain ⟨p, hp⟩ := paths_ne t
    refine ⟨p, ?_⟩
    have e : (Tr.say w t).paths = t.paths := by
      simp only [Tr.paths, Tr.ways, List.map_map]; rfl
    rw [e]; exact hp
  | .ask i c y n => by
    obtain ⟨p, hp⟩ := paths_ne n
    exact ⟨false :: p, by rw [paths_ask]; exact List.mem_append_left _ (List.mem_map.mpr ⟨p, hp, rfl⟩)⟩
theorem pre_vp : ∀ (t : Tr) (p : List Bool), (∃ r, p ++ r ∈ t.paths) ↔ VP t p
  | t, [] => ⟨fun _ => vp_nil t, fun _ => by obtain ⟨p, hp⟩ := paths_ne t; exact ⟨p, hp⟩⟩
  | .stop, b :: p => by
    rw [vp_cons]
    constructor
    · rintro ⟨r, hr⟩; simp [Tr.paths, Tr.ways] at hr
    · rintro ⟨⟨i, c, y, n, e⟩, _⟩; cases e
  | .say w t, b :: p => by
    have e : (Tr.say w t).paths = t.paths := by
      simp only [Tr.paths, Tr.ways, List.map_map]; rfl
    rw [e, pre_vp t (b :: p), vp_cons, vp_cons]
    exact Iff.rfl
  | .ask i c y n, b :: p => by
    rw [paths_ask, vp_cons]
    have key : (∃ r, (b :: p) ++ r ∈ (n.paths.map (false :: ·)) ++ y.paths.map (true :: ·)) ↔ ∃ r, p ++ r ∈ (if b = true then y else n).paths := by
      constructor
      · rintro ⟨r, hr⟩
        refine ⟨r, ?_⟩
        rcases List.mem_append.mp hr with hr | hr
        · obtain ⟨q, hq, e⟩ := List.mem_map.mp hr
          simp only [List.cons_append, List.cons.injEq] at e
          obtain ⟨e1, e2⟩ := e
          subst e1; subst e2; exact hq
        · obtain ⟨q, hq, e⟩ := List.mem_map.mp hr
          simp only [List.cons_append, List.cons.injEq] at e
          obtain ⟨e1, e2⟩ := e
          subst e1; subst e2; exact hq
      · rintro ⟨r, hr⟩
        refine ⟨r, ?_⟩
        cases b with
        | true => exact List.mem_append_right _ (List.mem_map.mpr ⟨_, hr, rfl⟩)
        | false => exact List.mem_append_left _ (List.mem_map.mpr ⟨_, hr, rfl⟩)
    rw [key]
    cases b with
    | true => exact (pre_vp y p).trans ⟨fun h => ⟨⟨i, c, y, n, rfl⟩, h⟩, fun h => h.2⟩
    | false => exact (pre_vp n p).trans ⟨fun h => ⟨⟨i, c, y, n, rfl⟩, h⟩, fun h => h.2⟩
theorem eqv_ans (a b : Bool) : PyData.eqv (ansD a) (ansD b) = decide (a = b) := by cases a <;> cases b <;> decide +kernel
theorem eqv_pD : ∀ (p q : List Bool), PyData.eqvAll (p.map ansD) (q.map ansD) = decide (p = q)
  | [], [] => by simp [PyData.eqvAll]
  | [], _ :: _ => by simp [PyData.eqvAll]
  | _ :: _, [] => by simp [PyData.eqvAll]
  | a :: p, b :: q => by
    simp only [List.map_cons, PyData.eqvAll, eqv_ans, eqv_pD p q]
    by_cases h1 : a = b <;> by_cases h2 : p = q <;> simp [h1, h2]
theorem mem_pD (p : List Bool) (L : List (List Bool)) : memD (pD p) (L.map pD) = decide (p ∈ L) := by
  unfold memD
  rw [Bool.eq_iff_iff, List.any_eq_true, decide_eq_true_eq]
  constructor
  · rintro ⟨z, hz, e⟩
    obtain ⟨q, hq, rfl⟩ := List.mem_map.mp hz
    have : q = p := by simpa [pD, PyData.eqv, eqv_pD] using e
    subst this; exact hq
  · intro h
    exact ⟨pD p, List.mem_map.mpr ⟨p, h, rfl⟩, by simp [pD, PyData.eqv, eqv_pD]⟩
theorem ans_gd (b : Bool) : Gd 3 0 (ansD b) := by cases b <;> exact gdB_of (by decide +kernel)
theorem pD_gd {p : List Bool} {m : Nat} (h : p.length ≤ m) : Gd (m * 4) 1 (pD p) := by
  have := Gd.tuple (Gds.of_mem (xs := p.map ansD) (b := 3) (d := 0) fun x hx => by
    obtain ⟨b, _, rfl⟩ := List.mem_map.mp hx
    exact ans_gd b)
  exact this.mono (by rw [List.length_map]; exact Nat.mul_le_mul_right _ h) (Nat.le_refl _)
theorem inLL {neg : Bool} {x : PyData} {ys : List PyData} (h1 : okD x = true) (h2 : okD (.list ys) = true) : inP neg x (.list ys) = some (.bool (memD x ys ^^ neg)) := by
  have : inP neg x (.list ys) = if (okD x && okD (.list ys)) = true then some (.bool (memD x ys ^^ neg)) else none := by cases x <;> rfl
  rw [this, h1, h2]; rfl
/-- the starts of paths -/
structure Sts (t : Tr) (L : List (List Bool)) : Prop where
  vp : ∀ p, p ∈ L ↔ VP t p
  len : L.length ≤ 300
  few : ∀ p ∈ L, p.length ≤ 12
theorem starts_ok {t : Tr} (ht : t.size ≤ 12) (T : So) : Ret (f_l_starts [.d t.d] T) fun w T' => (∃ L, w = .d (.list (L.map pD)) ∧ Sts t L) ∧ T' = T := by
  have wl := ways_len t
  refine Ret_fnB rfl ?_
  unfold b_l_starts
  simp only [RetS_cons, RetS_nil, RetS_set, RetS_drop, RetS_ret, RetS_if, RetS_asg, RetS_par, RetS_put, RetS_nx, RetS_rt, Ret_dFn, Ret_dCons, Ret_dNil, Ret_dBin, Ret_dUn, Ret_dCall, Ret_dCallN, Ret_dC, Ret_dG, Ret_dVar, Ret_dIf, Ret_dFz, Ret_dNew, Ret_dLst, Ret_dTup, Ret_dB, Ret_dAndT, Ret_dOrT, Ret_dNotT, Ret_dAnd, Ret_dOr, Ret_dNot, Ret_dIsi, Ret_dChain, Ret_dGet, Ret_dD0, Ret_dNoP, Ret_dPt, Ret_dSlA, Ret_dMeth, Ret_dAny, Ret_dLenSet, Ret_dZip, Ret_dZipL, Ret_dKeys, Ret_dRng1, Ret_dRng2, Ret_dLc, wipeW, Ret_dDc, RetS_putL, Ret_dTupP, RetS_asgP, Ret_dSnd, Ret_dD1T, Ret_dListZip, RetS_augI, Ret_gcp, Ret_dItems, Ret_dSortSet, Ret_dFnK, RetS_for, Ret_ok, startW, List.map_cons, List.map_nil, List.length_cons, List.length_nil, List.cons_append, List.nil_append, List.replicate, Nat.sub_self, Nat.reduceSub, Nat.reduceAdd, List.getElem?_cons_zero, List.getElem?_cons_succ, List.set_cons_zero, List.set_cons_succ, Option.some.injEq, exists_eq_left', rd_d, on2_d, on1_d, c1_d, bOf_b, exists_eq_left, Option.map_some, Option.bind_some, W.d.injEq, Ret_gcd, List.take_length, dIx]
  refine ⟨[], rfl, [.tuple []], rfl, ?_⟩
  rw [ways_ok 14 t (by omega) (by omega), Ret_ok]
  refine ⟨(t.ways.map wayD, none), rfl, ?_⟩
  refine for_inv (fun j σ T' => (∃ o2 o3 o4, σ = [some (.d t.d), some (.r T.length), o2, o3, o4]) ∧ ∃ L : List (List Bool), T' = T ++ [.lst (L.map pD)] ∧ (∀ p ∈ L, VP t p ∧ p.length ≤ 12) ∧ [] ∈ L ∧ L.length ≤ 1 + 12 * j ∧ ∀ q ∈ t.ways.take j, ∀ k, q.1.take k ∈ L) (t.ways.map wayD) 0 _ _ ⟨⟨_, _, _, rfl⟩, [[]], rfl, fun p hp => by rw [List.mem_singleton.mp hp]; exact ⟨vp_nil t, by simp⟩, by simp, by simp, by simp⟩ ?_ ?_
  · rintro σ T' ⟨⟨o2, o3, o4, rfl⟩, L, rfl, l1, l2, l3, l4⟩
    rw [Nat.zero_add, List.length_map, List.take_length] at l4
    rw [Nat.zero_add, List.length_map] at l3
    have hL : Sts t L := ⟨fun p => ⟨fun h => (l1 p h).1, fun h => by
      obtain ⟨r, hr⟩ := (pre_vp t p).mpr h
      obtain ⟨q, hq, e⟩ := List.mem_map.mp hr
      have := l4 q hq p.length
      rw [e, List.take_left'] at this
      · exact this
      · rfl⟩, by omega, fun p hp => (l1 p hp).2⟩
    refine ⟨_, rfl, ?_⟩
    unfold gc
    dsimp only
    rw [if_neg (by omega), last_at]
    exact ⟨⟨L, rfl, hL⟩, by simp⟩
  · rintro j x σ T' hx ⟨⟨o2, o3, o4, rfl⟩, L, rfl, l1, l2, l3, l4⟩
    rw [Nat.zero_add] at l3 l4 ⊢
    rw [List.getElem?_map] at hx
    obtain ⟨q, hq, rfl⟩ := Option.map_eq_some_iff.mp hx
    have hqm := List.mem_of_getElem? hq
    have hql := (wl.2 q hqm).1
    have hqp : q.1 ∈ t.paths := List.mem_map.mpr ⟨q, hqm, rfl⟩
    refine ⟨_, rfl, ?_⟩
    simp only [RetS_cons, RetS_nil, RetS_set, RetS_drop, RetS_ret, RetS_if, RetS_asg, RetS_par, RetS_put, RetS_nx, RetS_rt, Ret_dFn, Ret_dCons, Ret_dNil, Ret_dBin, Ret_dUn, Ret_dCall, Ret_dCallN, Ret_dC, Ret_dG, Ret_dVar, Ret_dIf, Ret_dFz, Ret_dNew, Ret_dLst, Ret_dTup, Ret_dB, Ret_dAndT, Ret_dOrT, Ret_dNotT, Ret_dAnd, Ret_dOr, Ret_dNot, Ret_dIsi, Ret_dChain, Ret_dGet, Ret_dD0, Ret_dNoP, Ret_dPt, Ret_dSlA, Ret_dMeth, Ret_dAny, Ret_dLenSet, Ret_dZip, Ret_dZipL, Ret_dKeys, Ret_dRng1, Ret_dRng2, Ret_dLc, wipeW, Ret_dDc, RetS_putL, Ret_dTupP, RetS_asgP, Ret_dSnd, Ret_dD1T, Ret_dListZip, RetS_augI, Ret_gcp, Ret_dItems, Ret_dSortSet, Ret_dFnK, RetS_for, Ret_ok, startW, List.map_cons, List.map_nil, List.length_cons, List.length_nil, List.cons_append, List.nil_append, List.replicate, Nat.sub_self, Nat.reduceSub, Nat.reduceAdd, List.getElem?_cons_zero, List.getElem?_cons_succ, List.set_cons_zero, List.set_cons_succ, Option.some.injEq, exists_eq_left', rd_d, on2_d, on1_d, c1_d, bOf_b, exists_eq_left, Option.map_some, Option.bind_some, W.d.injEq, Ret_gcd, List.take_length, dIx]
    have lq : (q.1.map ansD).length = q.1.length := List.length_map _
    refine ⟨.d (.int ((q.1.map ansD).length : Int)), rfl, .d (.int (((q.1.map ansD).length : Int) + 1)), rfl, 1, ((q.1.map ansD).length : Int) + 1, rfl, by omega, ?_⟩
    rw [lq]
    refine for_inv (fun i σ T' => (∃ o4, σ = [some (.d t.d), some (.r T.length), some (.d (pD q.1)), some (.d (.tuple (sts q.2))), o4]) ∧ ∃ L' : List (List Bool), T' = T ++ [.lst (L'.map pD)] ∧ (∀ p ∈ L', VP t p ∧ p.length ≤ 12) ∧ L'.length ≤ L.length + i ∧ (∀ p ∈ L, p ∈ L') ∧ ∀ k, k ≤ i → q.1.take k ∈ L') (rng 1 ((q.1.length : Int) + 1)) 0 _ _ ⟨⟨_, rfl⟩, L, rfl, l1, by omega, fun p h => h, fun k hk => by rw [show k = 0 by omega, List.take_zero]; exact l2⟩ ?_ ?_
    · rintro σ T' ⟨⟨o4, rfl⟩, L', rfl, m1, m2, m3, m4⟩
      have lr : (rng 1 ((q.1.length : Int) + 1)).length = q.1.length := by simp [rng]
      rw [Nat.zero_add, lr] at m2 m4
      refine ⟨⟨_, _, _, rfl⟩, L', rfl, m1, m3 _ l2, by omega, fun r hr k => ?_⟩
      rw [List.take_succ, hq, Option.toList_some] at hr
      rcases List.mem_append.mp hr with hr | hr
      · exact m3 _ (l4 r hr k)
      · rw [List.mem_singleton.mp hr]
        by_cases hk : k ≤ q.1.length
        · exact m4 k hk
        · have := m4 q.1.length (Nat.le_refl _)
          rw [List.take_length] at this
          rw [List.take_of_length_le (by omega)]; exact this
    · rintro i y σ T' hy ⟨⟨o4, rfl⟩, L', rfl, m1, m2, m3, m4⟩
      rw [Nat.zero_add] at m2 m4 ⊢
      have hi : i < q.1.length := by
        have := (List.getElem?_eq_some_iff.mp hy).1
        simp [rng] at this; omega
      have hy2 : y = .int (((i + 1 : Nat)) : Int) := by
        obtain ⟨h1, h2⟩ := List.getElem?_eq_some_iff.mp hy
        rw [← h2]; simp [rng]; omega
      subst hy2
      have ecut : cutG (q.1.map ansD) none (some (((i + 1 : Nat)) : Int)) = (q.1.take (i + 1)).map ansD := by
        rw [cut_hi, List.map_take]
      have hvp : VP t (q.1.take (i + 1)) := (pre_vp t _).mp ⟨q.1.drop (i + 1), by rw [List.take_append_drop]; exact hqp⟩
      have hlen : (q.1.take (i + 1)).length ≤ 12 := by rw [List.length_take]; omega
      refine ⟨_, rfl, ?_⟩
      simp only [RetS_cons, RetS_nil, RetS_set, RetS_drop, RetS_ret, RetS_if, RetS_asg, RetS_par, RetS_put, RetS_nx, RetS_rt, Ret_dFn, Ret_dCons, Ret_dNil, Ret_dBin, Ret_dUn, Ret_dCall, Ret_dCallN, Ret_dC, Ret_dG, Ret_dVar, Ret_dIf, Ret_dFz, Ret_dNew, Ret_dLst, Ret_dTup, Ret_dB, Ret_dAndT, Ret_dOrT, Ret_dNotT, Ret_dAnd, Ret_dOr, Ret_dNot, Ret_dIsi, Ret_dChain, Ret_dGet, Ret_dD0, Ret_dNoP, Ret_dPt, Ret_dSlA, Ret_dMeth, Ret_dAny, Ret_dLenSet, Ret_dZip, Ret_dZipL, Ret_dKeys, Ret_dRng1, Ret_dRng2, Ret_dLc, wipeW, Ret_dDc, RetS_putL, Ret_dTupP, RetS_asgP, Ret_dSnd, Ret_dD1T, Ret_dListZip, RetS_augI, Ret_gcp, Ret_dItems, Ret_dSortSet, Ret_dFnK, RetS_for, Ret_ok, startW, List.map_cons, List.map_nil, List.length_cons, List.length_nil, List.cons_append, List.nil_append, List.replicate, Nat.sub_self, Nat.reduceSub, Nat.reduceAdd, List.getElem?_cons_zero, List.getElem?_cons_succ, List.set_cons_zero, List.set_cons_succ, Option.some.injEq, exists_eq_left', rd_d, on2_d, on1_d, c1_d, bOf_b, exists_eq_left, Option.map_some, Option.bind_some, W.d.injEq, Ret_gcd, List.take_length, dIx]
      have ec : cutA none (some (((i + 1 : Nat)) : Int)) (pD q.1) = some (pD (q.1.take (i + 1))) := by
        show some (PyData.tuple (cutG (q.1.map ansD) none (some (((i + 1 : Nat)) : Int)))) = _
        rw [ecut]; rfl
      have okL : okD (.list (L'.map pD)) = true := okD_list (b := 48) (d := 1) (fun z hz => by
        obtain ⟨p, hp, rfl⟩ := List.mem_map.mp hz
        exact pD_gd (m1 p hp).2) (by decide)
      have ein : on2 (inP true) (T ++ [.lst (L'.map pD)]) (.d (pD (q.1.take (i + 1)))) (.r T.length) = some (.d (.bool (!decide (q.1.take (i + 1) ∈ L')))) := by
        simp only [on2, rd, last_at]
        rw [inLL ((pD_gd hlen).okD (by decide)) okL, mem_pD]; simp
      refine ⟨_, rfl, _, ec, _, ein, _, rfl, ?_⟩
      by_cases hm : q.1.take (i + 1) ∈ L'
      · rw [decide_eq_true hm, if_neg (show ¬ (!true) = true by decide)]
        refine ⟨⟨_, rfl⟩, L', rfl, m1, by omega, m3, fun k hk => ?_⟩
        by_cases h : k ≤ i
        · exact m4 k h
        · rw [show k = i + 1 by omega]; exact hm
      · rw [decide_eq_false hm, if_pos (show (!false) = true from rfl)]
        have hj := (List.getElem?_eq_some_iff.mp hq).1
        have hj12 : j < 12 := by have := wl.1; omega
        have lM : (L'.map pD).length ≤ 1000 := by rw [List.length_map]; omega
        refine ⟨by simp only [tyM, last_at]; rfl, _, rfl, _, ec, .d .none, T ++ [.lst ((L' ++ [q.1.take (i + 1)]).map pD)], ?_, ⟨_, rfl⟩, L' ++ [q.1.take (i + 1)], rfl, fun p hp => ?_, by simp; omega, fun p hp => List.mem_append_left _ (m3 p hp), fun k hk => ?_⟩
        · simp only [gApp, last_at]
          rw [if_pos (small_of (m := 10000) (by omega)), last_set]
          simp
        · rcases List.mem_append.mp hp with hp | hp
          · exact m1 p hp
          · rw [List.mem_singleton.mp hp]; exact ⟨hvp, hlen⟩
        · by_cases h : k ≤ i
          · exact List.mem_append_left _ (m4 k h)
          · rw [show k = i + 1 by omega]; simp
end LK33
end

section
/-! part LM33j -/
set_option Elab.async false
set_option linter.all false
set_option maxRecDepth 100000
set_option maxHeartbeats 1000000
/-! LM33j: the comparison at one path. -/
open CL
open PySem PySem.Spec PyProof.Rows L2
namespace LK33
theorem sw_gd {z : Str} (h : Sw z) : Gd 8 0 (.str z) := sh_gd ⟨z, rfl, h.1, h.2⟩
theorem sts_gd {zs : List Str} {m : Nat} (h : ∀ z ∈ zs, Sw z) (hl : zs.length ≤ m) : Gd (m * 9) 1 (.tuple (sts zs)) := by
  have := Gd.tuple (Gds.of_mem (xs := sts zs) (b := 8) (d := 0) fun x hx => by
    obtain ⟨z, hz, rfl⟩ := List.mem_map.mp hx
    exact sw_gd (h z hz))
  exact this.mono (by rw [strs_len]; exact Nat.mul_le_mul_right _ hl) (Nat.le_refl _)
theorem tree_gd : ∀ t : Tr, t.ok → Gd (600 * t.size) (t.size + 1) t.d
  | .stop, _ => by simp only [Tr.size, Tr.d]; exact gdB_of (by decide +kernel)
  | .say w t, ⟨h1, h2⟩ => by
    have g1 := tree_gd t h2
    have g2 := sw_gd h1
    have g0 : Gd 3 0 (.str "say") := gdB_of (by decide +kernel)
    simp only [Tr.size, Tr.d]
    exact (Gd.tuple (Gds.cons (g0.mono (Nat.le_refl _) (Nat.zero_le (t.size + 1))) (Gds.cons (g2.mono (Nat.le_refl _) (Nat.zero_le _)) (Gds.cons g1 (Gds.nil (b := 0)))))).mono (by omega) (by omega)
  | .ask i c y n, ⟨h1, h2, h3, h4, h5⟩ => by
    have g1 := tree_gd y h4
    have g2 := tree_gd n h5
    have g3 := sw_gd h1
    have g4 := sts_gd h2 h3
    have g0 : Gd 3 0 (.str "ask") := gdB_of (by decide +kernel)
    simp only [Tr.size, Tr.d]
    have d := Gd.tuple (Gds.cons (g0.mono (Nat.le_refl _) (Nat.zero_le (y.size + n.size + 1))) (Gds.cons (g3.mono (Nat.le_refl _) (Nat.zero_le _)) (Gds.cons (g4.mono (Nat.le_refl _) (by omega)) (Gds.cons (g1.mono (Nat.le_refl _) (by omega)) (Gds.cons (g2.mono (Nat.le_refl _) (by omega)) (Gds.nil (b := 0)))))))
    exact d.mono (by omega) (by omega)
theorem sp_ok : ∀ t : Tr, t.ok → t.sp.2.ok ∧ ∀ z ∈ t.sp.1, Sw z
  | .stop, h => ⟨h, by simp [Tr.sp]⟩
  | .say w t, ⟨h1, h2⟩ => by
    obtain ⟨a, b⟩ := sp_ok t h2
    exact ⟨a, fun z hz => by rcases List.mem_cons.mp hz with rfl | hz; exact h1; exact b z hz⟩
  | .ask i c y n, h => ⟨h, by simp [Tr.sp]⟩
theorem step_ok {t : Tr} (h : t.ok) (b : Bool) : (t.step b).ok := by
  have := (sp_ok t h).1
  unfold Tr.step
  split
  · rename_i i c y n e
    rw [e] at this
    obtain ⟨_, _, _, h4, h5⟩ := this
    cases b
    · exact h5
    · exact h4
  · exact this
theorem run_ok {t : Tr} (h : t.ok) (p : List Bool) : (t.run p).1.ok ∧ ∀ z ∈ (t.run p).2, Sw z := by
  have : ∀ (p : List Bool) (s : Tr × List Str), s.1.ok → (∀ z ∈ s.2, Sw z) → (p.foldl runS s).1.ok ∧ ∀ z ∈ (p.foldl runS s).2, Sw z := by
    intro p
    induction p with
    | nil => intro s h1 h2; exact ⟨h1, h2⟩
    | cons b p ih =>
      intro s h1 h2
      rw [List.foldl_cons]
      refine ih _ (step_ok h1 b) fun z hz => ?_
      rcases List.mem_append.mp hz with hz | hz
      · exact h2 z hz
      · exact (sp_ok s.1 h1).2 z hz
  exact this p (t, []) h (by simp)
theorem nq_gd {u : Tr} (h : u.ok) : Gd 600 2 u.nq := by
  cases u with
  | ask i c y n =>
    obtain ⟨h1, h2, h3, _⟩ := h
    exact (Gd.tuple (Gds.cons ((sw_gd h1).mono (Nat.le_refl _) (by decide : 0 ≤ 1)) (Gds.cons (sts_gd h2 h3) (Gds.nil (b := 0))))).mono (by decide) (by decide)
  | stop => exact gdB_of (by decide +kernel)
  | say w t => exact (gdB_of (b := 600) (d := 2) (x := .none) (by decide +kernel))
theorem ne_same {b d : Nat} {x : PyData} (h : Gd b d x) (hb : b ≤ 200000) (hd : d ≤ 60) : ∃ s, reprP x = some (.str s) ∧ neP (.str s) (.str s) = some (.bool false) ∧ eqP (.str s) (.str s) = some (.bool true) := by
  refine ⟨x.shown, h.repr hb hd, ne_self (sign_shown x h.ok), ?_⟩
  have hz := sign_shown x h.ok
  have := eqS hz hz
  rw [this]; simp
theorem right_ok {t : Tr} (hok : t.ok) (ht : t.size ≤ 12) {p : List Bool} (hp : VP t p) (hl : p.length ≤ 12) (T : So) : Ret (f_l_are_right [.d t.d, .d (pD p)] T) fun w T' => w = .d (.bool true) ∧ T' = T := by
  have ht4 : t.size < 40 := by omega
  obtain ⟨c, ec, hc⟩ := is_path_ok ht4 (pD_gd hl) (by decide) T
  have hc1 : c = true := hc.mpr ⟨p, rfl, hp⟩
  subst hc1
  have hr := run_ok hok p
  have hs := run_size t p
  have hsp := sp_ok _ hr.1
  have hss := (sp_size (t.run p).1).2
  have eo := out_path ht4 hp T
  have en := next_path ht4 hp T
  have ea := after_path ht4 hp T
  have el := lafter_path ht4 hp T
  have eln := lnext_path ht4 hp T
  have gW : Gd (12 * 9) 1 (.tuple (sts ((t.run p).2 ++ (t.run p).1.sp.1))) := sts_gd (fun z hz => (List.mem_append.mp hz).elim (hr.2 z) (hsp.2 z)) (by rw [List.length_append]; omega)
  have gq : Gd 600 2 (t.run p).1.sp.2.nq := nq_gd hsp.1
  have gu := tree_gd _ hr.1
  have gb : Gd 0 0 (.bool true) := gdB_of (by decide +kernel)
  generalize PyData.tuple (sts ((t.run p).2 ++ (t.run p).1.sp.1)) = V0 at *
  generalize (t.run p).1.sp.2.nq = Q at *
  have gD : Gd 10000 15 (.list [V0, Q, (t.run p).1.d, .bool true]) :=
    (Gd.list (Gds.cons (gW.mono (Nat.le_refl _) (by decide : 1 ≤ 13)) (Gds.cons (gq.mono (Nat.le_refl _) (by decide : 2 ≤ 13)) (Gds.cons (gu.mono (show 600 * (t.run p).1.size ≤ 7200 by omega) (show (t.run p).1.size + 1 ≤ 13 by omega)) (Gds.cons (gb.mono (Nat.le_refl _) (by decide : 0 ≤ 13)) (Gds.nil (b := 0))))))).mono (by decide) (by decide)
  obtain ⟨s, r1, r2, r3⟩ := ne_same gD (by decide) (by decide)
  refine Ret_fnB rfl ?_
  unfold b_l_are_right
  simp only [RetS_cons, RetS_nil, RetS_set, RetS_drop, RetS_ret, RetS_if, RetS_asg, RetS_par, RetS_put, RetS_nx, RetS_rt, Ret_dFn, Ret_dCons, Ret_dNil, Ret_dBin, Ret_dUn, Ret_dCall, Ret_dCallN, Ret_dC, Ret_dG, Ret_dVar, Ret_dIf, Ret_dFz, Ret_dNew, Ret_dLst, Ret_dTup, Ret_dB, Ret_dAndT, Ret_dOrT, Ret_dNotT, Ret_dAnd, Ret_dOr, Ret_dNot, Ret_dIsi, Ret_dChain, Ret_dGet, Ret_dD0, Ret_dNoP, Ret_dPt, Ret_dSlA, Ret_dMeth, Ret_dAny, Ret_dLenSet, Ret_dZip, Ret_dZipL, Ret_dKeys, Ret_dRng1, Ret_dRng2, Ret_dLc, wipeW, Ret_dDc, RetS_putL, Ret_dTupP, RetS_asgP, Ret_dSnd, Ret_dD1T, Ret_dListZip, RetS_augI, Ret_gcp, Ret_dItems, Ret_dSortSet, Ret_dFnK, RetS_for, Ret_ok, startW, List.map_cons, List.map_nil, List.length_cons, List.length_nil, List.cons_append, List.nil_append, List.replicate, Nat.sub_self, Nat.reduceSub, Nat.reduceAdd, List.getElem?_cons_zero, List.getElem?_cons_succ, List.set_cons_zero, List.set_cons_succ, Option.some.injEq, exists_eq_left', rd_d, on2_d, on1_d, c1_d, bOf_b, exists_eq_left, Option.map_some, Option.bind_some, W.d.injEq, Ret_gcd, List.take_length, dIx]
  rw [eln, Ret_ok]
  refine ⟨_, rfl, ?_⟩
  simp only [RetS_cons, RetS_nil, RetS_set, RetS_drop, RetS_ret, RetS_if, RetS_asg, RetS_par, RetS_put, RetS_nx, RetS_rt, Ret_dFn, Ret_dCons, Ret_dNil, Ret_dBin, Ret_dUn, Ret_dCall, Ret_dCallN, Ret_dC, Ret_dG, Ret_dVar, Ret_dIf, Ret_dFz, Ret_dNew, Ret_dLst, Ret_dTup, Ret_dB, Ret_dAndT, Ret_dOrT, Ret_dNotT, Ret_dAnd, Ret_dOr, Ret_dNot, Ret_dIsi, Ret_dChain, Ret_dGet, Ret_dD0, Ret_dNoP, Ret_dPt, Ret_dSlA, Ret_dMeth, Ret_dAny, Ret_dLenSet, Ret_dZip, Ret_dZipL, Ret_dKeys, Ret_dRng1, Ret_dRng2, Ret_dLc, wipeW, Ret_dDc, RetS_putL, Ret_dTupP, RetS_asgP, Ret_dSnd, Ret_dD1T, Ret_dListZip, RetS_augI, Ret_gcp, Ret_dItems, Ret_dSortSet, Ret_dFnK, RetS_for, Ret_ok, startW, List.map_cons, List.map_nil, List.length_cons, List.length_nil, List.cons_append, List.nil_append, List.replicate, Nat.sub_self, Nat.reduceSub, Nat.reduceAdd, List.getElem?_cons_zero, List.getElem?_cons_succ, List.set_cons_zero, List.set_cons_succ, Option.some.injEq, exists_eq_left', rd_d, on2_d, on1_d, c1_d, bOf_b, exists_eq_left, Option.map_some, Option.bind_some, W.d.injEq, Ret_gcd, List.take_length, dIx]
  rw [el, Ret_ok]
  refine ⟨_, o2 at0, [V0, Q, (t.run p).1.d, .bool true], rfl, ?_⟩
  rw [eo, Ret_ok, en, Ret_ok, ea, Ret_ok, ec, Ret_ok]
  refine ⟨[V0, Q, (t.run p).1.d, .bool true], rfl, _, om r1, _, om r1, _, o2 r2, _, rfl, ?_⟩
  rw [if_neg (by decide)]
  have pk : pick [1, 0] [W.d (pD p), W.d t.d] = [W.d t.d, W.d (pD p)] := rfl
  rw [pk]
  refine ⟨trivial, ?_⟩
  rw [eo, Ret_ok]
  refine ⟨trivial, ?_⟩
  rw [en, Ret_ok]
  refine ⟨[V0, Q], rfl, trivial, ?_⟩
  rw [ea, Ret_ok]
  refine ⟨trivial, ?_⟩
  rw [ec, Ret_ok]
  refine ⟨[(t.run p).1.d, .bool true], rfl, .d (.list [V0, Q, (t.run p).1.d, .bool true]), ?_, _, c1o r1, _, om r1, _, o2 r3, ?_⟩
  · rfl
  · rw [Ret_gcd]
    exact ⟨rfl, List.take_length⟩
end LK33
end

section
/-! part LM33k -/
set_option Elab.async false
set_option linter.all false
set_option maxRecDepth 100000
set_option maxHeartbeats 2000000
/-! LM33k: the law. -/
open CL
open PySem PySem.Spec PyProof.Rows L2
namespace LK33
theorem eqv_ans_of {b : Bool} {x : PyData} (h : PyData.eqv (ansD b) x = true) : x = ansD b := by
  cases x <;> simp [ansD, PyData.eqv] at h ⊢
  exact h.symm
theorem eqvAll_of : ∀ {p : List Bool} {xs : List PyData}, PyData.eqvAll (p.map ansD) xs = true → xs = p.map ansD
  | [], [], _ => rfl
  | [], _ :: _, h => by simp [PyData.eqvAll] at h
  | _ :: _, [], h => by simp [PyData.eqvAll] at h
  | b :: p, x :: xs, h => by
    simp only [List.map_cons, PyData.eqvAll, Bool.and_eq_true] at h
    rw [List.map_cons, eqv_ans_of h.1, eqvAll_of h.2]
theorem mem_starts {t : Tr} {L : List (List Bool)} (hL : Sts t L) (v : PyData) : memD v (L.map pD) = true ↔ IsP t v := by
  unfold memD
  rw [List.any_eq_true]
  constructor
  · rintro ⟨z, hz, e⟩
    obtain ⟨p, hp, rfl⟩ := List.mem_map.mp hz
    refine ⟨p, ?_, (hL.vp p).mp hp⟩
    cases v <;> simp [pD, PyData.eqv] at e ⊢
    exact eqvAll_of e
  · rintro ⟨p, rfl, hp⟩
    exact ⟨pD p, List.mem_map.mpr ⟨p, (hL.vp p).mpr hp, rfl⟩, by simp [pD, PyData.eqv, eqv_pD]⟩
def oddL : List PyData := [.none, .str "yes", .list [.str "yes"], .tuple [.str "maybe"], .tuple [.bool true], .tuple [.str "yes", .none], .tuple [.tuple [.str "yes"]], .int 0, .tuple [.list [.str "yes"]], .tuple [.str "no", .list [.str "no"]]]
theorem odd_gd : ∀ x ∈ oddL, Gd 100 10 x := fun x hx => gdB_of (List.all_eq_true.mp (show oddL.all (gdB 100 10) = true by decide +kernel) x hx)
theorem ans_sh (b : Bool) : Sh (ansD b) := by cases b <;> exact sh_of (by decide +kernel)
theorem shs_gd {xs : List PyData} (h : ∀ x ∈ xs, Sh x) (hl : xs.length ≤ 20) (c : List PyData → PyData) (hc : c = .list ∨ c = .tuple) : Gd 200 10 (c xs) := by
  have := Gds.of_mem fun x hx => sh_gd (h x hx)
  have hm : xs.length * (8 + 1) ≤ 200 := by omega
  rcases hc with rfl | rfl
  · exact (Gd.list this).mono hm (by decide)
  · exact (Gd.tuple this).mono hm (by decide)
theorem pd_sh (p : List Bool) : ∀ x ∈ p.map ansD, Sh x := fun x hx => by
  obtain ⟨b, _, rfl⟩ := List.mem_map.mp hx
  exact ans_sh b
/-- one value against is_path -/
theorem value_ok {t : Tr} {L : List (List Bool)} (ht : t.size ≤ 12) (hL : Sts t L) {v : PyData} (hv : Gd 200 10 v) {o0 o1 o2 o3 o5 o6 o7 o8 o10 o12 : Option W} (T : So) :
    RetS (sCons (sPar [6, 12] (dCons (dAnd (dIsi "tuple" (dVar 11)) (dBin (on2 (inP false)) (dVar 11) (dVar 9))) (dCons (dCall (c1 reprP) (dCons (dVar 11) dNil)) dNil)))
      (sCons (sIf (dB (dBin (on2 neP) (dCall (c1 reprP) (dCons (dFz (dLst (dCons (dFn f_is_path (dCons (dVar 4) (dCons (dVar 11) dNil))) (dCons (dFnK f_is_path [1, 0] (dCons (dVar 11) (dCons (dVar 4) dNil))) dNil)))) dNil)) (dCall (c1 reprP) (dCons (dFz (dLst (dCons (dVar 6) (dCons (dVar 6) dNil)))) dNil)))) (sCons (sRet (dC (.bool false)))
      sNil) sNil)
      (sCons (sIf (dB (dBin (on2 neP) (dCall (c1 reprP) (dCons (dVar 11) dNil)) (dVar 12))) (sCons (sRet (dC (.bool false)))
      sNil) sNil)
      sNil)) [o0, o1, o2, o3, some (.d t.d), o5, o6, o7, o8, some (.d (.list (L.map pD))), o10, some (.d v), o12] T) (fun σ T' => (∃ q6 q12, σ = [o0, o1, o2, o3, some (.d t.d), o5, q6, o7, o8, some (.d (.list (L.map pD))), o10, some (.d v), q12]) ∧ T' = T) fun _ _ => False := by
  obtain ⟨c, ec, hc⟩ := is_path_ok (t := t) (v := v) (by omega) hv (by decide) T
  obtain ⟨s, r1, r2, _⟩ := ne_same hv (by decide) (by decide)
  have gb : Gd 10 2 (.list [.bool c, .bool c]) := by cases c <;> exact gdB_of (by decide +kernel)
  obtain ⟨s2, r3, r4, _⟩ := ne_same gb (by decide) (by decide)
  have okL : okD (.list (L.map pD)) = true := okD_list (b := 48) (d := 1) (fun z hz => by
    obtain ⟨p, hp, rfl⟩ := List.mem_map.mp hz
    exact pD_gd (hL.few p hp)) (by decide)
  have due : Ret (dAnd (dIsi "tuple" (dVar 11)) (dBin (on2 (inP false)) (dVar 11) (dVar 9)) [o0, o1, o2, o3, some (.d t.d), o5, o6, o7, o8, some (.d (.list (L.map pD))), o10, some (.d v), o12] T) fun w T' => w = .d (.bool c) ∧ T' = T := by
    have nt : (∀ xs, v ≠ .tuple xs) → c = false := fun hn => by
      cases c with
      | false => rfl
      | true => obtain ⟨p, e, _⟩ := hc.mp rfl; exact absurd e (hn _)
    cases v with
    | dict _ => have := hv.ok; simp [okd] at this
    | tuple xs =>
      simp only [RetS_cons, RetS_nil, RetS_set, RetS_drop, RetS_ret, RetS_if, RetS_asg, RetS_par, RetS_put, RetS_nx, RetS_rt, Ret_dFn, Ret_dCons, Ret_dNil, Ret_dBin, Ret_dUn, Ret_dCall, Ret_dCallN, Ret_dC, Ret_dG, Ret_dVar, Ret_dIf, Ret_dFz, Ret_dNew, Ret_dLst, Ret_dTup, Ret_dB, Ret_dAndT, Ret_dOrT, Ret_dNotT, Ret_dAnd, Ret_dOr, Ret_dNot, Ret_dIsi, Ret_dChain, Ret_dGet, Ret_dD0, Ret_dNoP, Ret_dPt, Ret_dSlA, Ret_dMeth, Ret_dAny, Ret_dLenSet, Ret_dZip, Ret_dZipL, Ret_dKeys, Ret_dRng1, Ret_dRng2, Ret_dLc, wipeW, Ret_dDc, RetS_putL, Ret_dTupP, RetS_asgP, Ret_dSnd, Ret_dD1T, Ret_dListZip, RetS_augI, Ret_gcp, Ret_dItems, Ret_dSortSet, Ret_dFnK, RetS_for, Ret_ok, startW, List.map_cons, List.map_nil, List.length_cons, List.length_nil, List.cons_append, List.nil_append, List.replicate, Nat.sub_self, Nat.reduceSub, Nat.reduceAdd, List.getElem?_cons_zero, List.getElem?_cons_succ, List.set_cons_zero, List.set_cons_succ, Option.some.injEq, exists_eq_left', rd_d, on2_d, on1_d, c1_d, bOf_b, exists_eq_left, Option.map_some, Option.bind_some, W.d.injEq, Ret_gcd, List.take_length, dIx]
      refine ⟨.bool true, rfl, true, rfl, ?_⟩
      rw [if_pos rfl]
      refine ⟨_, om (inLL (hv.okD (by decide)) okL), ?_, trivial⟩
      have := mem_starts hL (.tuple xs)
      rw [← hc] at this
      simp only [Bool.xor_false, W.d.injEq, PyData.bool.injEq]
      exact Bool.eq_iff_iff.mpr this
    | _ =>
      simp only [RetS_cons, RetS_nil, RetS_set, RetS_drop, RetS_ret, RetS_if, RetS_asg, RetS_par, RetS_put, RetS_nx, RetS_rt, Ret_dFn, Ret_dCons, Ret_dNil, Ret_dBin, Ret_dUn, Ret_dCall, Ret_dCallN, Ret_dC, Ret_dG, Ret_dVar, Ret_dIf, Ret_dFz, Ret_dNew, Ret_dLst, Ret_dTup, Ret_dB, Ret_dAndT, Ret_dOrT, Ret_dNotT, Ret_dAnd, Ret_dOr, Ret_dNot, Ret_dIsi, Ret_dChain, Ret_dGet, Ret_dD0, Ret_dNoP, Ret_dPt, Ret_dSlA, Ret_dMeth, Ret_dAny, Ret_dLenSet, Ret_dZip, Ret_dZipL, Ret_dKeys, Ret_dRng1, Ret_dRng2, Ret_dLc, wipeW, Ret_dDc, RetS_putL, Ret_dTupP, RetS_asgP, Ret_dSnd, Ret_dD1T, Ret_dListZip, RetS_augI, Ret_gcp, Ret_dItems, Ret_dSortSet, Ret_dFnK, RetS_for, Ret_ok, startW, List.map_cons, List.map_nil, List.length_cons, List.length_nil, List.cons_append, List.nil_append, List.replicate, Nat.sub_self, Nat.reduceSub, Nat.reduceAdd, List.getElem?_cons_zero, List.getElem?_cons_succ, List.set_cons_zero, List.set_cons_succ, Option.some.injEq, exists_eq_left', rd_d, on2_d, on1_d, c1_d, bOf_b, exists_eq_left, Option.map_some, Option.bind_some, W.d.injEq, Ret_gcd, List.take_length, dIx]
      refine ⟨.bool false, rfl, false, rfl, ?_⟩
      rw [if_neg (by decide), nt (by simp)]
      exact ⟨rfl, trivial⟩
  rw [RetS_cons, RetS_par, Ret_dCons]
  refine due.mono ?_
  rintro _ _ ⟨rfl, rfl⟩
  simp only [RetS_cons, RetS_nil, RetS_set, RetS_drop, RetS_ret, RetS_if, RetS_asg, RetS_par, RetS_put, RetS_nx, RetS_rt, Ret_dFn, Ret_dCons, Ret_dNil, Ret_dBin, Ret_dUn, Ret_dCall, Ret_dCallN, Ret_dC, Ret_dG, Ret_dVar, Ret_dIf, Ret_dFz, Ret_dNew, Ret_dLst, Ret_dTup, Ret_dB, Ret_dAndT, Ret_dOrT, Ret_dNotT, Ret_dAnd, Ret_dOr, Ret_dNot, Ret_dIsi, Ret_dChain, Ret_dGet, Ret_dD0, Ret_dNoP, Ret_dPt, Ret_dSlA, Ret_dMeth, Ret_dAny, Ret_dLenSet, Ret_dZip, Ret_dZipL, Ret_dKeys, Ret_dRng1, Ret_dRng2, Ret_dLc, wipeW, Ret_dDc, RetS_putL, Ret_dTupP, RetS_asgP, Ret_dSnd, Ret_dD1T, Ret_dListZip, RetS_augI, Ret_gcp, Ret_dItems, Ret_dSortSet, Ret_dFnK, RetS_for, Ret_ok, startW, List.map_cons, List.map_nil, List.length_cons, List.length_nil, List.cons_append, List.nil_append, List.replicate, Nat.sub_self, Nat.reduceSub, Nat.reduceAdd, List.getElem?_cons_zero, List.getElem?_cons_succ, List.set_cons_zero, List.set_cons_succ, Option.some.injEq, exists_eq_left', rd_d, on2_d, on1_d, c1_d, bOf_b, exists_eq_left, Option.map_some, Option.bind_some, W.d.injEq, Ret_gcd, List.take_length, dIx]
  refine ⟨_, om r1, _, rfl, ?_⟩
  refine ⟨_, rfl, _, rfl, ?_⟩
  rename_i T
  rw [ec, Ret_ok]
  refine ⟨_, rfl, _, rfl, trivial, ?_⟩
  have pk : pick [1, 0] [W.d v, W.d t.d] = [W.d t.d, W.d v] := rfl
  rw [pk, ec, Ret_ok]
  refine ⟨[.bool c, .bool c], rfl, _, om r3, _, rfl, _, rfl, [.bool c, .bool c], rfl, _, om r3, _, CL.o2 r4, _, rfl, ?_⟩
  rw [if_neg (by decide)]
  refine ⟨_, rfl, _, om r1, _, rfl, _, CL.o2 r2, _, rfl, ?_⟩
  rw [if_neg (by decide)]
  exact ⟨⟨_, _, rfl⟩, rfl⟩
theorem law_true (ns : List Int) (hn : ns.length ≤ 63) : Ret (f_law [.s (ns.map PyData.int)] []) fun w _ => w = .d (.bool true) := by
  refine Ret_fnB rfl ?_
  unfold b_law
  have hk : 0 < [tpO ns 0 0 0].length := by simp
  have r0 : Rdr (RdO ns) 0 [tpO ns 0 0 0] [tpO ns 0 0 0] := ⟨_, ⟨0, 0, 0, rfl⟩, rfl⟩
  generalize eS : [tpO ns 0 0 0] = S at hk r0
  rw [RetS_cons]
  simp only [RetS_cons, RetS_nil, RetS_set, RetS_drop, RetS_ret, RetS_if, RetS_asg, RetS_par, RetS_put, RetS_nx, RetS_rt, Ret_dFn, Ret_dCons, Ret_dNil, Ret_dBin, Ret_dUn, Ret_dCall, Ret_dCallN, Ret_dC, Ret_dG, Ret_dVar, Ret_dIf, Ret_dFz, Ret_dNew, Ret_dLst, Ret_dTup, Ret_dB, Ret_dAndT, Ret_dOrT, Ret_dNotT, Ret_dAnd, Ret_dOr, Ret_dNot, Ret_dIsi, Ret_dChain, Ret_dGet, Ret_dD0, Ret_dNoP, Ret_dPt, Ret_dSlA, Ret_dMeth, Ret_dAny, Ret_dLenSet, Ret_dZip, Ret_dZipL, Ret_dKeys, Ret_dRng1, Ret_dRng2, Ret_dLc, wipeW, Ret_dDc, RetS_putL, Ret_dTupP, RetS_asgP, Ret_dSnd, Ret_dD1T, Ret_dListZip, RetS_augI, Ret_gcp, Ret_dItems, Ret_dSortSet, Ret_dFnK, RetS_for, Ret_ok, startW, List.map_cons, List.map_nil, List.length_cons, List.length_nil, List.cons_append, List.nil_append, List.replicate, Nat.sub_self, Nat.reduceSub, Nat.reduceAdd, List.getElem?_cons_zero, List.getElem?_cons_succ, List.set_cons_zero, List.set_cons_succ, Option.some.injEq, exists_eq_left', rd_d, on2_d, on1_d, c1_d, bOf_b, exists_eq_left, Option.map_some, Option.bind_some, W.d.injEq, Ret_gcd, List.take_length, dIx]
  refine Ret.of (tape_ok hn) ?_
  rw [eS]
  refine ⟨3, rfl, by decide, ?_⟩
  refine for_inv (fun j σ T => (∃ (o2 o3 o4 o5 o6 o7 o8 o9 o10 o11 o12 : Option W), σ = [some (.s (ns.map PyData.int)), some (.r 0), o2, o3, o4, o5, o6, o7, o8, o9, o10, o11, o12]) ∧ Rdr (RdO ns) 0 S T) (rng 0 3) 0 _ _ ⟨⟨_, _, _, _, _, _, _, _, _, _, _, rfl⟩, r0⟩ (fun _ _ _ => trivial) ?_
  rintro j y σ T hy ⟨⟨o2, o3, o4, o5, o6, o7, o8, o9, o10, o11, o12, rfl⟩, hr⟩
  refine ⟨_, rfl, ?_⟩
  simp only [RetS_cons, RetS_nil, RetS_set, RetS_drop, RetS_ret, RetS_if, RetS_asg, RetS_par, RetS_put, RetS_nx, RetS_rt, Ret_dFn, Ret_dCons, Ret_dNil, Ret_dBin, Ret_dUn, Ret_dCall, Ret_dCallN, Ret_dC, Ret_dG, Ret_dVar, Ret_dIf, Ret_dFz, Ret_dNew, Ret_dLst, Ret_dTup, Ret_dB, Ret_dAndT, Ret_dOrT, Ret_dNotT, Ret_dAnd, Ret_dOr, Ret_dNot, Ret_dIsi, Ret_dChain, Ret_dGet, Ret_dD0, Ret_dNoP, Ret_dPt, Ret_dSlA, Ret_dMeth, Ret_dAny, Ret_dLenSet, Ret_dZip, Ret_dZipL, Ret_dKeys, Ret_dRng1, Ret_dRng2, Ret_dLc, wipeW, Ret_dDc, RetS_putL, Ret_dTupP, RetS_asgP, Ret_dSnd, Ret_dD1T, Ret_dListZip, RetS_augI, Ret_gcp, Ret_dItems, Ret_dSortSet, Ret_dFnK, RetS_for, Ret_ok, startW, List.map_cons, List.map_nil, List.length_cons, List.length_nil, List.cons_append, List.nil_append, List.replicate, Nat.sub_self, Nat.reduceSub, Nat.reduceAdd, List.getElem?_cons_zero, List.getElem?_cons_succ, List.set_cons_zero, List.set_cons_succ, Option.some.injEq, exists_eq_left', rd_d, on2_d, on1_d, c1_d, bOf_b, exists_eq_left, Option.map_some, Option.bind_some, W.d.injEq, Ret_gcd, List.take_length, dIx]
  refine (table_ok hk hr).mono ?_
  rintro _ T1 ⟨⟨n, g, rfl, n1, n4, tg⟩, h1⟩
  refine (tree_ok hk tg n4 n1 14 12 T1 (by decide) (by decide) (by decide) h1).mono ?_
  rintro _ T2 ⟨⟨t, rfl, tok, tsz⟩, h2⟩
  have tsz : t.size ≤ 12 := by omega
  have gt : Gd 7200 13 t.d := (tree_gd t tok).mono (by omega) (by omega)
  obtain ⟨s0, k1, k2, _⟩ := ne_same gt (by decide) (by decide)
  refine ⟨_, om k1, ?_⟩
  rw [ways_ok 14 t (by omega) (by omega), Ret_ok]
  refine ⟨(t.ways.map wayD, none), rfl, ?_⟩
  refine Ret.of (lc_pure (fun _ => true) (fun z => match z with | .tuple (a :: _) => a | z => z) _ _ fun z hz => by
    obtain ⟨q, _, rfl⟩ := List.mem_map.mp hz
    refine ⟨_, rfl, ⟨rfl, rfl⟩, fun _ => ?_⟩
    simp only [RetS_cons, RetS_nil, RetS_set, RetS_drop, RetS_ret, RetS_if, RetS_asg, RetS_par, RetS_put, RetS_nx, RetS_rt, Ret_dFn, Ret_dCons, Ret_dNil, Ret_dBin, Ret_dUn, Ret_dCall, Ret_dCallN, Ret_dC, Ret_dG, Ret_dVar, Ret_dIf, Ret_dFz, Ret_dNew, Ret_dLst, Ret_dTup, Ret_dB, Ret_dAndT, Ret_dOrT, Ret_dNotT, Ret_dAnd, Ret_dOr, Ret_dNot, Ret_dIsi, Ret_dChain, Ret_dGet, Ret_dD0, Ret_dNoP, Ret_dPt, Ret_dSlA, Ret_dMeth, Ret_dAny, Ret_dLenSet, Ret_dZip, Ret_dZipL, Ret_dKeys, Ret_dRng1, Ret_dRng2, Ret_dLc, wipeW, Ret_dDc, RetS_putL, Ret_dTupP, RetS_asgP, Ret_dSnd, Ret_dD1T, Ret_dListZip, RetS_augI, Ret_gcp, Ret_dItems, Ret_dSortSet, Ret_dFnK, RetS_for, Ret_ok, startW, List.map_cons, List.map_nil, List.length_cons, List.length_nil, List.cons_append, List.nil_append, List.replicate, Nat.sub_self, Nat.reduceSub, Nat.reduceAdd, List.getElem?_cons_zero, List.getElem?_cons_succ, List.set_cons_zero, List.set_cons_succ, Option.some.injEq, exists_eq_left', rd_d, on2_d, on1_d, c1_d, bOf_b, exists_eq_left, Option.map_some, Option.bind_some, W.d.injEq, Ret_gcd, List.take_length, dIx]
    exact ⟨rfl, trivial⟩) ?_
  rw [List.filter_eq_self.mpr fun _ _ => rfl, List.nil_append]
  have eM : (t.ways.map wayD).map (fun z => match z with | .tuple (a :: _) => a | z => z) = t.paths.map pD := by
    rw [List.map_map, Tr.paths, List.map_map]
    exact List.map_congr_left fun q _ => rfl
  rw [eM]
  have gp : Gd 5000 5 (.list [.tuple (t.paths.map pD), .tuple (t.paths.map pD)]) := by
    have pl := paths_len t
    have a := Gd.tuple (Gds.of_mem (xs := t.paths.map pD) (b := 48) (d := 1) fun x hx => by
      obtain ⟨p, hp, rfl⟩ := List.mem_map.mp hx
      exact (pD_gd (m := 12) (by have := pl.2 p hp; omega)))
    have a2 : Gd 600 2 (.tuple (t.paths.map pD)) := a.mono (by rw [List.length_map]; omega) (by decide)
    exact (Gd.list (Gds.cons a2 (Gds.cons a2 (Gds.nil (b := 0))))).mono (by decide) (by decide)
  obtain ⟨s1, l1, l2, _⟩ := ne_same gp (by decide) (by decide)
  refine ⟨_, rfl, _, rfl, _, rfl, ?_⟩
  rw [paths_ok 14 t (by omega) (by omega), Ret_ok]
  refine ⟨_, rfl, trivial, ?_⟩
  rw [show pick [0] [W.d t.d] = [W.d t.d] from rfl, paths_ok 14 t (by omega) (by omega), Ret_ok]
  refine ⟨_, rfl, _, om l1, _, rfl, _, rfl, _, rfl, _, om l1, _, CL.o2 l2, _, rfl, ?_⟩
  rw [if_neg (by decide)]
  refine ⟨_, rfl, (starts_ok tsz T2).mono ?_⟩
  rintro _ _ ⟨⟨L, rfl, hL⟩, rfl⟩
  rename_i T2
  refine ⟨_, rfl, (L.map pD, none), rfl, ?_⟩
  refine Ret.of (lc_pure (fun _ => false) (fun z => z) _ _ fun x hx => by
    obtain ⟨p, hp, rfl⟩ := List.mem_map.mp hx
    refine ⟨_, rfl, ?_, fun h => by cases h⟩
    simp only [RetS_cons, RetS_nil, RetS_set, RetS_drop, RetS_ret, RetS_if, RetS_asg, RetS_par, RetS_put, RetS_nx, RetS_rt, Ret_dFn, Ret_dCons, Ret_dNil, Ret_dBin, Ret_dUn, Ret_dCall, Ret_dCallN, Ret_dC, Ret_dG, Ret_dVar, Ret_dIf, Ret_dFz, Ret_dNew, Ret_dLst, Ret_dTup, Ret_dB, Ret_dAndT, Ret_dOrT, Ret_dNotT, Ret_dAnd, Ret_dOr, Ret_dNot, Ret_dIsi, Ret_dChain, Ret_dGet, Ret_dD0, Ret_dNoP, Ret_dPt, Ret_dSlA, Ret_dMeth, Ret_dAny, Ret_dLenSet, Ret_dZip, Ret_dZipL, Ret_dKeys, Ret_dRng1, Ret_dRng2, Ret_dLc, wipeW, Ret_dDc, RetS_putL, Ret_dTupP, RetS_asgP, Ret_dSnd, Ret_dD1T, Ret_dListZip, RetS_augI, Ret_gcp, Ret_dItems, Ret_dSortSet, Ret_dFnK, RetS_for, Ret_ok, startW, List.map_cons, List.map_nil, List.length_cons, List.length_nil, List.cons_append, List.nil_append, List.replicate, Nat.sub_self, Nat.reduceSub, Nat.reduceAdd, List.getElem?_cons_zero, List.getElem?_cons_succ, List.set_cons_zero, List.set_cons_succ, Option.some.injEq, exists_eq_left', rd_d, on2_d, on1_d, c1_d, bOf_b, exists_eq_left, Option.map_some, Option.bind_some, W.d.injEq, Ret_gcd, List.take_length, dIx]
    refine (right_ok tok tsz ((hL.vp p).mp hp) (hL.few p hp) T2).mono ?_
    rintro _ _ ⟨rfl, rfl⟩
    exact ⟨true, rfl, rfl, rfl⟩) ?_
  rw [List.filter_eq_nil_iff.mpr (by simp), List.map_nil, List.append_nil]
  refine ⟨[], rfl, _, om (ne_nil_ints []), _, rfl, ?_⟩
  rw [if_neg (by decide)]
  refine ⟨[.str "yes"], rfl, [.str "maybe"], rfl, [.bool true], rfl, [.str "yes", .none], rfl, [.str "yes"], rfl, [.tuple [.str "yes"]], rfl, [.str "yes"], rfl, [.list [.str "yes"]], rfl, [.str "no"], rfl, [.str "no", .list [.str "no"]], rfl, oddL, rfl, ?_⟩
  refine ⟨_, rfl, (L.map pD, none), rfl, ?_⟩
  refine for_inv (fun i σ T' => (∃ (q7 : Option W) (vs : List PyData), σ = [some (.s (ns.map PyData.int)), some (.r 0), some (.d y), some (.d g), some (.d t.d), some (.d (.str s0)), some (.d (.tuple (t.paths.map pD))), q7, o8, some (.d (.list (L.map pD))), some (.d (.list vs)), o11, o12] ∧ (∀ x ∈ vs, Gd 200 10 x) ∧ vs.length ≤ 10 + 6 * i) ∧ T' = T2) (L.map pD) 0 _ _ ⟨⟨_, oddL, rfl, fun x hx => (odd_gd x hx).mono (by decide) (by decide), by decide⟩, rfl⟩ ?_ ?_
  · rintro σ T' ⟨⟨q7, vs, rfl, hv, hvl⟩, rfl⟩
    refine ⟨_, rfl, (vs, none), rfl, ?_⟩
    refine for_inv (fun i σ T'' => (∃ (q6 q11 q12 : Option W), σ = [some (.s (ns.map PyData.int)), some (.r 0), some (.d y), some (.d g), some (.d t.d), some (.d (.str s0)), q6, q7, o8, some (.d (.list (L.map pD))), some (.d (.list vs)), q11, q12]) ∧ T'' = T') vs 0 _ _ ⟨⟨_, _, _, rfl⟩, rfl⟩ ?_ ?_
    · rintro σ T'' ⟨⟨q6, q11, q12, rfl⟩, rfl⟩
      refine ⟨_, rfl, _, om k1, _, rfl, _, CL.o2 k2, _, rfl, ?_⟩
      rw [if_neg (by decide)]
      exact ⟨⟨_, _, _, _, _, _, _, _, _, _, _, rfl⟩, h2⟩
    · rintro i v σ T'' hvi ⟨⟨q6, q11, q12, rfl⟩, rfl⟩
      refine ⟨_, rfl, ?_⟩
      refine (value_ok tsz hL (hv v (List.mem_of_getElem? hvi)) T'').mono ?_ (fun _ _ h => h.elim)
      rintro σ' T3 ⟨⟨p6, p12, rfl⟩, rfl⟩
      exact ⟨⟨_, _, _, rfl⟩, rfl⟩
  · rintro i x σ T' hx ⟨⟨q7, vs, rfl, hv, hvl⟩, rfl⟩
    obtain ⟨p, hp, rfl⟩ := List.mem_map.mp (List.mem_of_getElem? hx)
    have hil : i < 300 := by have := (List.getElem?_eq_some_iff.mp hx).1; rw [List.length_map] at this; have := hL.len; omega
    have hpl := hL.few p hp
    have hps := pd_sh p
    have lp : (p.map ansD).length ≤ 12 := by rw [List.length_map]; exact hpl
    have shY : Sh (.str "yes") := sh_of (by decide +kernel)
    have shN : Sh (.str "no") := sh_of (by decide +kernel)
    have shM : Sh (.str "No") := sh_of (by decide +kernel)
    have app : ∀ {a b : List PyData}, (∀ x ∈ a, Sh x) → (∀ x ∈ b, Sh x) → ∀ x ∈ a ++ b, Sh x := fun ha hb x hx => (List.mem_append.mp hx).elim (ha x) (hb x)
    have one : ∀ {z : PyData}, Sh z → ∀ x ∈ [z], Sh x := fun hz x hx => by rw [List.mem_singleton.mp hx]; exact hz
    refine ⟨_, rfl, ?_⟩
    simp only [RetS_cons, RetS_nil, RetS_set, RetS_drop, RetS_ret, RetS_if, RetS_asg, RetS_par, RetS_put, RetS_nx, RetS_rt, Ret_dFn, Ret_dCons, Ret_dNil, Ret_dBin, Ret_dUn, Ret_dCall, Ret_dCallN, Ret_dC, Ret_dG, Ret_dVar, Ret_dIf, Ret_dFz, Ret_dNew, Ret_dLst, Ret_dTup, Ret_dB, Ret_dAndT, Ret_dOrT, Ret_dNotT, Ret_dAnd, Ret_dOr, Ret_dNot, Ret_dIsi, Ret_dChain, Ret_dGet, Ret_dD0, Ret_dNoP, Ret_dPt, Ret_dSlA, Ret_dMeth, Ret_dAny, Ret_dLenSet, Ret_dZip, Ret_dZipL, Ret_dKeys, Ret_dRng1, Ret_dRng2, Ret_dLc, wipeW, Ret_dDc, RetS_putL, Ret_dTupP, RetS_asgP, Ret_dSnd, Ret_dD1T, Ret_dListZip, RetS_augI, Ret_gcp, Ret_dItems, Ret_dSortSet, Ret_dFnK, RetS_for, Ret_ok, startW, List.map_cons, List.map_nil, List.length_cons, List.length_nil, List.cons_append, List.nil_append, List.replicate, Nat.sub_self, Nat.reduceSub, Nat.reduceAdd, List.getElem?_cons_zero, List.getElem?_cons_succ, List.set_cons_zero, List.set_cons_succ, Option.some.injEq, exists_eq_left', rd_d, on2_d, on1_d, c1_d, bOf_b, exists_eq_left, Option.map_some, Option.bind_some, W.d.injEq, Ret_gcd, List.take_length, dIx]
    have xs6 : ∃ l6 : List PyData, l6 = [.tuple (p.map ansD ++ [.str "yes"]), .tuple (p.map ansD ++ [.str "no"]), .tuple (p.map ansD ++ [.str "No"]), .list (p.map ansD), .tuple (cutG (p.map ansD) (some 1) none), .tuple ([.str "no"] ++ p.map ansD)] := ⟨_, rfl⟩
    obtain ⟨l6, hl6⟩ := xs6
    refine ⟨[.str "yes"], rfl, _, addT (by simp; omega), [.str "no"], rfl, _, addT (by simp; omega), [.str "No"], rfl, _, addT (by simp; omega), p.map ansD, rfl, _, rfl, .tuple (cutG (p.map ansD) (some 1) none), rfl, [.str "no"], rfl, _, addT (by simp; omega), l6, by rw [hl6]; rfl, .d (.list (vs ++ l6)), ?_, ⟨_, vs ++ l6, rfl, fun x hx => ?_, by rw [hl6, List.length_append]; simp; omega⟩, trivial⟩
    · show (if small (vs.length + l6.length) = true then some (PyData.list (vs ++ l6)) else none).map W.d = _
      rw [if_pos (small_of (m := 10000) (by rw [hl6]; simp; omega))]; rfl
    · rcases List.mem_append.mp hx with hx | hx
      · exact hv x hx
      · rw [hl6] at hx
        simp only [List.mem_cons, List.not_mem_nil, or_false] at hx
        rcases hx with rfl | rfl | rfl | rfl | rfl | rfl
        · exact shs_gd (app hps (one shY)) (by simp; omega) .tuple (.inr rfl)
        · exact shs_gd (app hps (one shN)) (by simp; omega) .tuple (.inr rfl)
        · exact shs_gd (app hps (one shM)) (by simp; omega) .tuple (.inr rfl)
        · exact shs_gd hps (by omega) .list (.inl rfl)
        · exact shs_gd (fun x hx => hps x (cut_mem hx)) (by have : (cutG (p.map ansD) (some 1) none).length ≤ (p.map ansD).length := by { unfold cutG; rw [List.length_take, List.length_drop]; omega }; omega) .tuple (.inr rfl)
        · exact shs_gd (app (one shN) hps) (by simp; omega) .tuple (.inr rfl)
end LK33
end

section
/-! part LK33e -/
set_option Elab.async false
set_option linter.all false
set_option maxRecDepth 100000
namespace LK33
open CL
open PySem PySem.Spec PyProof.Rows L2
theorem all_mk {w : World} {K : PySem.W.Frag} {h : Heap} {mg : Str → Option Value} {fa : Addr} (X : K.In h) (G : h.Ns mainGlobals mg) (hfa : mg "law" = some (.ref fa))
    {f0 : Addr} {od0 an0 : Option Addr} {sl0 : Array (Option Value)} {oc0 kV0 dc0 pm0 cd0 ct0 : Value}
    (a0 : PySem.W.nsIn K mainGlobals "_law_tape" = some (some (.ref f0))) (l0 : K.lookup f0 = some ⟨oc0, od0, .func (PySem.W.fnOf "_law_tape" "_law_tape" (defArgs st_l_tape) (defBody st_l_tape) (defScope st_l_tape) .none kV0 dc0 pm0 an0 cd0 ct0), sl0⟩) (c0 : PySem.W.codeIn K cd0 "_law_tape" = true) (k0 : PySem.W.keepIn K (.ref f0) = true)
    {f1 : Addr} {od1 an1 : Option Addr} {sl1 : Array (Option Value)} {oc1 kV1 dc1 pm1 cd1 ct1 : Value}
    (a1 : PySem.W.nsIn K mainGlobals "_law_pick" = some (some (.ref f1))) (l1 : K.lookup f1 = some ⟨oc1, od1, .func (PySem.W.fnOf "_law_pick" "_law_pick" (defArgs st_l_pick) (defBody st_l_pick) (defScope st_l_pick) .none kV1 dc1 pm1 an1 cd1 ct1), sl1⟩) (c1 : PySem.W.codeIn K cd1 "_law_pick" = true) (k1 : PySem.W.keepIn K (.ref f1) = true)
    {f2 : Addr} {od2 an2 : Option Addr} {sl2 : Array (Option Value)} {oc2 kV2 dc2 pm2 cd2 ct2 : Value}
    (a2 : PySem.W.nsIn K mainGlobals "_law_any" = some (some (.ref f2))) (l2 : K.lookup f2 = some ⟨oc2, od2, .func (PySem.W.fnOf "_law_any" "_law_any" (defArgs st_l_any) (defBody st_l_any) (defScope st_l_any) .none kV2 dc2 pm2 an2 cd2 ct2), sl2⟩) (c2 : PySem.W.codeIn K cd2 "_law_any" = true) (k2 : PySem.W.keepIn K (.ref f2) = true)
    {f3 : Addr} {od3 an3 : Option Addr} {sl3 : Array (Option Value)} {oc3 kV3 dc3 pm3 cd3 ct3 : Value}
    (a3 : PySem.W.nsIn K mainGlobals "_law_table" = some (some (.ref f3))) (l3 : K.lookup f3 = some ⟨oc3, od3, .func (PySem.W.fnOf "_law_table" "_law_table" (defArgs st_l_table) (defBody st_l_table) (defScope st_l_table) .none kV3 dc3 pm3 an3 cd3 ct3), sl3⟩) (c3 : PySem.W.codeIn K cd3 "_law_table" = true) (k3 : PySem.W.keepIn K (.ref f3) = true)
    {f4 : Addr} {od4 an4 : Option Addr} {sl4 : Array (Option Value)} {oc4 kV4 dc4 pm4 cd4 ct4 : Value}
    (a4 : PySem.W.nsIn K mainGlobals "_law_some" = some (some (.ref f4))) (l4 : K.lookup f4 = some ⟨oc4, od4, .func (PySem.W.fnOf "_law_some" "_law_some" (defArgs st_l_some) (defBody st_l_some) (defScope st_l_some) .none kV4 dc4 pm4 an4 cd4 ct4), sl4⟩) (c4 : PySem.W.codeIn K cd4 "_law_some" = true) (k4 : PySem.W.keepIn K (.ref f4) = true)
    {f5 : Addr} {od5 an5 : Option Addr} {sl5 : Array (Option Value)} {oc5 kV5 dc5 pm5 cd5 ct5 : Value}
    (a5 : PySem.W.nsIn K mainGlobals "_law_in_row" = some (some (.ref f5))) (l5 : K.lookup f5 = some ⟨oc5, od5, .func (PySem.W.fnOf "_law_in_row" "_law_in_row" (defArgs st_l_in_row) (defBody st_l_in_row) (defScope st_l_in_row) .none kV5 dc5 pm5 an5 cd5 ct5), sl5⟩) (c5 : PySem.W.codeIn K cd5 "_law_in_row" = true) (k5 : PySem.W.keepIn K (.ref f5) = true)
    {f6 : Addr} {od6 an6 : Option Addr} {sl6 : Array (Option Value)} {oc6 kV6 dc6 pm6 cd6 ct6 : Value}
    (a6 : PySem.W.nsIn K mainGlobals "_law_every" = some (some (.ref f6))) (l6 : K.lookup f6 = some ⟨oc6, od6, .func (PySem.W.fnOf "_law_every" "_law_every" (defArgs st_l_every) (defBody st_l_every) (defScope st_l_every) .none kV6 dc6 pm6 an6 cd6 ct6), sl6⟩) (c6 : PySem.W.codeIn K cd6 "_law_every" = true) (k6 : PySem.W.keepIn K (.ref f6) = true)
    {f7 : Addr} {od7 an7 : Option Addr} {sl7 : Array (Option Value)} {oc7 kV7 dc7 pm7 cd7 ct7 : Value}
    (a7 : PySem.W.nsIn K mainGlobals "_law_lot" = some (some (.ref f7))) (l7 : K.lookup f7 = some ⟨oc7, od7, .func (PySem.W.fnOf "_law_lot" "_law_lot" (defArgs st_l_lot) (defBody st_l_lot) (defScope st_l_lot) .none kV7 dc7 pm7 an7 cd7 ct7), sl7⟩) (c7 : PySem.W.codeIn K cd7 "_law_lot" = true) (k7 : PySem.W.keepIn K (.ref f7) = true)
    {f8 : Addr} {od8 an8 : Option Addr} {sl8 : Array (Option Value)} {oc8 kV8 dc8 pm8 cd8 ct8 : Value}
    (a8 : PySem.W.nsIn K mainGlobals "_law_tree" = some (some (.ref f8))) (l8 : K.lookup f8 = some ⟨oc8, od8, .func (PySem.W.fnOf "_law_tree" "_law_tree" (defArgs st_l_tree) (defBody st_l_tree) (defScope st_l_tree) .none kV8 dc8 pm8 an8 cd8 ct8), sl8⟩) (c8 : PySem.W.codeIn K cd8 "_law_tree" = true) (k8 : PySem.W.keepIn K (.ref f8) = true)
    {f9 : Addr} {od9 an9 : Option Addr} {sl9 : Array (Option Value)} {oc9 kV9 dc9 pm9 cd9 ct9 : Value}
    (a9 : PySem.W.nsIn K mainGlobals "_law_ways" = some (some (.ref f9))) (l9 : K.lookup f9 = some ⟨oc9, od9, .func (PySem.W.fnOf "_law_ways" "_law_ways" (defArgs st_l_ways) (defBody st_l_ways) (defScope st_l_ways) .none kV9 dc9 pm9 an9 cd9 ct9), sl9⟩) (c9 : PySem.W.codeIn K cd9 "_law_ways" = true) (k9 : PySem.W.keepIn K (.ref f9) = true)
    {f10 : Addr} {od10 an10 : Option Addr} {sl10 : Array (Option Value)} {oc10 kV10 dc10 pm10 cd10 ct10 : Value}
    (a10 : PySem.W.nsIn K mainGlobals "_law_starts" = some (some (.ref f10))) (l10 : K.lookup f10 = some ⟨oc10, od10, .func (PySem.W.fnOf "_law_starts" "_law_starts" (defArgs st_l_starts) (defBody st_l_starts) (defScope st_l_starts) .none kV10 dc10 pm10 an10 cd10 ct10), sl10⟩) (c10 : PySem.W.codeIn K cd10 "_law_starts" = true) (k10 : PySem.W.keepIn K (.ref f10) = true)
    {f11 : Addr} {od11 an11 : Option Addr} {sl11 : Array (Option Value)} {oc11 kV11 dc11 pm11 cd11 ct11 : Value}
    (a11 : PySem.W.nsIn K mainGlobals "spoken" = some (some (.ref f11))) (l11 : K.lookup f11 = some ⟨oc11, od11, .func (PySem.W.fnOf "spoken" "spoken" (defArgs st_spoken) (defBody st_spoken) (defScope st_spoken) .none kV11 dc11 pm11 an11 cd11 ct11), sl11⟩) (c11 : PySem.W.codeIn K cd11 "spoken" = true) (k11 : PySem.W.keepIn K (.ref f11) = true)
    {f12 : Addr} {od12 an12 : Option Addr} {sl12 : Array (Option Value)} {oc12 kV12 dc12 pm12 cd12 ct12 : Value}
    (a12 : PySem.W.nsIn K mainGlobals "after_answer" = some (some (.ref f12))) (l12 : K.lookup f12 = some ⟨oc12, od12, .func (PySem.W.fnOf "after_answer" "after_answer" (defArgs st_after_answer) (defBody st_after_answer) (defScope st_after_answer) .none kV12 dc12 pm12 an12 cd12 ct12), sl12⟩) (c12 : PySem.W.codeIn K cd12 "after_answer" = true) (k12 : PySem.W.keepIn K (.ref f12) = true)
    {f13 : Addr} {od13 an13 : Option Addr} {sl13 : Array (Option Value)} {oc13 kV13 dc13 pm13 cd13 ct13 : Value}
    (a13 : PySem.W.nsIn K mainGlobals "paths_of" = some (some (.ref f13))) (l13 : K.lookup f13 = some ⟨oc13, od13, .func (PySem.W.fnOf "paths_of" "paths_of" (defArgs st_paths_of) (defBody st_paths_of) (defScope st_paths_of) .none kV13 dc13 pm13 an13 cd13 ct13), sl13⟩) (c13 : PySem.W.codeIn K cd13 "paths_of" = true) (k13 : PySem.W.keepIn K (.ref f13) = true)
    {f14 : Addr} {od14 an14 : Option Addr} {sl14 : Array (Option Value)} {oc14 kV14 dc14 pm14 cd14 ct14 : Value}
    (a14 : PySem.W.nsIn K mainGlobals "_law_after" = some (some (.ref f14))) (l14 : K.lookup f14 = some ⟨oc14, od14, .func (PySem.W.fnOf "_law_after" "_law_after" (defArgs st_l_after) (defBody st_l_after) (defScope st_l_after) .none kV14 dc14 pm14 an14 cd14 ct14), sl14⟩) (c14 : PySem.W.codeIn K cd14 "_law_after" = true) (k14 : PySem.W.keepIn K (.ref f14) = true)
    {f15 : Addr} {od15 an15 : Option Addr} {sl15 : Array (Option Value)} {oc15 kV15 dc15 pm15 cd15 ct15 : Value}
    (a15 : PySem.W.nsIn K mainGlobals "_law_next" = some (some (.ref f15))) (l15 : K.lookup f15 = some ⟨oc15, od15, .func (PySem.W.fnOf "_law_next" "_law_next" (defArgs st_l_next) (defBody st_l_next) (defScope st_l_next) .none kV15 dc15 pm15 an15 cd15 ct15), sl15⟩) (c15 : PySem.W.codeIn K cd15 "_law_next" = true) (k15 : PySem.W.keepIn K (.ref f15) = true)
    {f16 : Addr} {od16 an16 : Option Addr} {sl16 : Array (Option Value)} {oc16 kV16 dc16 pm16 cd16 ct16 : Value}
    (a16 : PySem.W.nsIn K mainGlobals "output_of" = some (some (.ref f16))) (l16 : K.lookup f16 = some ⟨oc16, od16, .func (PySem.W.fnOf "output_of" "output_of" (defArgs st_output_of) (defBody st_output_of) (defScope st_output_of) .none kV16 dc16 pm16 an16 cd16 ct16), sl16⟩) (c16 : PySem.W.codeIn K cd16 "output_of" = true) (k16 : PySem.W.keepIn K (.ref f16) = true)
    {f17 : Addr} {od17 an17 : Option Addr} {sl17 : Array (Option Value)} {oc17 kV17 dc17 pm17 cd17 ct17 : Value}
    (a17 : PySem.W.nsIn K mainGlobals "program_after" = some (some (.ref f17))) (l17 : K.lookup f17 = some ⟨oc17, od17, .func (PySem.W.fnOf "program_after" "program_after" (defArgs st_program_after) (defBody st_program_after) (defScope st_program_after) .none kV17 dc17 pm17 an17 cd17 ct17), sl17⟩) (c17 : PySem.W.codeIn K cd17 "program_after" = true) (k17 : PySem.W.keepIn K (.ref f17) = true)
    {f18 : Addr} {od18 an18 : Option Addr} {sl18 : Array (Option Value)} {oc18 kV18 dc18 pm18 cd18 ct18 : Value}
    (a18 : PySem.W.nsIn K mainGlobals "next_question" = some (some (.ref f18))) (l18 : K.lookup f18 = some ⟨oc18, od18, .func (PySem.W.fnOf "next_question" "next_question" (defArgs st_next_question) (defBody st_next_question) (defScope st_next_question) .none kV18 dc18 pm18 an18 cd18 ct18), sl18⟩) (c18 : PySem.W.codeIn K cd18 "next_question" = true) (k18 : PySem.W.keepIn K (.ref f18) = true)
    {f19 : Addr} {od19 an19 : Option Addr} {sl19 : Array (Option Value)} {oc19 kV19 dc19 pm19 cd19 ct19 : Value}
    (a19 : PySem.W.nsIn K mainGlobals "is_answer" = some (some (.ref f19))) (l19 : K.lookup f19 = some ⟨oc19, od19, .func (PySem.W.fnOf "is_answer" "is_answer" (defArgs st_is_answer) (defBody st_is_answer) (defScope st_is_answer) .none kV19 dc19 pm19 an19 cd19 ct19), sl19⟩) (c19 : PySem.W.codeIn K cd19 "is_answer" = true) (k19 : PySem.W.keepIn K (.ref f19) = true)
    {f20 : Addr} {od20 an20 : Option Addr} {sl20 : Array (Option Value)} {oc20 kV20 dc20 pm20 cd20 ct20 : Value}
    (a20 : PySem.W.nsIn K mainGlobals "is_path" = some (some (.ref f20))) (l20 : K.lookup f20 = some ⟨oc20, od20, .func (PySem.W.fnOf "is_path" "is_path" (defArgs st_is_path) (defBody st_is_path) (defScope st_is_path) .none kV20 dc20 pm20 an20 cd20 ct20), sl20⟩) (c20 : PySem.W.codeIn K cd20 "is_path" = true) (k20 : PySem.W.keepIn K (.ref f20) = true)
    {f21 : Addr} {od21 an21 : Option Addr} {sl21 : Array (Option Value)} {oc21 kV21 dc21 pm21 cd21 ct21 : Value}
    (a21 : PySem.W.nsIn K mainGlobals "_law_are_right" = some (some (.ref f21))) (l21 : K.lookup f21 = some ⟨oc21, od21, .func (PySem.W.fnOf "_law_are_right" "_law_are_right" (defArgs st_l_are_right) (defBody st_l_are_right) (defScope st_l_are_right) .none kV21 dc21 pm21 an21 cd21 ct21), sl21⟩) (c21 : PySem.W.codeIn K cd21 "_law_are_right" = true) (k21 : PySem.W.keepIn K (.ref f21) = true)
    {f22 : Addr} {od22 an22 : Option Addr} {sl22 : Array (Option Value)} {oc22 kV22 dc22 pm22 cd22 ct22 : Value}
    (a22 : PySem.W.nsIn K mainGlobals "law" = some (some (.ref f22))) (l22 : K.lookup f22 = some ⟨oc22, od22, .func (PySem.W.fnOf "law" "law" (defArgs st_law) (defBody st_law) (defScope st_law) .none kV22 dc22 pm22 an22 cd22 ct22), sl22⟩) (c22 : PySem.W.codeIn K cd22 "law" = true) (k22 : PySem.W.keepIn K (.ref f22) = true)
    (z_isinstance : PySem.W.nsIn K mainGlobals "isinstance" = some none)
    (z_len : PySem.W.nsIn K mainGlobals "len" = some none)
    (z_list : PySem.W.nsIn K mainGlobals "list" = some none)
    (z_range : PySem.W.nsIn K mainGlobals "range" = some none)
    (z_repr : PySem.W.nsIn K mainGlobals "repr" = some none)
    (z_set : PySem.W.nsIn K mainGlobals "set" = some none)
    (z_sorted : PySem.W.nsIn K mainGlobals "sorted" = some none)
    (z_str : PySem.W.nsIn K mainGlobals "str" = some none)
    (z_tuple : PySem.W.nsIn K mainGlobals "tuple" = some none)
    (z_zip : PySem.W.nsIn K mainGlobals "zip" = some none)
    : ∃ fd : FuncData, (∀ (s : Shared) (v : Value), BindsTo s fd ⟨[v], []⟩ [("_law_script", v)]) ∧ ∀ base : Heap, K.In base → base.Ns mainGlobals mg → FnG PySem.Challenge.pw_chosenlast_k33_paths_told w K mg base CX0 18 fa fd ["_law_script"] (spF K mg f_law) := by
  have e := hfa.symm.trans (PySem.W.mg_of X G a22)
  cases e
  have M : Mo K mg := ⟨defG_mk X G a0 l0 c0 k0 fun _ _ _ _ _ _ us hl => match us, hl with | [_], _ => rfl,
    defG_mk X G a1 l1 c1 k1 fun _ _ _ _ _ _ us hl => match us, hl with | [_, _], _ => rfl,
    defG_mk X G a2 l2 c2 k2 fun _ _ _ _ _ _ us hl => match us, hl with | [_, _], _ => rfl,
    defG_mk X G a3 l3 c3 k3 fun _ _ _ _ _ _ us hl => match us, hl with | [_, _, _], _ => rfl,
    defG_mk X G a4 l4 c4 k4 fun _ _ _ _ _ _ us hl => match us, hl with | [_, _, _], _ => rfl,
    defG_mk X G a5 l5 c5 k5 fun _ _ _ _ _ _ us hl => match us, hl with | [_, _], _ => rfl,
    defG_mk X G a6 l6 c6 k6 fun _ _ _ _ _ _ us hl => match us, hl with | [_], _ => rfl,
    defG_mk X G a7 l7 c7 k7 fun _ _ _ _ _ _ us hl => match us, hl with | [_, _], _ => rfl,
    defG_mk X G a8 l8 c8 k8 fun _ _ _ _ _ _ us hl => match us, hl with | [_, _, _], _ => rfl,
    defG_mk X G a9 l9 c9 k9 fun _ _ _ _ _ _ us hl => match us, hl with | [_], _ => rfl,
    defG_mk X G a10 l10 c10 k10 fun _ _ _ _ _ _ us hl => match us, hl with | [_], _ => rfl,
    defG_mk X G a11 l11 c11 k11 fun _ _ _ _ _ _ us hl => match us, hl with | [_], _ => rfl,
    defG_mk X G a12 l12 c12 k12 fun _ _ _ _ _ _ us hl => match us, hl with | [_, _], _ => rfl,
    defG_mk X G a13 l13 c13 k13 fun _ _ _ _ _ _ us hl => match us, hl with | [_], _ => rfl,
    defG_mk X G a14 l14 c14 k14 fun _ _ _ _ _ _ us hl => match us, hl with | [_, _], _ => rfl,
    defG_mk X G a15 l15 c15 k15 fun _ _ _ _ _ _ us hl => match us, hl with | [_, _], _ => rfl,
    defG_mk X G a16 l16 c16 k16 fun _ _ _ _ _ _ us hl => match us, hl with | [_, _], _ => rfl,
    defG_mk X G a17 l17 c17 k17 fun _ _ _ _ _ _ us hl => match us, hl with | [_, _], _ => rfl,
    defG_mk X G a18 l18 c18 k18 fun _ _ _ _ _ _ us hl => match us, hl with | [_, _], _ => rfl,
    defG_mk X G a19 l19 c19 k19 fun _ _ _ _ _ _ us hl => match us, hl with | [_], _ => rfl,
    defG_mk X G a20 l20 c20 k20 fun _ _ _ _ _ _ us hl => match us, hl with | [_, _], _ => rfl,
    defG_mk X G a21 l21 c21 k21 fun _ _ _ _ _ _ us hl => match us, hl with | [_, _], _ => rfl,
    defG_mk X G a22 l22 c22 k22 fun _ _ _ _ _ _ us hl => match us, hl with | [_], _ => rfl,
    PySem.W.mg_none_of X G z_isinstance,
    PySem.W.mg_none_of X G z_len,
    PySem.W.mg_none_of X G z_list,
    PySem.W.mg_none_of X G z_range,
    PySem.W.mg_none_of X G z_repr,
    PySem.W.mg_none_of X G z_set,
    PySem.W.mg_none_of X G z_sorted,
    PySem.W.mg_none_of X G z_str,
    PySem.W.mg_none_of X G z_tuple,
    PySem.W.mg_none_of X G z_zip⟩
  have F := fun_mk (st := st_law) l22 c22 k22
  exact ⟨_, fun s v => .of_eq rfl, fun base _ _ => g_law M F⟩
end LK33
open PySem PySem.W PyProof.Rows
set_option maxHeartbeats 0 in
theorem PySem.Challenge.cw_chosenlast_k33_paths_told_holds : PySem.Challenge.rw_chosenlast_k33_paths_told.Holds := by
  w_on; o_law; k_head; (case hw => w_witness2)
  k_fill
  refine CL.walkG (l := PySem.Challenge.rw_chosenlast_k33_paths_told) (n := 63) (k := 18) (x := "_law_script") (CX := fun _ => L2.CX0) (sp := fun w mg => CL.spF _ mg LK33.f_law) rfl (by decide) rfl ⟨rfl, by decide, by decide⟩ (fun w h Y => PySem.W.kIn_of Y) ?F (fun w mg H a ns hl h => CL.law_sp LK33.law_true _ mg H a ns hl h) (fun _ _ _ _ _ h => h)
  case F =>
    intro w mg fa h KX G hmg
    refine' LK33.all_mk KX G hmg ?a0 ?l0 ?c0 ?k0 ?a1 ?l1 ?c1 ?k1 ?a2 ?l2 ?c2 ?k2 ?a3 ?l3 ?c3 ?k3 ?a4 ?l4 ?c4 ?k4 ?a5 ?l5 ?c5 ?k5 ?a6 ?l6 ?c6 ?k6 ?a7 ?l7 ?c7 ?k7 ?a8 ?l8 ?c8 ?k8 ?a9 ?l9 ?c9 ?k9 ?a10 ?l10 ?c10 ?k10 ?a11 ?l11 ?c11 ?k11 ?a12 ?l12 ?c12 ?k12 ?a13 ?l13 ?c13 ?k13 ?a14 ?l14 ?c14 ?k14 ?a15 ?l15 ?c15 ?k15 ?a16 ?l16 ?c16 ?k16 ?a17 ?l17 ?c17 ?k17 ?a18 ?l18 ?c18 ?k18 ?a19 ?l19 ?c19 ?k19 ?a20 ?l20 ?c20 ?k20 ?a21 ?l21 ?c21 ?k21 ?a22 ?l22 ?c22 ?k22 ?z_isinstance ?z_len ?z_list ?z_range ?z_repr ?z_set ?z_sorted ?z_str ?z_tuple ?z_zip
    (case a0 => k_is); (case l0 => k_is); (case c0 => k_is); (case k0 => k_is); (case a1 => k_is); (case l1 => k_is); (case c1 => k_is); (case k1 => k_is); (case a2 => k_is); (case l2 => k_is); (case c2 => k_is); (case k2 => k_is); (case a3 => k_is); (case l3 => k_is); (case c3 => k_is); (case k3 => k_is); (case a4 => k_is); (case l4 => k_is); (case c4 => k_is); (case k4 => k_is); (case a5 => k_is); (case l5 => k_is); (case c5 => k_is); (case k5 => k_is); (case a6 => k_is); (case l6 => k_is); (case c6 => k_is); (case k6 => k_is); (case a7 => k_is); (case l7 => k_is); (case c7 => k_is); (case k7 => k_is); (case a8 => k_is); (case l8 => k_is); (case c8 => k_is); (case k8 => k_is); (case a9 => k_is); (case l9 => k_is); (case c9 => k_is); (case k9 => k_is); (case a10 => k_is); (case l10 => k_is); (case c10 => k_is); (case k10 => k_is); (case a11 => k_is); (case l11 => k_is); (case c11 => k_is); (case k11 => k_is); (case a12 => k_is); (case l12 => k_is); (case c12 => k_is); (case k12 => k_is); (case a13 => k_is); (case l13 => k_is); (case c13 => k_is); (case k13 => k_is); (case a14 => k_is); (case l14 => k_is); (case c14 => k_is); (case k14 => k_is); (case a15 => k_is); (case l15 => k_is); (case c15 => k_is); (case k15 => k_is); (case a16 => k_is); (case l16 => k_is); (case c16 => k_is); (case k16 => k_is); (case a17 => k_is); (case l17 => k_is); (case c17 => k_is); (case k17 => k_is); (case a18 => k_is); (case l18 => k_is); (case c18 => k_is); (case k18 => k_is); (case a19 => k_is); (case l19 => k_is); (case c19 => k_is); (case k19 => k_is); (case a20 => k_is); (case l20 => k_is); (case c20 => k_is); (case k20 => k_is); (case a21 => k_is); (case l21 => k_is); (case c21 => k_is); (case k21 => k_is); (case a22 => k_is); (case l22 => k_is); (case c22 => k_is); (case k22 => k_is); (case z_isinstance => k_is); (case z_len => k_is); (case z_list => k_is); (case z_range => k_is); (case z_repr => k_is); (case z_set => k_is); (case z_sorted => k_is); (case z_str => k_is); (case z_tuple => k_is); (case z_zip => k_is)
end
