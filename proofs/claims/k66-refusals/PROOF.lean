import PyProof.Rows.All
import Wide.All
import OpenK.AllK
import Wide.FinOn
import HandS.ForMost
import HandS.Exc
import HandS.TupAny
import HandS.ExcInit
import HandS.Deep
import HandS.Wide
import HandS.Flow
import HandS.ExcOwn
import HandS.CallSlots
import HandS.MakeKwOnly
import HandS.CallRecv
import HandS.More
import HandS.ExcField
import HandS.ExcIs
import HandS.ExcValue
import HandS.FStr
import HandS.Head0
import HandS.Head1
import HandS.Head2
import HandS.HeadEnd
import HandS.HeadHook1
import HandS.HeadHook2
import PySem.Challenge.RW_onepour_k66_refusals_made_by_hand
set_option Elab.async false
set_option linter.all false
set_option maxRecDepth 100000
set_option maxHeartbeats 4000000
/-! A small machine for the texts at hand: values told deep, objects by their number, each construct shown by the hand layer. -/
namespace Mi
open PySem L2

/-- a value: tuples are told whole, lists, dicts, instances by their number -/
inductive D where
  | non | bl (b : Bool) | int (i : Int) | str (s : Str) | tup (l : List D) | ref (n : Nat) | gl (x : Nat) | ty (n : String) | kl (l : List D)
  deriving Inhabited

/-- an object -/
inductive Ob where
  | lst (l : List D)
  | dic (l : List (Key × D))
  | ins (c : Nat) (fs : List (Nat × D))
  | lock (o : Ob)
  | xo (me c : Nat) (d : Option Nat)
  | xd (me : Nat) (fs : List (Nat × D))
  deriving Inhabited

abbrev Sto := List Ob

/-- the names by number; no number has another's name -/
structure Nm where
  nm : Nat → Str
  inj : ∀ i j, nm i = nm j → i = j

/-- a list of the module: it stays -/
def KSq (K : PySem.W.Frag) (a : Addr) (xs : List V) : Prop := ∃ (o : Obj) (its : Array Value) (n : Nat), K.lookup a = some o ∧ o.cls = .type "list" ∧ o.dict = none ∧ o.data = .seq its n ∧ its.size ≤ sizeLine ∧ Vals xs its.toList
section
variable (T : Nm) (K : PySem.W.Frag) (mg : Str → Option Value) (H : Hp) (io : List Addr)
mutual
def RV : D → V → Prop
  | .non, v => v = .non
  | .bl b, v => v = .bl b
  | .int i, v => v = .int i
  | .str s, v => v = .str s
  | .tup l, v => ∃ a vs, v = .ref a ∧ SqT K H a vs ∧ RVs l vs
  | .ref n, v => ∃ a, io[n]? = some a ∧ v = .ref a
  | .gl x, v => ∃ u, mg (T.nm x) = some u ∧ RelV v u
  | .ty t, v => v = .ty t
  | .kl l, v => ∃ a vs, v = .ref a ∧ KSq K a vs ∧ RVs l vs
def RVs : List D → List V → Prop
  | [], vs => vs = []
  | d :: ds, vs => ∃ v r, vs = v :: r ∧ RV d v ∧ RVs ds r
end
/-- names with values -/
def RF {κ κ' : Type} (g : κ → κ') : List (κ × D) → List (κ' × V) → Prop
  | [], vs => vs = []
  | (k, d) :: ds, vs => ∃ v r, vs = (g k, v) :: r ∧ RV T K mg H io d v ∧ RF g ds r
def RO : Ob → HO → Prop
  | .lst l, o => ∃ vs, o = .lst vs ∧ RVs T K mg H io l vs
  | .dic l, o => ∃ kvs, o = .dK kvs ∧ RF T K mg H io id l kvs
  | .ins c fs, o => ∃ C dx vs, o = .ins C dx vs ∧ mg (T.nm c) = some (.ref C) ∧ RF T K mg H io T.nm fs vs
  | .lock o, h => ∃ ob u, h = .frz ob u ∧ RO o u
  | .xo me c none, o => ∃ a C, io[me]? = some a ∧ mg (T.nm c) = some (.ref C) ∧ o = exo a C none
  | .xo me c (some m), o => ∃ a C b, io[me]? = some a ∧ mg (T.nm c) = some (.ref C) ∧ io[m]? = some b ∧ o = exo a C (some b)
  | .xd me fs, o => ∃ a vs, io[me]? = some a ∧ o = exd a vs ∧ RF T K mg H io T.nm fs vs
/-- the store stands in the heap -/
structure Rep (st : Sto) : Prop where
  len : io.length = st.length
  nd : io.Nodup
  ob : ∀ (n : Nat) (a : Addr) (o : Ob), io[n]? = some a → st[n]? = some o → ∃ ho, H a = some ho ∧ RO T K mg H io o ho
/-- the slots -/
def RS (env : List (Option D)) (σ : St) : Prop := env.length = σ.length ∧ ∀ (i : Nat) (d : D), env[i]? = some (some d) → ∃ v, σ[i]? = some (some v) ∧ RV T K mg H io d v
end

/-- what stays whatever is done: tuples, locked things -/
def Kp (H H' : Hp) : Prop := (∀ a xs, H a = some (.tup xs) → H' a = some (.tup xs)) ∧ ∀ a o u, H a = some (.frz o u) → H' a = some (.frz o u)
theorem Kp.refl {H : Hp} : Kp H H := ⟨fun _ _ e => e, fun _ _ _ e => e⟩
theorem Kp.trans {H H1 H2 : Hp} (a : Kp H H1) (b : Kp H1 H2) : Kp H H2 := ⟨fun c xs e => b.1 c xs (a.1 c xs e), fun c o u e => b.2 c o u (a.2 c o u e)⟩
theorem Kp.new {H : Hp} {p : Addr} {o : HO} (h : H p = none) : Kp H (upd H p o) :=
  ⟨fun a xs e => by rw [upd_ne (ne_of_none e h)]; exact e, fun a o u e => by rw [upd_ne (ne_of_none e h)]; exact e⟩
/-- may be written: no tuple, not locked -/
def Wr : HO → Bool
  | .tup _ => false
  | .frz _ _ => false
  | _ => true
theorem Kp.wr {H : Hp} {p : Addr} {o u : HO} (h : H p = some u) (w : Wr u = true) : Kp H (upd H p o) := by
  refine ⟨fun a xs e => ?_, fun a ob z e => ?_⟩
  · have : a ≠ p := ne_of e h (by rintro rfl; cases w)
    rw [upd_ne this]; exact e
  · have : a ≠ p := ne_of e h (by rintro rfl; cases w)
    rw [upd_ne this]; exact e

section
variable {T : Nm} {K : PySem.W.Frag} {mg : Str → Option Value} {H H' : Hp} {io io' : List Addr}
theorem pre_get {α : Type} {l l' : List α} {n : Nat} {a : α} (p : l <+: l') (e : l[n]? = some a) : l'[n]? = some a := by
  obtain ⟨t, rfl⟩ := p
  have hn : n < l.length := (List.getElem?_eq_some_iff.mp e).1
  rw [List.getElem?_append_left hn]; exact e
theorem SqT.kp {a : Addr} {xs : List V} (k : Kp H H') (h : SqT K H a xs) : SqT K H' a xs := by
  rcases h with (h | ⟨o, h⟩) | h
  · exact .inl (.inl (k.1 _ _ h))
  · exact .inl (.inr ⟨o, k.2 _ _ _ h⟩)
  · exact .inr h
mutual
theorem RV.mono (k : Kp H H') (p : io <+: io') : ∀ (d : D) (v : V), RV T K mg H io d v → RV T K mg H' io' d v
  | .non, _, h => h
  | .bl _, _, h => h
  | .int _, _, h => h
  | .str _, _, h => h
  | .tup l, _, h => by
    obtain ⟨a, vs, e, s, r⟩ := h
    exact ⟨a, vs, e, SqT.kp k s, RVs.mono k p l vs r⟩
  | .ref n, _, h => by
    obtain ⟨a, e, e'⟩ := h
    exact ⟨a, pre_get p e, e'⟩
  | .gl _, _, h => h
  | .ty _, _, h => h
  | .kl l, _, h => by
    obtain ⟨a, vs, e, s, r⟩ := h
    exact ⟨a, vs, e, s, RVs.mono k p l vs r⟩
theorem RVs.mono (k : Kp H H') (p : io <+: io') : ∀ (ds : List D) (vs : List V), RVs T K mg H io ds vs → RVs T K mg H' io' ds vs
  | [], _, h => h
  | d :: ds, _, h => by
    obtain ⟨v, r, e, h1, h2⟩ := h
    exact ⟨v, r, e, RV.mono k p d v h1, RVs.mono k p ds r h2⟩
end
theorem RF.mono {κ κ' : Type} {g : κ → κ'} (k : Kp H H') (p : io <+: io') : ∀ (ds : List (κ × D)) (vs : List (κ' × V)), RF T K mg H io g ds vs → RF T K mg H' io' g ds vs
  | [], _, h => h
  | (n, d) :: ds, _, h => by
    obtain ⟨v, r, e, h1, h2⟩ := h
    exact ⟨v, r, e, RV.mono k p d v h1, RF.mono k p ds r h2⟩
theorem RO.mono (k : Kp H H') (p : io <+: io') : ∀ (o : Ob) (ho : HO), RO T K mg H io o ho → RO T K mg H' io' o ho
  | .lst l, _, h => by
    obtain ⟨vs, e, r⟩ := h
    exact ⟨vs, e, RVs.mono k p _ _ r⟩
  | .dic l, _, h => by
    obtain ⟨vs, e, r⟩ := h
    exact ⟨vs, e, RF.mono k p _ _ r⟩
  | .ins c fs, _, h => by
    obtain ⟨C, dx, vs, e, m, r⟩ := h
    exact ⟨C, dx, vs, e, m, RF.mono k p _ _ r⟩
  | .lock o, _, h => by
    obtain ⟨ob, u, e, r⟩ := h
    exact ⟨ob, u, e, RO.mono k p _ _ r⟩
  | .xo me c none, _, h => by
    obtain ⟨a, C, e, m, r⟩ := h
    exact ⟨a, C, pre_get p e, m, r⟩
  | .xo me c (some m), _, h => by
    obtain ⟨a, C, b, e, m, e2, r⟩ := h
    exact ⟨a, C, b, pre_get p e, m, pre_get p e2, r⟩
  | .xd me fs, _, h => by
    obtain ⟨a, vs, e, e2, r⟩ := h
    exact ⟨a, vs, pre_get p e, e2, RF.mono k p _ _ r⟩
theorem RS.mono {env : List (Option D)} {σ : St} (k : Kp H H') (p : io <+: io') (h : RS T K mg H io env σ) : RS T K mg H' io' env σ :=
  ⟨h.1, fun i d e => let ⟨v, e1, r⟩ := h.2 i d e; ⟨v, e1, RV.mono k p d v r⟩⟩
theorem RS.set {env : List (Option D)} {σ : St} {i : Nat} {d : D} {v : V} (h : RS T K mg H io env σ) (r : RV T K mg H io d v) : RS T K mg H io (env.set i (some d)) (σ.set i (some v)) := by
  refine ⟨by simpa using h.1, fun j d' e => ?_⟩
  by_cases hj : i = j
  · subst hj
    have hi : i < env.length := by
      have := (List.getElem?_eq_some_iff.mp e).1
      simpa using this
    rw [List.getElem?_set_self hi] at e
    cases e
    exact ⟨v, List.getElem?_set_self (by rw [← h.1]; exact hi), r⟩
  · rw [List.getElem?_set_ne hj] at e
    obtain ⟨v', e1, r'⟩ := h.2 j d' e
    exact ⟨v', by rw [List.getElem?_set_ne hj]; exact e1, r'⟩
theorem RS.wipe1 {env : List (Option D)} {σ : St} {i : Nat} (h : RS T K mg H io env σ) : RS T K mg H io (env.set i none) (σ.set i none) := by
  refine ⟨by simpa using h.1, fun j d' e => ?_⟩
  by_cases hj : i = j
  · subst hj
    have hi : i < env.length := by
      have := (List.getElem?_eq_some_iff.mp e).1
      simpa using this
    rw [List.getElem?_set_self hi] at e
    cases e
  · rw [List.getElem?_set_ne hj] at e
    obtain ⟨v', e1, r'⟩ := h.2 j d' e
    exact ⟨v', by rw [List.getElem?_set_ne hj]; exact e1, r'⟩
theorem RVs.length : ∀ {ds : List D} {vs : List V}, RVs T K mg H io ds vs → ds.length = vs.length
  | [], vs, h => by rw [show vs = [] from h]; rfl
  | d :: ds, _, h => by
    obtain ⟨v, r, rfl, _, h2⟩ := h
    simp [RVs.length h2]
theorem RVs.append : ∀ {ds es : List D} {vs us : List V}, RVs T K mg H io ds vs → RVs T K mg H io es us → RVs T K mg H io (ds ++ es) (vs ++ us)
  | [], es, vs, us, h, h' => by rw [show vs = [] from h]; exact h'
  | d :: ds, es, _, us, h, h' => by
    obtain ⟨v, r, rfl, h1, h2⟩ := h
    exact ⟨v, r ++ us, rfl, h1, RVs.append h2 h'⟩
theorem RVs.get : ∀ {ds : List D} {vs : List V} {i : Nat} {v : V}, RVs T K mg H io ds vs → vs[i]? = some v → ∃ d, ds[i]? = some d ∧ RV T K mg H io d v
  | [], _, i, v, h, e => by rw [show _ = [] from h] at e; simp at e
  | d :: ds, _, 0, v, h, e => by
    obtain ⟨v', r, rfl, h1, h2⟩ := h
    simp at e; subst e; exact ⟨d, rfl, h1⟩
  | d :: ds, _, i + 1, v, h, e => by
    obtain ⟨v', r, rfl, h1, h2⟩ := h
    obtain ⟨d', e1, r1⟩ := RVs.get (i := i) h2 (by simpa using e)
    exact ⟨d', by simpa using e1, r1⟩
theorem RVs.get' : ∀ {ds : List D} {vs : List V} {i : Nat} {d : D}, RVs T K mg H io ds vs → ds[i]? = some d → ∃ v, vs[i]? = some v ∧ RV T K mg H io d v
  | [], _, i, d, h, e => by simp at e
  | d :: ds, _, 0, d', h, e => by
    obtain ⟨v', r, rfl, h1, h2⟩ := h
    simp at e; subst e; exact ⟨v', rfl, h1⟩
  | d :: ds, _, i + 1, d', h, e => by
    obtain ⟨v', r, rfl, h1, h2⟩ := h
    obtain ⟨v, e1, r1⟩ := RVs.get' (i := i) h2 (by simpa using e)
    exact ⟨v, by simpa using e1, r1⟩

/-- a new object -/
theorem Rep.newX {st : Sto} {p : Addr} {o : Ob} {ho : HO} (R : Rep T K mg H io st) (hp : H p = none) (r : RO T K mg (upd H p ho) (io ++ [p]) o ho) :
    Rep T K mg (upd H p ho) (io ++ [p]) (st ++ [o]) ∧ io <+: io ++ [p] ∧ Kp H (upd H p ho) := by
  have k : Kp H (upd H p ho) := Kp.new hp
  have pr : io <+: io ++ [p] := List.prefix_append _ _
  have hne : ∀ a ∈ io, a ≠ p := fun a ha e => by
    obtain ⟨n, hn, e1⟩ := List.getElem_of_mem ha
    have e2 : io[n]? = some a := by rw [List.getElem?_eq_getElem hn, e1]
    have hn' : n < st.length := by rw [← R.len]; exact hn
    obtain ⟨ho', e3, _⟩ := R.ob n a _ e2 (List.getElem?_eq_getElem hn')
    rw [e, hp] at e3; cases e3
  refine ⟨⟨by simp [R.len], ?_, fun n a o' e1 e2 => ?_⟩, pr, k⟩
  · refine List.nodup_append.mpr ⟨R.nd, by simp, fun a ha b hb => ?_⟩
    rw [List.mem_singleton.mp hb]; exact hne a ha
  · by_cases hn : n < io.length
    · rw [List.getElem?_append_left hn] at e1
      rw [List.getElem?_append_left (by rw [← R.len]; exact hn)] at e2
      obtain ⟨ho', e3, r3⟩ := R.ob n a o' e1 e2
      exact ⟨ho', by rw [upd_ne (hne a (List.mem_of_getElem? e1))]; exact e3, RO.mono k pr _ _ r3⟩
    · have hl : n = io.length := by
        have := (List.getElem?_eq_some_iff.mp e1).1
        simp at this; omega
      subst hl
      rw [List.getElem?_concat_length] at e1
      rw [R.len, List.getElem?_concat_length] at e2
      cases e1; cases e2
      exact ⟨ho, upd_same, r⟩
theorem Rep.new {st : Sto} {p : Addr} {o : Ob} {ho : HO} (R : Rep T K mg H io st) (hp : H p = none) (r : RO T K mg H io o ho) :
    Rep T K mg (upd H p ho) (io ++ [p]) (st ++ [o]) ∧ io <+: io ++ [p] ∧ Kp H (upd H p ho) := R.newX hp (RO.mono (Kp.new hp) (List.prefix_append _ _) _ _ r)
/-- an object changed -/
theorem Rep.set {st : Sto} {n : Nat} {a : Addr} {o : Ob} {ho u : HO} (R : Rep T K mg H io st) (ha : io[n]? = some a) (hu : H a = some u) (w : Wr u = true) (r : RO T K mg H io o ho) :
    Rep T K mg (upd H a ho) io (st.set n o) ∧ Kp H (upd H a ho) := by
  have k : Kp H (upd H a ho) := Kp.wr hu w
  refine ⟨⟨by simp [R.len], R.nd, fun m b o' e1 e2 => ?_⟩, k⟩
  by_cases hm : n = m
  · subst hm
    rw [ha] at e1; cases e1
    have hn : n < st.length := by rw [← R.len]; exact (List.getElem?_eq_some_iff.mp ha).1
    rw [List.getElem?_set_self hn] at e2
    cases e2
    exact ⟨ho, upd_same, RO.mono k (List.prefix_refl _) _ _ r⟩
  · rw [List.getElem?_set_ne hm] at e2
    obtain ⟨ho', e3, r3⟩ := R.ob m b o' e1 e2
    have hb : b ≠ a := fun e => by
      subst e
      obtain ⟨h1, q1⟩ := List.getElem?_eq_some_iff.mp ha
      obtain ⟨h2, q2⟩ := List.getElem?_eq_some_iff.mp e1
      exact hm ((List.getElem_inj R.nd).mp (q1.trans q2.symm))
    exact ⟨ho', by rw [upd_ne hb]; exact e3, RO.mono k (List.prefix_refl _) _ _ r3⟩
end
end Mi

/-! The machine: words, how they run. -/
namespace Mi
open PySem L2

/-- a refusal in the air -/
structure Xc where
  c : Nat
  fs : List (Nat × D)
  deriving Inhabited

inductive Out (α : Type) where
  | ok (a : α) (st : Sto) | exc (x : Xc) (st : Sto) | bad
  deriving Inhabited
def Out.bind {α β : Type} : Out α → (α → Sto → Out β) → Out β
  | .ok a st, f => f a st
  | .exc x st, _ => .exc x st
  | .bad, _ => .bad
def Out.of {α : Type} : Option (α × Sto) → Out α
  | some (a, st) => .ok a st
  | none => .bad

abbrev Fr := List (Option D)
/-- how a statement ends -/
inductive Fl where
  | nx (e : Fr) (st : Sto) | rt (d : D) (st : Sto) | bk (e : Fr) (st : Sto) | ct (e : Fr) (st : Sto) | exc (x : Xc) (e : Fr) (st : Sto) | bad
  deriving Inhabited

/-! ### what is told equal -/
def isL (st : Sto) (n : Nat) : Option (List D) :=
  match st[n]? with
  | some (.lst l) => some l
  | some (.lock (.lst l)) => some l
  | _ => none
def mapO {α β : Type} (g : α → Option β) : List α → Option (List β)
  | [] => some []
  | a :: l => match g a, mapO g l with
    | some b, some r => some (b :: r)
    | _, _ => none
/-- plain data, through lists too -/
def toP (st : Sto) : Nat → D → Option PyData
  | 0, _ => none
  | f + 1, d => match d with
    | .non => some .none
    | .bl b => some (.bool b)
    | .int i => some (.int i)
    | .str s => if PyData.strOk s = true then some (.str s) else none
    | .tup l => (mapO (toP st f) l).map .tuple
    | .ref n => match isL st n with
      | some l => (mapO (toP st f) l).map .list
      | none => none
    | _ => none
def peqD (st : Sto) (a b : D) : Option Bool :=
  match toP st 24 a, toP st 24 b with
  | some p, some q => some (PyData.eqv p q)
  | _, _ => none
/-- is it among them -/
def pin (st : Sto) (x : D) (l : List D) : Option Bool :=
  match toP st 24 x, mapO (toP st 23) l with
  | some p, some qs => some (qs.any fun q => PyData.eqv q p)
  | _, _ => none

/-! ### dicts whose keys are numbers and names -/
def keyOf (d : D) : Option Key :=
  match d with
  | .int i => some (.inl i)
  | .str s => some (.inr s)
  | _ => none
def valD (l : List (Key × D)) (k : Key) : Option D := (l.find? fun p => decide (p.1 = k)).map (·.2)
def putD (l : List (Key × D)) (k : Key) (d : D) : List (Key × D) :=
  if (l.any fun p => decide (p.1 = k)) = true then l.map (fun p => if p.1 = k then (p.1, d) else p) else l ++ [(k, d)]
def isK (st : Sto) (n : Nat) : Option (List (Key × D)) :=
  match st[n]? with
  | some (.dic l) => some l
  | some (.lock (.dic l)) => some l
  | _ => none
def kD : Key → D
  | .inl i => .int i
  | .inr s => .str s

def inD (st : Sto) (a b : D) : Option Bool :=
  match b with
  | .tup l => pin st a l
  | .ref n => match isL st n with
    | some l => pin st a l
    | none => match isK st n, keyOf a with
      | some l, some k => some (valD l k).isSome
      | _, _ => none
  | .str z => match a with
    | .str c => if c.cps.size = 1 then some (decide (c.cps.getD 0 0 ∈ z.cps.toList)) else none
    | _ => none
  | _ => none
/-! ### operators -/
inductive O2 where
  | add | sub | mul | fdiv | mod | pow | eq | ne | lt | le | gt | ge | isn | isnn | inn | nin
  deriving DecidableEq
def D.isN : D → Bool
  | .non => true
  | _ => false
def D.isG : D → Bool
  | .gl _ => true
  | _ => false
def okMul (i j : Int) : Bool := decide ((-(2 ^ 64) < i ∧ i < 2 ^ 64) ∨ (-(2 ^ 64) < j ∧ j < 2 ^ 64)) || decide (i.natAbs.log2 + j.natAbs.log2 < 1000000)
def isM (st : Sto) (n : Nat) : Option (List D) :=
  match st[n]? with
  | some (.lst l) => some l
  | _ => none
def op2 (o : O2) (a b : D) (st : Sto) : Option (D × Sto) :=
  match o with
  | .add => match a, b with
    | .int i, .int j => some (.int (i + j), st)
    | .str x, .str y => if x.length + y.length ≤ 100000 then some (.str (x ++ y), st) else none
    | .tup l, .tup m => if l.length + m.length ≤ 100000 then some (.tup (l ++ m), st) else none
    | .ref n, .ref m => match isM st n, isM st m with
      | some l, some k => if l.length + k.length ≤ 100000 then some (.ref st.length, st ++ [.lst (l ++ k)]) else none
      | _, _ => none
    | _, _ => none
  | .sub => match a, b with
    | .int i, .int j => some (.int (i - j), st)
    | _, _ => none
  | .mul => match a, b with
    | .int i, .int j => if okMul i j then some (.int (i * j), st) else none
    | _, _ => none
  | .fdiv => match a, b with
    | .int i, .int j => if 0 < j ∧ j.natAbs.log2 < 9000 then some (.int (i / j), st) else none
    | _, _ => none
  | .mod => match a, b with
    | .int i, .int j => if 0 < j then some (.int (i % j), st) else none
    | _, _ => none
  | .pow => match a, b with
    | .int i, .int j => if 0 ≤ j ∧ j ≤ 1000 ∧ i.natAbs < 2 ^ 64 then some (.int (i ^ j.toNat), st) else none
    | _, _ => none
  | .eq => (peqD st a b).map fun r => (.bl r, st)
  | .ne => (peqD st a b).map fun r => (.bl (!r), st)
  | .lt => match a, b with
    | .int i, .int j => some (.bl (decide (i < j)), st)
    | _, _ => none
  | .le => match a, b with
    | .int i, .int j => some (.bl (decide (i ≤ j)), st)
    | _, _ => none
  | .gt => match a, b with
    | .int i, .int j => some (.bl (decide (j < i)), st)
    | _, _ => none
  | .ge => match a, b with
    | .int i, .int j => some (.bl (decide (j ≤ i)), st)
    | _, _ => none
  | .isn => if D.isN b = true ∧ D.isG a = false then some (.bl (D.isN a), st) else none
  | .isnn => if D.isN b = true ∧ D.isG a = false then some (.bl (!D.isN a), st) else none
  | .inn => (inD st a b).map fun r => (.bl r, st)
  | .nin => (inD st a b).map fun r => (.bl (!r), st)

/-! ### built-ins by their arguments -/
inductive Pr where
  | len | tupleOf | listOf | absI | int1 | min2 | max2 | append | insert | count | dget1 | dget2
  deriving DecidableEq
/-- the place at which insert lays -/
def insAt (i : Int) (n : Nat) : Nat := if i < 0 then (i + n).toNat else min i.toNat n
def prim (p : Pr) (ds : List D) (st : Sto) : Option (D × Sto) :=
  match p with
  | .len => match ds with
    | [.tup l] => some (.int l.length, st)
    | [.str s] => if s.length ≤ 100000 then some (.int s.length, st) else none
    | [.ref n] => match isL st n with
      | some l => some (.int l.length, st)
      | none => none
    | _ => none
  | .tupleOf => match ds with
    | [.tup l] => some (.tup l, st)
    | [.ref n] => match isL st n with
      | some l => some (.tup l, st)
      | none => none
    | _ => none
  | .listOf => match ds with
    | [.tup l] => some (.ref st.length, st ++ [.lst l])
    | [.ref n] => match isL st n with
      | some l => some (.ref st.length, st ++ [.lst l])
      | none => none
    | _ => none
  | .absI => match ds with
    | [.int i] => some (.int (if i < 0 then -i else i), st)
    | _ => none
  | .int1 => match ds with
    | [.int i] => some (.int i, st)
    | [.bl b] => some (.int (if b = true then 1 else 0), st)
    | _ => none
  | .min2 => match ds with
    | [.int i, .int j] => some (.int (if j < i then j else i), st)
    | _ => none
  | .max2 => match ds with
    | [.int i, .int j] => some (.int (if j > i then j else i), st)
    | _ => none
  | .append => match ds with
    | [.ref n, d] => match isM st n with
      | some l => if l.length < 100000 then some (.non, st.set n (.lst (l ++ [d]))) else none
      | none => none
    | _ => none
  | .insert => match ds with
    | [.ref n, .int i, d] => match isM st n with
      | some l => if 0 ≤ i ∧ i ≤ l.length ∧ l.length < 100000 then some (.non, st.set n (.lst (l.take i.toNat ++ d :: l.drop i.toNat))) else none
      | none => none
    | _ => none
  | .count => match ds with
    | [.ref n, d] => match isL st n with
      | some l => match toP st 24 d, mapO (toP st 23) l with
        | some p, some qs => some (.int (qs.countP fun q => PyData.eqv q p), st)
        | _, _ => none
      | none => none
    | _ => none
  | .dget1 => match ds with
    | [.ref n, k] => match isK st n, keyOf k with
      | some l, some k => some ((valD l k).getD .non, st)
      | _, _ => none
    | _ => none
  | .dget2 => match ds with
    | [.ref n, k, d] => match isK st n, keyOf k with
      | some l, some k => some ((valD l k).getD d, st)
      | _, _ => none
    | _ => none
/-- what stands at an index, under a key -/
def idxD (x i : D) (st : Sto) : Option (D × Sto) :=
  match x with
  | .tup l => match i with
    | .int i => (atI l i).map fun d => (d, st)
    | _ => none
  | .str z => match i with
    | .int i => if z.length ≤ 100000 then (atI z.cps.toList i).map fun c => (.str ⟨#[c]⟩, st) else none
    | _ => none
  | .ref n => match isL st n with
    | some l => match i with
      | .int i => (atI l i).map fun d => (d, st)
      | _ => none
    | none => match isK st n, keyOf i with
      | some l, some k => (valD l k).map fun d => (d, st)
      | _, _ => none
  | _ => none
def cutL {α : Type} (xs : List α) (lo hi : Option Int) : List α := (xs.drop (HT.sIx xs.length 0 lo)).take (HT.sIx xs.length xs.length hi - HT.sIx xs.length 0 lo)
def slcD (x : D) (lo hi : Option Int) (st : Sto) : Option (D × Sto) :=
  match x with
  | .tup l => some (.tup (cutL l lo hi), st)
  | .str z => if z.length ≤ 100000 then some (.str (cutS z lo hi), st) else none
  | .ref n => match isL st n with
    | some l => some (.ref st.length, st ++ [.lst (cutL l lo hi)])
    | none => none
  | .kl l => some (.ref st.length, st ++ [.lst (cutL l lo hi)])
  | _ => none
def intO (d : D) : Option Int :=
  match d with
  | .int i => some i
  | _ => none
/-- the built-in kinds that have methods -/
inductive Kd where
  | lst | dic | str
  deriving DecidableEq
def kindD (k : Kd) (x : D) (st : Sto) : Bool :=
  match k, x with
  | .lst, .ref n => (isL st n).isSome
  | .dic, .ref n => match st[n]? with
    | some (.dic _) => true
    | _ => false
  | .str, .str _ => true
  | _, _ => false

/-! ### what is walked -/
inductive ItV where
  | tp (l : List D) | ls (n : Nat) | rg (lo : Int) (n : Nat) | en (n : Nat) | zp (n m : Nat)
/-- none: not told; some none: at its end -/
def itm (v : ItV) (i : Nat) (st : Sto) : Option (Option D) :=
  match v with
  | .tp l => some l[i]?
  | .ls n => (isL st n).map fun l => l[i]?
  | .rg lo n => some (if i < n then some (.int (lo + i)) else none)
  | .en n => (isL st n).map fun l => l[i]?.map fun d => .tup [.int i, d]
  | .zp n m => match isL st n, isL st m with
    | some l, some k => some ((l.zip k)[i]?.map fun p => .tup [p.1, p.2])
    | _, _ => none
def turns (v : ItV) (st : Sto) : Nat :=
  match v with
  | .tp l => l.length
  | .ls n => ((isL st n).getD []).length
  | .rg _ n => n
  | .en n => ((isL st n).getD []).length
  | .zp n _ => ((isL st n).getD []).length

inductive Tg where
  | n (i : Nat) | t (l : List Nat)
def sets (e : Fr) : List Nat → List D → Fr
  | i :: is, d :: ds => sets (e.set i (some d)) is ds
  | _, _ => e
def asgT (t : Tg) (d : D) (e : Fr) : Option Fr :=
  match t, d with
  | .n i, d => some (e.set i (some d))
  | .t is, .tup ds => if is.length = ds.length then some (sets e is ds) else none
  | _, _ => none
def wips (e : Fr) : List Nat → Fr
  | [] => e
  | i :: is => (wips e is).set i none

def tst (d : D) : Option Bool :=
  match d with
  | .bl b => some b
  | _ => none
/-- the truth of a value -/
def tru (d : D) (st : Sto) : Option Bool :=
  match d with
  | .bl b => some b
  | .non => some false
  | .int i => some (i != 0)
  | .str s => if s.length ≤ 100000 then some ((s.length : Int) != 0) else none
  | .tup l => some (!l.isEmpty)
  | .ref n => (isL st n).map fun l => !l.isEmpty
  | _ => none
def asB (x : Out D) : Out Bool :=
  x.bind fun d st => match tru d st with
    | some b => .ok b st
    | none => .bad

/-- a loop's body has ended -/
def lpF (f : Fl) (k : Fr → Sto → Fl) : Fl :=
  match f with
  | .nx e s => k e s
  | .ct e s => k e s
  | .bk e s => .nx e s
  | .rt d s => .rt d s
  | .exc x e s => .exc x e s
  | .bad => .bad
def forL (body : Fr → Sto → Fl) (t : Tg) (v : ItV) : Nat → Nat → Fr → Sto → Fl
  | 0, _, _, _ => .bad
  | f + 1, i, e, st => match itm v i st with
    | none => .bad
    | some none => .nx e st
    | some (some d) => match asgT t d e with
      | none => .bad
      | some e1 => lpF (body e1 st) fun e2 s2 => forL body t v f (i + 1) e2 s2
def exq {α : Type} (x : Out α) (e : Fr) (k : α → Sto → Fl) : Fl :=
  match x with
  | .ok d st => k d st
  | .exc x st => .exc x e st
  | .bad => .bad
def whL (cond : Fr → Sto → Out Bool) (body : Fr → Sto → Fl) : Nat → Fr → Sto → Fl
  | 0, _, _ => .bad
  | f + 1, e, st => exq (cond e st) e fun t s1 => if t = true then lpF (body e s1) fun e2 s2 => whL cond body f e2 s2 else .nx e s1
/-- none is let out -/
def noX {α : Type} : Out α → Out α
  | .ok a st => .ok a st
  | _ => .bad
def lcL (cond : Fr → Sto → Out Bool) (elt : Fr → Sto → Out D) (t : Tg) (v : ItV) (n0 : Nat) (e : Fr) : Nat → Nat → Sto → Out D
  | 0, _, _ => .bad
  | f + 1, i, st => match itm v i st with
    | none => .bad
    | some none => .ok (.ref n0) st
    | some (some d) => match asgT t d e with
      | none => .bad
      | some e1 => (cond e1 st).bind fun c s1 => if c = true then
          (elt e1 s1).bind fun y s2 => match s2[n0]? with
          | some (.lst acc) => if acc.length < 100000 then lcL cond elt t v n0 e f (i + 1) (s2.set n0 (.lst (acc ++ [y]))) else .bad
          | _ => .bad
        else lcL cond elt t v n0 e f (i + 1) s1

/-! ### words -/
mutual
inductive Ex where
  | var (i : Nat) | lit (d : D) | tup (es : Exs) | lst (es : Exs)
  | op (o : O2) (a b : Ex) | chn (o o' : O2) (a b c : Ex) | nt (a : Ex) | an (a b : Ex) | orr (a b : Ex) | ife (t a b : Ex)
  | fld (a : Ex) (c f : Nat)
  | call (fi : Nat) (es : Exs) (dds : List D) | callk (fi : Nat) (es ks : Exs) (sel : List D → List D → List D)
  | mth (a : Ex) (c m fi : Nat) (es : Exs) (dds : List D) | mthk (a : Ex) (c m fi : Nat) (es ks : Exs) (sel : List D → List D → List D)
  | mk (c fi : Nat) (es : Exs) (dds : List D) | mkk (c fi : Nat) (es ks : Exs) (sel : List D → List D → List D)
  | pr (p : Pr) (es : Exs) | bm (k : Kd) (p : Pr) (a : Ex) (es : Exs) | ix (a b : Ex) | sl0 (a hi : Ex) | sl1 (a lo : Ex) | sl2 (a lo hi : Ex)
  | lc (t : Tg) (ws : List Nat) (it : It) (cond elt : Ex)
  | xmk (c fi : Nat) (es : Exs) (dds : List D) | xmkk (c fi : Nat) (es ks : Exs) (sel : List D → List D → List D)
  | xini (cs : List Nat) (es : Exs) | xfl (a : Ex) (cs : List Nat) (f : Nat) | xis (a : Ex) (tbl : List (Nat × Bool))
  | fm (a : Ex) | js (es : Exs) | no
inductive Exs where
  | nil | cons (e : Ex) (es : Exs)
inductive It where
  | sq (e : Ex) | rng (a : Ex) | rng2 (a b : Ex) | enm (e : Ex) | zp (a b : Ex)
end
mutual
inductive Sm where
  | set (i : Nat) (e : Ex) | sets (is : List Nat) (e : Ex) | fset (o : Ex) (c f : Nat) (e : Ex) | aug (i : Nat) (o : O2) (e : Ex)
  | ex (e : Ex) | rt (e : Ex) | iff (t : Ex) (a b : Sms) | fr (t : Tg) (it : It) (b : Sms) | pass | brk | cnt
  | rs (c : Nat) (es : Exs) | wh (m : Nat) (c : Ex) (b : Sms) | xset (o : Ex) (cs : List Nat) (f : Nat) (e : Ex) | no
inductive Sms where
  | nil | cons (s : Sm) (r : Sms)
end

structure Pg where
  np : Nat → Nat
  ns : Nat → Nat
  bd : Nat → Option Sms
  /-- a refusal made of its arguments: its fields -/
  xf : Nat → List D → Option (List (Nat × D))
abbrev CallF := Nat → List D → Sto → Out D

def putN (f : Nat) (d : D) : List (Nat × D) → List (Nat × D)
  | [] => [(f, d)]
  | (g, e) :: r => if g = f then (g, d) :: r else (g, e) :: putN f d r

/-- an instance of the class, without an own field of that name -/
def isI (st : Sto) (x : D) (c m : Nat) : Bool :=
  match x with
  | .ref n => match st[n]? with
    | some (.ins c' fs) => c' == c && (fs.lookup m).isNone
    | _ => false
  | _ => false
/-- a field of an instance of the class -/
def fldD (st : Sto) (x : D) (c f : Nat) : Option (D × Sto) :=
  match x with
  | .ref n => match st[n]? with
    | some (.ins c' fs) => if c' = c then (match fs.lookup f with
      | some d => some (d, st)
      | none => none) else none
    | _ => none
  | _ => none
/-- an exception held as a value: its number, class, dict -/
def isX (st : Sto) (x : D) : Option (Nat × Nat × Option Nat) :=
  match x with
  | .ref n => match st[n]? with
    | some (.xo me c d) => if me = n then some (n, c, d) else none
    | _ => none
  | _ => none
/-- an exception's fields -/
def isF (st : Sto) (m : Nat) : Option (List (Nat × D)) :=
  match st[m]? with
  | some (.xd me fs) => if me = m then some fs else none
  | _ => none
def xdOk (st : Sto) : Option Nat → Bool
  | none => true
  | some m => (isF st m).isSome
def fmtD (d : D) : Option Str :=
  match d with
  | .str y => if y.length ≤ 100000 then some y else none
  | .int i => if i.natAbs.log2 < 1920 then some (Str.ofString (toString i)) else none
  | _ => none
def xfD (st : Sto) (x : D) (cs : List Nat) (f : Nat) : Option (D × Sto) :=
  match isX st x with
  | some (_, c, some m) => if cs.contains c = true then (match isF st m with
    | some fs => (fs.lookup f).map fun d => (d, st)
    | none => none) else none
  | _ => none
def xsD (st : Sto) (x : D) (cs : List Nat) (f : Nat) (d : D) : Option Sto :=
  match isX st x with
  | some (n, c, none) => if cs.contains c = true then some (st.set n (.xo n c (some st.length)) ++ [.xd st.length [(f, d)]]) else none
  | some (_, c, some m) => if cs.contains c = true then (match isF st m with
    | some fs => if fs.length ≤ 900 then some (st.set m (.xd m ((f, d) :: fs))) else none
    | none => none) else none
  | none => none
section
variable (cf : CallF)
mutual
def evE : Ex → Fr → Sto → Out D
  | .var i, e, st => match e[i]? with
    | some (some d) => .ok d st
    | _ => .bad
  | .lit d, _, st => .ok d st
  | .tup es, e, st => (evEs es e st).bind fun ds s1 => if ds.length ≤ 100000 then .ok (.tup ds) s1 else .bad
  | .lst es, e, st => (evEs es e st).bind fun ds s1 => if ds.length ≤ 100000 then .ok (.ref s1.length) (s1 ++ [.lst ds]) else .bad
  | .op o a b, e, st => (evE a e st).bind fun x s1 => (evE b e s1).bind fun y s2 => .of (op2 o x y s2)
  | .chn o o' a b c, e, st => (evE a e st).bind fun x s1 => (evE b e s1).bind fun y s2 => (Out.of (op2 o x y s2)).bind fun k s3 => match k with
    | .bl true => (evE c e s3).bind fun z s4 => .of (op2 o' y z s4)
    | .bl false => .ok (.bl false) s3
    | _ => .bad
  | .nt a, e, st => (asB (evE a e st)).bind fun b s1 => .ok (.bl (!b)) s1
  | .an a b, e, st => (evE a e st).bind fun x s1 => match tst x with
    | some true => evE b e s1
    | some false => .ok (.bl false) s1
    | none => .bad
  | .orr a b, e, st => (evE a e st).bind fun x s1 => match tst x with
    | some true => .ok (.bl true) s1
    | some false => evE b e s1
    | none => .bad
  | .ife t a b, e, st => (asB (evE t e st)).bind fun x s1 => if x = true then evE a e s1 else evE b e s1
  | .fld a c f, e, st => (evE a e st).bind fun x s1 => .of (fldD s1 x c f)
  | .call fi es dds, e, st => (evEs es e st).bind fun ds s1 => cf fi (ds ++ dds) s1
  | .callk fi es ks sel, e, st => (evEs es e st).bind fun ds s1 => (evEs ks e s1).bind fun zs s2 => cf fi (sel ds zs) s2
  | .mth a c m fi es dds, e, st => (evE a e st).bind fun x s1 => if isI s1 x c m = true then (evEs es e s1).bind fun ds s2 => cf fi (x :: (ds ++ dds)) s2 else .bad
  | .mthk a c m fi es ks sel, e, st => (evE a e st).bind fun x s1 => if isI s1 x c m = true then (evEs es e s1).bind fun ds s2 => (evEs ks e s2).bind fun zs s3 => cf fi (sel (x :: ds) zs) s3 else .bad
  | .mk c fi es dds, e, st => (evEs es e st).bind fun ds s1 => (cf fi (.ref s1.length :: (ds ++ dds)) (s1 ++ [.ins c []])).bind fun r s2 => if r.isN = true then .ok (.ref s1.length) s2 else .bad
  | .mkk c fi es ks sel, e, st => (evEs es e st).bind fun ds s1 => (evEs ks e s1).bind fun zs s2 => (cf fi (sel (.ref s2.length :: ds) zs) (s2 ++ [.ins c []])).bind fun r s3 => if r.isN = true then .ok (.ref s2.length) s3 else .bad
  | .pr p es, e, st => (evEs es e st).bind fun ds s1 => .of (prim p ds s1)
  | .bm k p a es, e, st => (evE a e st).bind fun x s1 => if kindD k x s1 = true then (evEs es e s1).bind fun ds s2 => .of (prim p (x :: ds) s2) else .bad
  | .ix a b, e, st => (evE a e st).bind fun x s1 => (evE b e s1).bind fun y s2 => .of (idxD x y s2)
  | .sl0 a hi, e, st => (evE a e st).bind fun x s1 => (evE hi e s1).bind fun u s2 => match intO u with
    | some u => .of (slcD x none (some u) s2)
    | none => .bad
  | .sl1 a lo, e, st => (evE a e st).bind fun x s1 => (evE lo e s1).bind fun l s2 => match intO l with
    | some l => .of (slcD x (some l) none s2)
    | none => .bad
  | .sl2 a lo hi, e, st => (evE a e st).bind fun x s1 => (evE lo e s1).bind fun l s2 => match intO l with
    | some l => (evE hi e s2).bind fun u s3 => match intO u with
      | some u => .of (slcD x (some l) (some u) s3)
      | none => .bad
    | none => .bad
  | .lc t ws it cond elt, e, st => (evIt it e st).bind fun v s1 => lcL (fun fr s => noX (asB (evE cond fr s))) (fun fr s => noX (evE elt fr s)) t v s1.length (wips e ws) (turns v s1 + 1) 0 (s1 ++ [.lst []])
  | .xmk c fi es dds, e, st => (evEs es e st).bind fun ds s1 => (cf fi (.ref s1.length :: (ds ++ dds)) (s1 ++ [.xo s1.length c none])).bind fun r s2 => if r.isN = true then .ok (.ref s1.length) s2 else .bad
  | .xmkk c fi es ks sel, e, st => (evEs es e st).bind fun ds s1 => (evEs ks e s1).bind fun zs s2 => (cf fi (sel (.ref s2.length :: ds) zs) (s2 ++ [.xo s2.length c none])).bind fun r s3 => if r.isN = true then .ok (.ref s2.length) s3 else .bad
  | .xini cs es, e, st => (evEs es e st).bind fun ds s1 => match ds with
    | x :: r => match isX s1 x with
      | some (_, c, none) => if cs.contains c = true ∧ r.length ≤ 900 then .ok .non s1 else .bad
      | _ => .bad
    | _ => .bad
  | .xfl a cs f, e, st => (evE a e st).bind fun x s1 => .of (xfD s1 x cs f)
  | .xis a tbl, e, st => (evE a e st).bind fun x s1 => match isX s1 x with
    | some (_, c, od) => match tbl.lookup c with
      | some b => if xdOk s1 od = true then .ok (.bl b) s1 else .bad
      | none => .bad
    | _ => .bad
  | .fm a, e, st => (evE a e st).bind fun x s1 => match fmtD x with
    | some y => .ok (.str y) s1
    | none => .bad
  | .js es, e, st => (evJ es Str.empty e st).bind fun y s1 => .ok (.str y) s1
  | .no, _, _ => .bad
def evJ : Exs → Str → Fr → Sto → Out Str
  | .nil, acc, _, st => .ok acc st
  | .cons a es, acc, e, st => (evE a e st).bind fun x s1 => match x with
    | .str y => if (acc ++ y).length ≤ 100000 then evJ es (acc ++ y) e s1 else .bad
    | _ => .bad
def evEs : Exs → Fr → Sto → Out (List D)
  | .nil, _, st => .ok [] st
  | .cons a es, e, st => (evE a e st).bind fun x s1 => (evEs es e s1).bind fun ds s2 => .ok (x :: ds) s2
def evIt : It → Fr → Sto → Out ItV
  | .sq a, e, st => (evE a e st).bind fun x s1 => match x with
    | .tup l => .ok (.tp l) s1
    | .ref n => match isL s1 n with
      | some _ => .ok (.ls n) s1
      | none => .bad
    | _ => .bad
  | .rng a, e, st => (evE a e st).bind fun x s1 => match x with
    | .int j => if -(2 ^ 62) ≤ j ∧ j < 2 ^ 62 then .ok (.rg 0 j.toNat) s1 else .bad
    | _ => .bad
  | .rng2 a b, e, st => (evE a e st).bind fun x s1 => (evE b e s1).bind fun y s2 => match x, y with
    | .int i, .int j => if -(2 ^ 62) ≤ i ∧ i < 2 ^ 62 ∧ -(2 ^ 62) ≤ j ∧ j < 2 ^ 62 then .ok (.rg i (j - i).toNat) s2 else .bad
    | _, _ => .bad
  | .enm a, e, st => (evE a e st).bind fun x s1 => match x with
    | .ref n => match isL s1 n with
      | some _ => .ok (.en n) s1
      | none => .bad
    | _ => .bad
  | .zp a b, e, st => (evE a e st).bind fun x s1 => (evE b e s1).bind fun y s2 => match x, y with
    | .ref n, .ref m => match isL s2 n, isL s2 m with
      | some _, some _ => .ok (.zp n m) s2
      | _, _ => .bad
    | _, _ => .bad
end
variable (P : Pg)
mutual
def evS : Sm → Fr → Sto → Fl
  | .set i a, e, st => exq (evE cf a e st) e fun d s1 => .nx (e.set i (some d)) s1
  | .sets is a, e, st => exq (evE cf a e st) e fun d s1 => match asgT (.t is) d e with
    | some e1 => .nx e1 s1
    | none => .bad
  | .fset o c f a, e, st => exq (evE cf a e st) e fun d s1 => exq (evE cf o e s1) e fun x s2 => match x with
    | .ref n => match s2[n]? with
      | some (.ins c' fs) => if c' = c ∧ fs.length < 900 then .nx e (s2.set n (.ins c' (putN f d fs))) else .bad
      | _ => .bad
    | _ => .bad
  | .aug i o a, e, st => match e[i]? with
    | some (some x) => exq (evE cf a e st) e fun d s1 => match op2 o x d s1 with
      | some (z, s2) => .nx (e.set i (some z)) s2
      | none => .bad
    | _ => .bad
  | .ex a, e, st => exq (evE cf a e st) e fun _ s1 => .nx e s1
  | .rt a, e, st => exq (evE cf a e st) e fun d s1 => .rt d s1
  | .iff t a b, e, st => exq (asB (evE cf t e st)) e fun d s1 => if d = true then evSs a e s1 else evSs b e s1
  | .fr t it b, e, st => exq (evIt cf it e st) e fun v s1 => forL (evSs b) t v (turns v s1 + 1) 0 e s1
  | .pass, e, st => .nx e st
  | .brk, e, st => .bk e st
  | .cnt, e, st => .ct e st
  | .rs c es, e, st => exq (evEs cf es e st) e fun ds s1 => match P.xf c ds with
      | some fs => .exc ⟨c, fs⟩ e s1
      | none => .bad
  | .wh m c b, e, st => whL (fun fr s => asB (evE cf c fr s)) (evSs b) m e st
  | .xset o cs f a, e, st => exq (evE cf a e st) e fun d s1 => exq (evE cf o e s1) e fun x s2 => match xsD s2 x cs f d with
    | some s3 => .nx e s3
    | none => .bad
  | .no, _, _ => .bad
def evSs : Sms → Fr → Sto → Fl
  | .nil, e, st => .nx e st
  | .cons s r, e, st => match evS s e st with
    | .nx e1 s1 => evSs r e1 s1
    | x => x
end
end
def frame0 (n : Nat) (ds : List D) : Fr := ds.map some ++ List.replicate (n - ds.length) none
def callN (P : Pg) : Nat → CallF
  | 0, _, _, _ => .bad
  | n + 1, fi, ds, st => match P.bd fi with
    | none => .bad
    | some b => if ds.length = P.np fi then match evSs (callN P n) P b (frame0 (P.ns fi) ds) st with
        | .nx _ s1 => .ok .non s1
        | .rt d s1 => .ok d s1
        | .exc x _ s1 => .exc x s1
        | _ => .bad
      else .bad
end Mi

/-! The machine's readings, and the hand layer's rules under them. -/
namespace Mi
open PySem L2

section
variable (T : Nm) (K : PySem.W.Frag) (mg : Str → Option Value)
/-- a refusal as it flies -/
def RX (H : Hp) (io : List Addr) (x : Xc) (c : Value) (dd : Option Addr) : Prop :=
  mg (T.nm x.c) = some c ∧ ((x.fs = [] ∧ dd = none) ∨ ∃ d vs, dd = some d ∧ H d = some (.xd vs) ∧ RF T K mg H io T.nm x.fs vs)
/-- what an outcome asks of what follows -/
def OG {α β : Type} (rel : Hp → List Addr → α → β → Prop) (W : WX) (σ : St) (H : Hp) (io : List Addr) (Q : β → Hp → Prop) : Out α → Prop
  | .ok a st => ∀ (io' : List Addr) (H' : Hp) (b : β), io <+: io' → Kp H H' → Rep T K mg H' io' st → rel H' io' a b → Q b H'
  | .exc x st => ∀ (io' : List Addr) (H' : Hp) (c : Value) (dd : Option Addr), io <+: io' → Kp H H' → Rep T K mg H' io' st → RX T K mg H' io' x c dd → W c dd σ H'
  | .bad => False
/-- the slots and the store stand -/
def At (H : Hp) (σ : St) (k : List Addr → Sto → Fr → Prop) : Prop := ∃ io st e, Rep T K mg H io st ∧ RS T K mg H io e σ ∧ k io st e
/-- what is walked -/
def IV (H : Hp) (io : List Addr) (v : ItV) (J : L2.It) : Prop :=
  match v with
  | .tp l => ∃ a vs, J = Itt K a ∧ SqT K H a vs ∧ RVs T K mg H io l vs
  | .ls n => ∃ a, io[n]? = some a ∧ J = Itl K a
  | .rg lo n => J = Itr lo n
  | .en n => ∃ a, io[n]? = some a ∧ J = Ite K a
  | .zp n m => ∃ a b, io[n]? = some a ∧ io[m]? = some b ∧ J = Itz K a b
/-- how a statement's end asks -/
def OF (W : WX) (H : Hp) (io : List Addr) (D : Ends) : Fl → Prop
  | .nx e st => ∀ (io' : List Addr) (H' : Hp) (σ : St), io <+: io' → Kp H H' → Rep T K mg H' io' st → RS T K mg H' io' e σ → D.nx σ H'
  | .bk e st => ∀ (io' : List Addr) (H' : Hp) (σ : St), io <+: io' → Kp H H' → Rep T K mg H' io' st → RS T K mg H' io' e σ → D.bk σ H'
  | .ct e st => ∀ (io' : List Addr) (H' : Hp) (σ : St), io <+: io' → Kp H H' → Rep T K mg H' io' st → RS T K mg H' io' e σ → D.ct σ H'
  | .rt d st => ∀ (io' : List Addr) (H' : Hp) (v : V), io <+: io' → Kp H H' → Rep T K mg H' io' st → RV T K mg H' io' d v → D.rt v H'
  | .exc x e st => ∀ (io' : List Addr) (H' : Hp) (σ : St) (c : Value) (dd : Option Addr), io <+: io' → Kp H H' → Rep T K mg H' io' st → RS T K mg H' io' e σ → RX T K mg H' io' x c dd → W c dd σ H'
  | .bad => False
end

section
variable {T : Nm} {K : PySem.W.Frag} {mg : Str → Option Value} {H H1 : Hp} {io io1 : List Addr} {W : WX} {σ : St}
theorem OG.mono {α β : Type} {rel : Hp → List Addr → α → β → Prop} {Q : β → Hp → Prop} {x : Out α} (p : io <+: io1) (k : Kp H H1) (h : OG T K mg rel W σ H io Q x) : OG T K mg rel W σ H1 io1 Q x := by
  cases x with
  | ok a st => exact fun io' H' b p' k' r z => h io' H' b (p.trans p') (k.trans k') r z
  | exc x st => exact fun io' H' c dd p' k' r z => h io' H' c dd (p.trans p') (k.trans k') r z
  | bad => exact h
theorem OG.imp {α β : Type} {rel : Hp → List Addr → α → β → Prop} {Q Q' : β → Hp → Prop} {x : Out α} (h : OG T K mg rel W σ H io Q x) (i : ∀ b H', Q b H' → Q' b H') : OG T K mg rel W σ H io Q' x := by
  cases x with
  | ok a st => exact fun io' H' b p' k' r z => i _ _ (h io' H' b p' k' r z)
  | exc x st => exact h
  | bad => exact h
/-- the first part, then what follows -/
theorem OG.bnd {α β α' β' : Type} {rel : Hp → List Addr → α → β → Prop} {rel' : Hp → List Addr → α' → β' → Prop} {Q : β' → Hp → Prop} {x : Out α} {k : α → Sto → Out α'} {Q' : β → Hp → Prop}
    (h : OG T K mg rel' W σ H io Q (x.bind k))
    (i : ∀ (a : α) (st : Sto) (io1 : List Addr) (H1 : Hp) (b : β), io <+: io1 → Kp H H1 → Rep T K mg H1 io1 st → rel H1 io1 a b → OG T K mg rel' W σ H1 io1 Q (k a st) → Q' b H1) : OG T K mg rel W σ H io Q' x := by
  cases x with
  | ok a st => exact fun io' H' b p' k' r z => i a st io' H' b p' k' r z (OG.mono p' k' h)
  | exc x st => exact h
  | bad => exact h
/-- .. told too: what the first part gave -/
theorem OG.bnde {α β α' β' : Type} {rel : Hp → List Addr → α → β → Prop} {rel' : Hp → List Addr → α' → β' → Prop} {Q : β' → Hp → Prop} {x : Out α} {k : α → Sto → Out α'} {Q' : β → Hp → Prop}
    (h : OG T K mg rel' W σ H io Q (x.bind k))
    (i : ∀ (a : α) (st : Sto) (io1 : List Addr) (H1 : Hp) (b : β), x = .ok a st → io <+: io1 → Kp H H1 → Rep T K mg H1 io1 st → rel H1 io1 a b → OG T K mg rel' W σ H1 io1 Q (k a st) → Q' b H1) : OG T K mg rel W σ H io Q' x := by
  cases x with
  | ok a st => exact fun io' H' b p' k' r z => i a st io' H' b rfl p' k' r z (OG.mono p' k' h)
  | exc x st => exact h
  | bad => exact h
theorem OF.mono {D : Ends} {f : Fl} (p : io <+: io1) (k : Kp H H1) (h : OF T K mg W H io D f) : OF T K mg W H1 io1 D f := by
  cases f with
  | nx e st => exact fun io' H' σ' p' k' r z => h io' H' σ' (p.trans p') (k.trans k') r z
  | bk e st => exact fun io' H' σ' p' k' r z => h io' H' σ' (p.trans p') (k.trans k') r z
  | ct e st => exact fun io' H' σ' p' k' r z => h io' H' σ' (p.trans p') (k.trans k') r z
  | rt d st => exact fun io' H' v p' k' r z => h io' H' v (p.trans p') (k.trans k') r z
  | exc x e st => exact fun io' H' σ' c dd p' k' r z => h io' H' σ' c dd (p.trans p') (k.trans k') r z
  | bad => exact h
/-- an expression's outcome, then a statement's end -/
theorem OF.exq {α β : Type} {rel : Hp → List Addr → α → β → Prop} {D' : Ends} {x : Out α} {e : Fr} {k : α → Sto → Fl} {Q' : β → Hp → Prop} (S : RS T K mg H io e σ)
    (h : OF T K mg W H io D' (exq x e k))
    (i : ∀ (a : α) (st : Sto) (io1 : List Addr) (H1 : Hp) (b : β), io <+: io1 → Kp H H1 → Rep T K mg H1 io1 st → rel H1 io1 a b → OF T K mg W H1 io1 D' (k a st) → Q' b H1) : OG T K mg rel W σ H io Q' x := by
  cases x with
  | ok a st => exact fun io' H' b p' k' r z => i a st io' H' b p' k' r z (OF.mono p' k' h)
  | exc x st => exact fun io' H' c dd p' k' r z => h io' H' σ c dd p' k' r (RS.mono k' p' S) z
  | bad => exact h
end

/-! ### the readings -/
section
variable (T : Nm) (X : Cx) (cf : CallF) (W : WX)
def tE (e : Ex) : TE := fun σ H Q => At T X.K X.mg H σ fun io st fr => OG T X.K X.mg (RV T X.K X.mg) W σ H io Q (evE cf e fr st)
def tA (es : Exs) : TA := fun σ H Q => At T X.K X.mg H σ fun io st fr => OG T X.K X.mg (RVs T X.K X.mg) W σ H io Q (evEs cf es fr st)
def tT (e : Ex) : TT := fun σ H Q => At T X.K X.mg H σ fun io st fr => OG T X.K X.mg (fun _ _ (a b : Bool) => a = b) W σ H io Q (asB (evE cf e fr st))
def tI (it : It) : TI := fun σ H R => At T X.K X.mg H σ fun io st fr => OG T X.K X.mg (IV T X.K X.mg) W σ H io R (evIt cf it fr st)
variable (P : Pg)
def tS (s : Sm) : TS := fun D σ H => At T X.K X.mg H σ fun io st fr => OF T X.K X.mg W H io D (evS cf P s fr st)
def tSs (s : Sms) : TS := fun D σ H => At T X.K X.mg H σ fun io st fr => OF T X.K X.mg W H io D (evSs cf P s fr st)
end
theorem PE.imp {X : Cx} {e : Expr} {t t' : TE} (h : PE X e t) (i : ∀ σ H Q, t' σ H Q → t σ H Q) : PE X e t' := ⟨fun pins s σ H Q I q => h.run pins s σ H Q I (i σ H Q q)⟩
theorem PT.imp {X : Cx} {e : Expr} {t t' : TT} (h : PT X e t) (i : ∀ σ H Q, t' σ H Q → t σ H Q) : PT X e t' := ⟨fun pins s σ H Q I q => h.run pins s σ H Q I (i σ H Q q)⟩
theorem PA.imp {X : Cx} {e : List Expr} {t t' : TA} (h : PA X e t) (i : ∀ σ H Q, t' σ H Q → t σ H Q) : PA X e t' := ⟨fun pos pins s σ H Q I q => h.run pos pins s σ H Q I (i σ H Q q)⟩
theorem PS.imp {X : Cx} {e : Stmt} {t t' : TS} (h : PS X e t) (i : ∀ D σ H, t' D σ H → t D σ H) : PS X e t' := ⟨fun pins s σ H D I q => h.run pins s σ H D I (i D σ H q)⟩
theorem PSs.imp {X : Cx} {e : List Stmt} {t t' : TS} (h : PSs X e t) (i : ∀ D σ H, t' D σ H → t D σ H) : PSs X e t' := ⟨fun pins s σ H D I q => h.run pins s σ H D I (i D σ H q)⟩
theorem PI.imp {X : Cx} {tg e : Expr} {t t' : TI} (h : PI X tg e t) (i : ∀ σ H R, t' σ H R → t σ H R) : PI X tg e t' := ⟨fun pins s σ H R I q => h.run pins s σ H R I (i σ H R q)⟩

section
variable {T : Nm} {X : Cx} {P : Pg} {cf : CallF} {W : WX}
/-! ### names, constants -/
theorem e_var {i : Nat} {x : Str} {pos : Pos} (h : PE X (.Name x pos) (tVar i)) : PE X (.Name x pos) (tE T X cf W (.var i)) := by
  refine PE.imp h fun σ H Q ⟨io, st, fr, R, S, q⟩ => ?_
  cases e : fr[i]? with
  | none => simp [evE, e, OG] at q
  | some o => cases o with
    | none => simp [evE, e, OG] at q
    | some d =>
      simp only [evE, e] at q
      obtain ⟨v, h1, r⟩ := S.2 i d e
      exact ⟨v, h1, q io H v (List.prefix_refl _) Kp.refl R r⟩
theorem e_int {i : Int} {j pos} : PE X (.Constant (.int i) j pos) (tE T X cf W (.lit (.int i))) :=
  PE.imp pe_int fun σ H Q ⟨io, st, fr, R, S, q⟩ => q io H (.int i) (List.prefix_refl _) Kp.refl R rfl
theorem e_bl {b : Bool} {j pos} : PE X (.Constant (.bool b) j pos) (tE T X cf W (.lit (.bl b))) :=
  PE.imp pe_bl fun σ H Q ⟨io, st, fr, R, S, q⟩ => q io H (.bl b) (List.prefix_refl _) Kp.refl R rfl
theorem e_non {j pos} : PE X (.Constant .none j pos) (tE T X cf W (.lit .non)) :=
  PE.imp pe_non fun σ H Q ⟨io, st, fr, R, S, q⟩ => q io H .non (List.prefix_refl _) Kp.refl R rfl
theorem e_str {x : Str} {j pos} : PE X (.Constant (.str x) j pos) (tE T X cf W (.lit (.str x))) :=
  PE.imp pe_str fun σ H Q ⟨io, st, fr, R, S, q⟩ => q io H (.str x) (List.prefix_refl _) Kp.refl R rfl
/-- a module's name that holds a value told deep -/
def GlV (T : Nm) (X : Cx) (x : Str) (d : D) : Prop := ∃ u v, X.mg x = some u ∧ RelV v u ∧ ∀ H io, RV T X.K X.mg H io d v
theorem e_glob {x : Str} {d : D} {pos : Pos} (hg : Gl X x) (h : GlV T X x d) (hd : (x == ("__debug__" : Str)) = false := by decide) : PE X (.Name x pos) (tE T X cf W (.lit d)) := by
  obtain ⟨u, v, h1, h2, h3⟩ := h
  exact PE.imp (pe_glob hg h1 h2 hd) fun σ H Q ⟨io, st, fr, R, S, q⟩ => q io H v (List.prefix_refl _) Kp.refl R (h3 H io)
/-! ### arguments -/
theorem a_nil : PA X [] (tA T X cf W .nil) := PA.imp pa_nil fun σ H Q ⟨io, st, fr, R, S, q⟩ => q io H [] (List.prefix_refl _) Kp.refl R rfl
theorem a_cons {e : Expr} {es : List Expr} {c : Ex} {cs : Exs} (ha : PE X e (tE T X cf W c)) (hr : PA X es (tA T X cf W cs)) (hs : starEach (e :: es) X.env = (false, eval e X.env) :: starEach es X.env := by rfl) :
    PA X (e :: es) (tA T X cf W (.cons c cs)) := by
  refine PA.imp (pa_cons ha hr hs) fun σ H Q ⟨io, st, fr, R, S, q⟩ => ?_
  simp only [evEs] at q
  refine ⟨io, st, fr, R, S, OG.bnd q fun a st1 io1 H1 b p1 k1 R1 r1 q1 => ?_⟩
  refine ⟨io1, st1, fr, R1, RS.mono k1 p1 S, OG.bnd q1 fun as st2 io2 H2 bs p2 k2 R2 r2 q2 => ?_⟩
  exact q2 io2 H2 (b :: bs) (List.prefix_refl _) Kp.refl R2 ⟨b, bs, rfl, RV.mono k2 p2 _ _ r1, r2⟩
/-! ### tuples, lists -/
theorem lenOk {n : Nat} (h : n ≤ 100000) : n ≤ sizeLine := Nat.le_trans h (by decide)
theorem e_tup {es : List Expr} {cs : Exs} {x1 pos} (h : PA X es (tA T X cf W cs)) : PE X (.Tuple es x1 pos) (tE T X cf W (.tup cs)) := by
  refine PE.imp (pe_tup h) fun σ H Q ⟨io, st, fr, R, S, q⟩ => ?_
  simp only [evE] at q
  refine ⟨io, st, fr, R, S, OG.bnd q fun ds st1 io1 H1 vs p1 k1 R1 r1 q1 => ?_⟩
  by_cases hl : ds.length ≤ 100000
  · rw [if_pos hl] at q1
    have hv := RVs.length r1
    refine ⟨lenOk (by omega), fun p hp => ?_⟩
    have k2 : Kp H1 (upd H1 p (.tup vs)) := Kp.new hp
    refine q1 io1 _ (.ref p) (List.prefix_refl _) k2 ⟨R1.len, R1.nd, fun n a o e1 e2 => ?_⟩ ⟨p, vs, rfl, SqT.of upd_same, RVs.mono k2 (List.prefix_refl _) _ _ r1⟩
    obtain ⟨ho, e3, r3⟩ := R1.ob n a o e1 e2
    exact ⟨ho, by rw [upd_ne (ne_of_none e3 hp)]; exact e3, RO.mono k2 (List.prefix_refl _) _ _ r3⟩
  · rw [if_neg hl] at q1
    exact q1.elim
theorem e_lst {es : List Expr} {cs : Exs} {pos} (h : PA X es (tA T X cf W cs)) : PE X (.List es pos) (tE T X cf W (.lst cs)) := by
  refine PE.imp (pe_lst h) fun σ H Q ⟨io, st, fr, R, S, q⟩ => ?_
  simp only [evE] at q
  refine ⟨io, st, fr, R, S, OG.bnd q fun ds st1 io1 H1 vs p1 k1 R1 r1 q1 => ?_⟩
  by_cases hl : ds.length ≤ 100000
  · rw [if_pos hl] at q1
    have hv := RVs.length r1
    refine ⟨lenOk (by omega), fun p hp => ?_⟩
    obtain ⟨R2, p2, k2⟩ := R1.new (o := .lst ds) (ho := .lst vs) hp ⟨vs, rfl, r1⟩
    exact q1 _ _ (.ref p) p2 k2 R2 ⟨p, by rw [← R1.len, List.getElem?_concat_length], rfl⟩
  · rw [if_neg hl] at q1
    exact q1.elim
end
end Mi

/-! Operators. -/
namespace Mi
open PySem L2

section
variable (T : Nm) (X : Cx)
def OV (H : Hp) (io : List Addr) (Q : VK) : Option (D × Sto) → Prop
  | some (d, st) => ∀ (io' : List Addr) (H' : Hp) (v : V), io <+: io' → Kp H H' → Rep T X.K X.mg H' io' st → RV T X.K X.mg H' io' d v → Q v H'
  | none => False
def rO (o : O2) : R2 := fun x y H Q => ∃ io st a b, Rep T X.K X.mg H io st ∧ RV T X.K X.mg H io a x ∧ RV T X.K X.mg H io b y ∧ OV T X H io Q (op2 o a b st)
end
section
variable {T : Nm} {X : Cx} {K : PySem.W.Frag} {mg : Str → Option Value} {H : Hp} {io : List Addr} {st : Sto}
theorem Rep.obj {n : Nat} {a : Addr} {o : Ob} (R : Rep T K mg H io st) (ha : io[n]? = some a) (e : st[n]? = some o) : ∃ ho, H a = some ho ∧ RO T K mg H io o ho := R.ob n a o ha e
theorem Rep.isM {n : Nat} {a : Addr} {l : List D} (R : Rep T K mg H io st) (ha : io[n]? = some a) (e : isM st n = some l) : ∃ vs, H a = some (.lst vs) ∧ RVs T K mg H io l vs := by
  unfold Mi.isM at e
  split at e
  · rename_i l' h
    cases e
    obtain ⟨ho, h1, vs, rfl, r⟩ := R.ob n a _ ha h
    exact ⟨vs, h1, r⟩
  · cases e
theorem isM_eq {n : Nat} {l : List D} (e : isM st n = some l) : st[n]? = some (.lst l) := by
  unfold Mi.isM at e
  split at e
  · rename_i l' h
    cases e; exact h
  · cases e
theorem Rep.isL {n : Nat} {a : Addr} {l : List D} (R : Rep T K mg H io st) (ha : io[n]? = some a) (e : isL st n = some l) : ∃ vs, SqL K H a vs ∧ RVs T K mg H io l vs := by
  unfold Mi.isL at e
  split at e
  · rename_i l' h
    cases e
    obtain ⟨ho, h1, vs, rfl, r⟩ := R.ob n a _ ha h
    exact ⟨vs, SqL.of h1, r⟩
  · rename_i l' h
    cases e
    obtain ⟨ho, h1, ob, u, rfl, vs, rfl, r⟩ := R.ob n a _ ha h
    exact ⟨vs, .inl (.inr ⟨ob, h1⟩), r⟩
  · cases e
/-- plain data is read as such -/
theorem toP_ok (R : Rep T K mg H io st) : ∀ (f : Nat) (d : D) (p : PyData) (v : V), toP st f d = some p → RV T K mg H io d v → Dp K H v p ∧ p.canLay0 = true ∧ p.depth ≤ f := by
  intro f
  induction f with
  | zero => intro d p v h; cases h
  | succ f ih =>
    have all : ∀ (l : List D) (ps : List PyData) (vs : List V), mapO (toP st f) l = some ps → RVs T K mg H io l vs → DpAll K H vs ps ∧ PyData.canLayAll0 ps = true ∧ PyData.depthAll ps ≤ f := by
      intro l
      induction l with
      | nil =>
        intro ps vs h r
        cases h
        rw [show vs = [] from r]
        exact ⟨.nil, rfl, Nat.zero_le _⟩
      | cons d l il =>
        intro ps vs h r
        obtain ⟨v, r', rfl, r1, r2⟩ := r
        unfold mapO at h
        split at h
        · rename_i b q e1 e2
          cases h
          obtain ⟨h1, h2, h3⟩ := ih d b v e1 r1
          obtain ⟨g1, g2, g3⟩ := il q r' e2 r2
          refine ⟨.cons h1 g1, ?_, ?_⟩
          · simp [PyData.canLayAll0, h2, g2]
          · simp only [PyData.depthAll]
            omega
        · cases h
    intro d p v h r
    cases d with
    | non => cases h; rw [show v = _ from r]; exact ⟨.non, rfl, Nat.zero_le _⟩
    | bl b => cases h; rw [show v = _ from r]; exact ⟨.bl b, rfl, Nat.zero_le _⟩
    | int i => cases h; rw [show v = _ from r]; exact ⟨.int i, rfl, Nat.zero_le _⟩
    | str s =>
      simp only [toP] at h
      by_cases hs : PyData.strOk s = true
      · rw [if_pos hs] at h
        cases h; rw [show v = _ from r]; exact ⟨.str s, by simpa [PyData.canLay0] using hs, Nat.zero_le _⟩
      · rw [if_neg hs] at h; cases h
    | tup l =>
      obtain ⟨a, vs, rfl, hs, r⟩ := r
      simp only [toP] at h
      cases e : mapO (toP st f) l with
      | none => rw [e] at h; cases h
      | some ps =>
        rw [e] at h
        cases h
        obtain ⟨h1, h2, h3⟩ := all l ps vs e r
        exact ⟨.tup hs h1, by simpa [PyData.canLay0] using h2, by simp only [PyData.depth]; omega⟩
    | ref n =>
      obtain ⟨a, ha, rfl⟩ := r
      simp only [toP] at h
      cases e0 : isL st n with
      | none => rw [e0] at h; cases h
      | some l =>
        rw [e0] at h
        cases e : mapO (toP st f) l with
        | none => simp [e] at h
        | some ps =>
          simp only [e] at h
          cases h
          obtain ⟨vs, hs, r⟩ := R.isL ha e0
          obtain ⟨h1, h2, h3⟩ := all l ps vs e r
          exact ⟨.lst hs h1, by simpa [PyData.canLay0] using h2, by simp only [PyData.depth]; omega⟩
    | gl x => cases h
    | ty t => cases h
    | kl l => cases h
theorem toPs_ok (R : Rep T K mg H io st) (f : Nat) : ∀ (l : List D) (ps : List PyData) (vs : List V), mapO (toP st f) l = some ps → RVs T K mg H io l vs → DpAll K H vs ps ∧ PyData.canLayAll0 ps = true ∧ PyData.depthAll ps ≤ f := by
  intro l
  induction l with
  | nil =>
    intro ps vs h r
    cases h
    rw [show vs = [] from r]
    exact ⟨.nil, rfl, Nat.zero_le _⟩
  | cons d l il =>
    intro ps vs h r
    obtain ⟨v, r', rfl, r1, r2⟩ := r
    unfold mapO at h
    split at h
    · rename_i b q e1 e2
      cases h
      obtain ⟨h1, h2, h3⟩ := toP_ok R f d b v e1 r1
      obtain ⟨g1, g2, g3⟩ := il q r' e2 r2
      refine ⟨.cons h1 g1, ?_, ?_⟩
      · simp [PyData.canLayAll0, h2, g2]
      · simp only [PyData.depthAll]
        omega
    · cases h
theorem shaped_of {p : PyData} {f : Nat} (h1 : p.canLay0 = true) (h2 : p.depth ≤ f) (hf : f ≤ 64) : SeqAt.shaped p = true := by
  unfold SeqAt.shaped
  rw [h1, decide_eq_true (by omega)]
  rfl

/-! ### one operator after the other -/
theorem o_sub : OpR X (binaryOp .Sub) (rO T X .sub) := by
  intro pins s σ H x y v u Q I rx ry h
  obtain ⟨io, st, a, b, R, ra, rb, q⟩ := h
  cases a <;> cases b <;> try exact q.elim
  rename_i i j
  rw [show x = _ from ra] at rx
  rw [show y = _ from rb] at ry
  exact op_sub pins s σ H _ _ v u Q I rx ry ⟨i, j, rfl, rfl, q io H _ (List.prefix_refl _) Kp.refl R rfl⟩
theorem o_add : OpR X (binaryOp .Add) (rO T X .add) := by
  intro pins s σ H x y v u Q I rx ry h
  obtain ⟨io, st, a, b, R, ra, rb, q⟩ := h
  cases a <;> cases b <;> try exact q.elim
  · rename_i i j
    rw [show x = _ from ra] at rx
    rw [show y = _ from rb] at ry
    exact op_add pins s σ H _ _ v u Q I rx ry ⟨i, j, rfl, rfl, q io H _ (List.prefix_refl _) Kp.refl R rfl⟩
  · rename_i i j
    rw [show x = _ from ra] at rx
    rw [show y = _ from rb] at ry
    simp only [op2] at q
    by_cases hl : i.length + j.length ≤ 100000
    · rw [if_pos hl] at q
      exact op_add_str pins s σ H _ _ v u Q I rx ry ⟨i, j, rfl, rfl, lenOk hl, q io H _ (List.prefix_refl _) Kp.refl R rfl⟩
    · rw [if_neg hl] at q; exact q.elim
  · rename_i l m
    obtain ⟨a, xs, rfl, sx, qx⟩ := ra
    obtain ⟨b, ys, rfl, sy, qy⟩ := rb
    simp only [op2] at q
    by_cases hl : l.length + m.length ≤ 100000
    · rw [if_pos hl] at q
      have e1 := RVs.length qx
      have e2 := RVs.length qy
      refine op_catA pins s σ H _ _ v u Q I rx ry ⟨a, b, xs, ys, rfl, rfl, sx, sy, lenOk (by omega), fun h => ?_, fun h h' => ?_, fun h h' p hp => ?_⟩
      · subst h
        cases l with
        | nil => exact q io H _ (List.prefix_refl _) Kp.refl R ⟨b, ys, rfl, sy, qy⟩
        | cons _ _ => simp at e1
      · subst h'
        cases m with
        | nil => exact q io H _ (List.prefix_refl _) Kp.refl R ⟨a, xs, rfl, sx, by rw [List.append_nil]; exact qx⟩
        | cons _ _ => simp at e2
      · have k2 : Kp H (upd H p (.tup (xs ++ ys))) := Kp.new hp
        refine q io _ (.ref p) (List.prefix_refl _) k2 ⟨R.len, R.nd, fun n a o e1 e2 => ?_⟩ ⟨p, _, rfl, SqT.of upd_same, RVs.mono k2 (List.prefix_refl _) _ _ (RVs.append qx qy)⟩
        obtain ⟨ho, e3, r3⟩ := R.ob n a o e1 e2
        exact ⟨ho, by rw [upd_ne (ne_of_none e3 hp)]; exact e3, RO.mono k2 (List.prefix_refl _) _ _ r3⟩
    · rw [if_neg hl] at q; exact q.elim
  · rename_i n m
    obtain ⟨a, ha, rfl⟩ := ra
    obtain ⟨b, hb, rfl⟩ := rb
    simp only [op2] at q
    cases e1 : isM st n with
    | none => simp [e1, OV] at q
    | some l =>
      cases e2 : isM st m with
      | none => simp [e1, e2, OV] at q
      | some k =>
        simp only [e1, e2] at q
        by_cases hl : l.length + k.length ≤ 100000
        · rw [if_pos hl] at q
          obtain ⟨xs, h1, r1⟩ := R.isM ha e1
          obtain ⟨ys, h2, r2⟩ := R.isM hb e2
          have q1 := RVs.length r1
          have q2 := RVs.length r2
          refine op_cat pins s σ H _ _ v u Q I rx ry ⟨a, b, xs, ys, rfl, rfl, h1, h2, lenOk (by omega), fun p hp => ?_⟩
          obtain ⟨R2, p2, k2⟩ := R.new (o := .lst (l ++ k)) (ho := .lst (xs ++ ys)) hp ⟨_, rfl, RVs.append r1 r2⟩
          exact q _ _ (.ref p) p2 k2 R2 ⟨p, by rw [← R.len, List.getElem?_concat_length], rfl⟩
        · rw [if_neg hl] at q; exact q.elim
theorem o_mul : OpR X (binaryOp .Mult) (rO T X .mul) := by
  intro pins s σ H x y v u Q I rx ry h
  obtain ⟨io, st, a, b, R, ra, rb, q⟩ := h
  cases a <;> cases b <;> try exact q.elim
  rename_i i j
  rw [show x = _ from ra] at rx
  rw [show y = _ from rb] at ry
  simp only [op2] at q
  by_cases hl : okMul i j = true
  · rw [if_pos hl] at q
    have fin := q io H _ (List.prefix_refl _) Kp.refl R rfl
    unfold okMul at hl
    rw [Bool.or_eq_true] at hl
    rcases hl with hl | hl
    · exact op_mul pins s σ H _ _ v u Q I rx ry ⟨i, j, rfl, rfl, (by have z := of_decide_eq_true hl; exact z), fin⟩
    · exact op_mulW pins s σ H _ _ v u Q I rx ry ⟨i, j, rfl, rfl, (by have z := of_decide_eq_true hl; exact z), fin⟩
  · rw [if_neg hl] at q; exact q.elim
theorem o_fdiv : OpR X (binaryOp .FloorDiv) (rO T X .fdiv) := by
  intro pins s σ H x y v u Q I rx ry h
  obtain ⟨io, st, a, b, R, ra, rb, q⟩ := h
  cases a <;> cases b <;> try exact q.elim
  rename_i i j
  rw [show x = _ from ra] at rx
  rw [show y = _ from rb] at ry
  simp only [op2] at q
  by_cases hl : 0 < j ∧ j.natAbs.log2 < 9000
  · rw [if_pos hl] at q
    exact op_fdivW pins s σ H _ _ v u Q I rx ry ⟨i, j, rfl, rfl, hl, q io H _ (List.prefix_refl _) Kp.refl R rfl⟩
  · rw [if_neg hl] at q; exact q.elim
theorem o_mod : OpR X (binaryOp .Mod) (rO T X .mod) := by
  intro pins s σ H x y v u Q I rx ry h
  obtain ⟨io, st, a, b, R, ra, rb, q⟩ := h
  cases a <;> cases b <;> try exact q.elim
  rename_i i j
  rw [show x = _ from ra] at rx
  rw [show y = _ from rb] at ry
  simp only [op2] at q
  by_cases hl : 0 < j
  · rw [if_pos hl] at q
    exact op_mod pins s σ H _ _ v u Q I rx ry ⟨i, j, rfl, rfl, hl, q io H _ (List.prefix_refl _) Kp.refl R rfl⟩
  · rw [if_neg hl] at q; exact q.elim
theorem o_pow : OpR X (binaryOp .Pow) (rO T X .pow) := by
  intro pins s σ H x y v u Q I rx ry h
  obtain ⟨io, st, a, b, R, ra, rb, q⟩ := h
  cases a <;> cases b <;> try exact q.elim
  rename_i i j
  rw [show x = _ from ra] at rx
  rw [show y = _ from rb] at ry
  simp only [op2] at q
  by_cases hl : 0 ≤ j ∧ j ≤ 1000 ∧ i.natAbs < 2 ^ 64
  · rw [if_pos hl] at q
    exact op_pow pins s σ H _ _ v u Q I rx ry ⟨i, j, rfl, rfl, ⟨hl.1, by omega, hl.2.2⟩, q io H _ (List.prefix_refl _) Kp.refl R rfl⟩
  · rw [if_neg hl] at q; exact q.elim
theorem o_lt : OpR X (compareOp .Lt) (rO T X .lt) := by
  intro pins s σ H x y v u Q I rx ry h
  obtain ⟨io, st, a, b, R, ra, rb, q⟩ := h
  cases a <;> cases b <;> try exact q.elim
  rename_i i j
  rw [show x = _ from ra] at rx
  rw [show y = _ from rb] at ry
  exact op_lt pins s σ H _ _ v u Q I rx ry ⟨i, j, rfl, rfl, q io H _ (List.prefix_refl _) Kp.refl R rfl⟩
theorem o_le : OpR X (compareOp .LtE) (rO T X .le) := by
  intro pins s σ H x y v u Q I rx ry h
  obtain ⟨io, st, a, b, R, ra, rb, q⟩ := h
  cases a <;> cases b <;> try exact q.elim
  rename_i i j
  rw [show x = _ from ra] at rx
  rw [show y = _ from rb] at ry
  exact op_le pins s σ H _ _ v u Q I rx ry ⟨i, j, rfl, rfl, q io H _ (List.prefix_refl _) Kp.refl R rfl⟩
theorem o_gt : OpR X (compareOp .Gt) (rO T X .gt) := by
  intro pins s σ H x y v u Q I rx ry h
  obtain ⟨io, st, a, b, R, ra, rb, q⟩ := h
  cases a <;> cases b <;> try exact q.elim
  rename_i i j
  rw [show x = _ from ra] at rx
  rw [show y = _ from rb] at ry
  exact op_gt pins s σ H _ _ v u Q I rx ry ⟨i, j, rfl, rfl, q io H _ (List.prefix_refl _) Kp.refl R rfl⟩
theorem o_ge : OpR X (compareOp .GtE) (rO T X .ge) := by
  intro pins s σ H x y v u Q I rx ry h
  obtain ⟨io, st, a, b, R, ra, rb, q⟩ := h
  cases a <;> cases b <;> try exact q.elim
  rename_i i j
  rw [show x = _ from ra] at rx
  rw [show y = _ from rb] at ry
  exact op_ge pins s σ H _ _ v u Q I rx ry ⟨i, j, rfl, rfl, q io H _ (List.prefix_refl _) Kp.refl R rfl⟩
theorem o_eq (hu : X.A.units + 64 < cLine) : OpR X (compareOp .Eq) (rO T X .eq) := by
  intro pins s σ H x y v u Q I rx ry h
  obtain ⟨io, st, a, b, R, ra, rb, q⟩ := h
  simp only [op2, peqD] at q
  cases e1 : toP st 24 a with
  | none => simp [e1, OV] at q
  | some p =>
    cases e2 : toP st 24 b with
    | none => simp [e1, e2, OV] at q
    | some r =>
      simp only [e1, e2] at q
      obtain ⟨h1, h2, h3⟩ := toP_ok R 24 a p x e1 ra
      obtain ⟨g1, g2, g3⟩ := toP_ok R 24 b r y e2 rb
      exact op_eqD hu pins s σ H x y v u Q I rx ry ⟨p, r, h1, g1, shaped_of h2 h3 (by decide), shaped_of g2 g3 (by decide), q io H _ (List.prefix_refl _) Kp.refl R rfl⟩
theorem o_ne (hu : X.A.units + 64 < cLine) : OpR X (compareOp .NotEq) (rO T X .ne) := by
  intro pins s σ H x y v u Q I rx ry h
  obtain ⟨io, st, a, b, R, ra, rb, q⟩ := h
  simp only [op2, peqD] at q
  cases e1 : toP st 24 a with
  | none => simp [e1, OV] at q
  | some p =>
    cases e2 : toP st 24 b with
    | none => simp [e1, e2, OV] at q
    | some r =>
      simp only [e1, e2] at q
      obtain ⟨h1, h2, h3⟩ := toP_ok R 24 a p x e1 ra
      obtain ⟨g1, g2, g3⟩ := toP_ok R 24 b r y e2 rb
      exact op_neD hu pins s σ H x y v u Q I rx ry ⟨p, r, h1, g1, shaped_of h2 h3 (by decide), shaped_of g2 g3 (by decide), q io H _ (List.prefix_refl _) Kp.refl R rfl⟩
theorem RV.non_iff {d : D} {v : V} (r : RV T K mg H io d v) (hd : d.isG = false) : decide (v = .non) = d.isN := by
  cases d with
  | non => have e : v = _ := r; subst e; rfl
  | bl b => have e : v = _ := r; subst e; rfl
  | int b => have e : v = _ := r; subst e; rfl
  | str b => have e : v = _ := r; subst e; rfl
  | tup l => obtain ⟨a, vs, rfl, _⟩ := r; rfl
  | ref n => obtain ⟨a, _, rfl⟩ := r; rfl
  | gl x => cases hd
  | ty t => have e : v = _ := r; subst e; rfl
  | kl l => obtain ⟨a, vs, rfl, _⟩ := r; rfl
theorem RV.is_non {d : D} {v : V} (r : RV T K mg H io d v) (hd : d.isN = true) : v = .non := by
  cases d <;> first | exact r | cases hd
theorem o_isn : OpR X (compareOp .Is) (rO T X .isn) := by
  intro pins s σ H x y v u Q I rx ry h
  obtain ⟨io, st, a, b, R, ra, rb, q⟩ := h
  simp only [op2] at q
  by_cases hl : D.isN b = true ∧ D.isG a = false
  · rw [if_pos hl] at q
    refine op_isN pins s σ H x y v u Q I rx ry ⟨RV.is_non rb hl.1, ?_⟩
    rw [RV.non_iff ra hl.2]
    exact q io H _ (List.prefix_refl _) Kp.refl R rfl
  · rw [if_neg hl] at q; exact q.elim
theorem o_isnn : OpR X (compareOp .IsNot) (rO T X .isnn) := by
  intro pins s σ H x y v u Q I rx ry h
  obtain ⟨io, st, a, b, R, ra, rb, q⟩ := h
  simp only [op2] at q
  by_cases hl : D.isN b = true ∧ D.isG a = false
  · rw [if_pos hl] at q
    refine op_notN pins s σ H x y v u Q I rx ry ⟨RV.is_non rb hl.1, ?_⟩
    rw [RV.non_iff ra hl.2]
    exact q io H _ (List.prefix_refl _) Kp.refl R rfl
  · rw [if_neg hl] at q; exact q.elim
/-- x in a tuple of data -/
theorem pin_ok {Q : VK} {neg : Bool} {pins : List (Addr × Obj)} {s : Shared} {σ : St} {x y : V} {v u : Value} {a : D} {l : List D} {r : Bool} (hu : X.A.units + 65 < cLine) (I : Inv X pins σ H s) (rx : RelV x v) (ry : RelV y u)
    (R : Rep T X.K X.mg H io st) (ra : RV T X.K X.mg H io a x) (e : pin st a l = some r) (hy : ∃ p vs, y = .ref p ∧ (SqL X.K H p vs ∨ SqT X.K H p vs) ∧ RVs T X.K X.mg H io l vs) (q : Q (.bl (if neg then !r else r)) H) :
    wpAny (model X.prog X.w) X.A (compareOp (if neg then .NotIn else .In) v u) (EP X pins σ Q) X.xe s := by
  unfold pin at e
  split at e
  · rename_i p qs e1 e2
    cases e
    obtain ⟨h1, h2, h3⟩ := toP_ok R 24 a p x e1 ra
    obtain ⟨b, vs, rfl, hs, rl⟩ := hy
    obtain ⟨g1, g2, g3⟩ := toPs_ok R 23 l qs vs e2 rl
    have sp : SeqAt.shaped p = true := shaped_of h2 h3 (by decide)
    obtain ⟨as, r1⟩ := Dp.reads I p x v h1 rx
    rcases hs with hs | hs
    · have sl : SeqAt.shaped (.list qs) = true := shaped_of (f := 24) (by simpa [PyData.canLay0] using g2) (by simp only [PyData.depth]; omega) (by decide)
      cases neg with
      | true => exact op_notInD hu pins s σ H x _ v u Q I rx ry ⟨p, qs, h1, .lst hs g1, sp, sl, q⟩
      | false => exact op_inD hu pins s σ H x _ v u Q I rx ry ⟨p, qs, h1, .lst hs g1, sp, sl, q⟩
    · obtain ⟨bs, r2⟩ := Dp.reads I (.tuple qs) _ u (.tup hs g1) ry
      have hm : X.A.units + 1 + min (PyData.depthAll qs) p.depth < cLine := by omega
      cases neg with
      | true => exact SeqAt.notIn_tuple_reads r2 r1 g2 h2 hm ⟨.bl _, H, I, rfl, q⟩
      | false => exact SeqAt.in_tuple_reads r2 r1 g2 h2 hm ⟨.bl _, H, I, rfl, q⟩
  · cases e
theorem Rep.isK {K : PySem.W.Frag} {mg : Str → Option Value} {H : Hp} {io : List Addr} {st : Sto} {n : Nat} {a : Addr} {l : List (Key × D)} (R : Rep T K mg H io st) (ha : io[n]? = some a) (e : isK st n = some l) : ∃ kvs, Rd H a (.dK kvs) ∧ RF T K mg H io id l kvs := by
  unfold Mi.isK at e
  split at e
  · rename_i l' h
    cases e
    obtain ⟨ho, h1, vs, rfl, r⟩ := R.ob n a _ ha h
    exact ⟨vs, .inl h1, r⟩
  · rename_i l' h
    cases e
    obtain ⟨ho, h1, ob, u, rfl, vs, rfl, r⟩ := R.ob n a _ ha h
    exact ⟨vs, .inr ⟨ob, h1⟩, r⟩
  · cases e
theorem RV.key {K : PySem.W.Frag} {mg : Str → Option Value} {H : Hp} {io : List Addr} {d : D} {v : V} {k : Key} (r : RV T K mg H io d v) (e : keyOf d = some k) : v = kV k := by
  cases d <;> simp only [keyOf, Option.some.injEq, reduceCtorEq] at e
  · subst e; exact r
  · subst e; exact r
theorem RF.val {K : PySem.W.Frag} {mg : Str → Option Value} {H : Hp} {io : List Addr} {k : Key} : ∀ {l : List (Key × D)} {kvs : List (Key × V)}, RF T K mg H io id l kvs →
    (∀ d, valD l k = some d → ∃ v, valV kvs k = some v ∧ RV T K mg H io d v) ∧ (valD l k = none → valV kvs k = none)
  | [], kvs, h => by
    rw [show kvs = [] from h]
    exact ⟨fun d e => (by cases e), fun _ => rfl⟩
  | (k', d) :: l, kvs, h => by
    obtain ⟨v, r, rfl, h1, h2⟩ := h
    obtain ⟨i1, i2⟩ := RF.val (k := k) h2
    by_cases hk : k' = k
    · subst hk
      have e1 : valD ((k', d) :: l) k' = some d := by simp [valD, List.find?_cons]
      have e2 : valV ((id k', v) :: r) k' = some v := valV_pos rfl
      rw [e1, e2]
      exact ⟨fun d' e => by cases e; exact ⟨v, rfl, h1⟩, fun e => (by cases e)⟩
    · have e1 : valD ((k', d) :: l) k = valD l k := by simp [valD, List.find?_cons, hk]
      have e2 : valV ((id k', v) :: r) k = valV r k := valV_neg hk
      rw [e1, e2]
      exact ⟨i1, i2⟩
theorem RF.isS {K : PySem.W.Frag} {mg : Str → Option Value} {H : Hp} {io : List Addr} {k : Key} {l : List (Key × D)} {kvs : List (Key × V)} (h : RF T K mg H io id l kvs) : (valV kvs k).isSome = (valD l k).isSome := by
  obtain ⟨i1, i2⟩ := RF.val (k := k) h
  cases e : valD l k with
  | none => rw [i2 e]; rfl
  | some d => obtain ⟨v, e2, _⟩ := i1 d e; rw [e2]; rfl
theorem inD_ok {Q : VK} {neg : Bool} {pins : List (Addr × Obj)} {s : Shared} {σ : St} {x y : V} {v u : Value} {a b : D} {r : Bool} (hu : X.A.units + 65 < cLine) (I : Inv X pins σ H s) (rx : RelV x v) (ry : RelV y u)
    (R : Rep T X.K X.mg H io st) (ra : RV T X.K X.mg H io a x) (rb : RV T X.K X.mg H io b y) (e : inD st a b = some r) (q : Q (.bl (if neg then !r else r)) H) :
    wpAny (model X.prog X.w) X.A (compareOp (if neg then .NotIn else .In) v u) (EP X pins σ Q) X.xe s := by
  cases b with
  | tup l =>
    obtain ⟨p, vs, rfl, hs, rl⟩ := rb
    exact pin_ok hu I rx ry R ra e ⟨p, vs, rfl, .inr hs, rl⟩ q
  | ref n =>
    obtain ⟨p, hp, rfl⟩ := rb
    simp only [inD] at e
    cases e0 : isL st n with
    | some l =>
      rw [e0] at e
      obtain ⟨vs, hs, rl⟩ := R.isL hp e0
      exact pin_ok hu I rx ry R ra e ⟨p, vs, rfl, .inl hs, rl⟩ q
    | none =>
      rw [e0] at e
      cases e1 : isK st n with
      | none => simp [e1] at e
      | some l =>
        cases e2 : keyOf a with
        | none => simp [e1, e2] at e
        | some k =>
          simp only [e1, e2, Option.some.injEq] at e
          subst e
          obtain ⟨kvs, hr, rf⟩ := R.isK hp e1
          have g : DGet H p x (valV kvs k) := .inl ⟨kvs, k, hr, RV.key ra e2, rfl⟩
          obtain rfl : u = Value.ref p := ry
          cases neg with
          | true =>
            refine d_notIn (by omega) I g rx fun s' I' => ⟨.bl _, H, I', rfl, ?_⟩
            rw [RF.isS rf]; exact q
          | false =>
            refine d_in (by omega) I g rx fun s' I' => ⟨.bl _, H, I', rfl, ?_⟩
            rw [RF.isS rf]; exact q
  | str z =>
    cases a with
    | str c =>
      simp only [inD] at e
      by_cases hc : c.cps.size = 1
      · rw [if_pos hc] at e
        cases e
        have ec : c = ⟨#[c.cps.getD 0 0]⟩ := by
          obtain ⟨cps⟩ := c
          have : cps = #[cps.getD 0 0] := by
            apply Array.ext
            · simpa using hc
            · intro i h1 h2
              have : i = 0 := by simp at hc; omega
              subst this
              simp [Array.getD, h1]
          exact congrArg Str.mk this
        rw [show x = _ from ra] at rx
        rw [show y = _ from rb] at ry
        cases neg with
        | true => exact op_notIn_sign pins s σ H _ _ v u Q I rx ry ⟨_, z, congrArg V.str ec, rfl, q⟩
        | false => exact op_in_sign pins s σ H _ _ v u Q I rx ry ⟨_, z, congrArg V.str ec, rfl, q⟩
      · rw [if_neg hc] at e; cases e
    | _ => cases e
  | _ => cases e
theorem o_in (hu : X.A.units + 65 < cLine) : OpR X (compareOp .In) (rO T X .inn) := by
  intro pins s σ H x y v u Q I rx ry h
  obtain ⟨io, st, a, b, R, ra, rb, q⟩ := h
  simp only [op2] at q
  cases e : inD st a b with
  | none => simp [e, OV] at q
  | some r =>
    simp only [e] at q
    exact inD_ok (neg := false) hu I rx ry R ra rb e (q io H _ (List.prefix_refl _) Kp.refl R rfl)
theorem o_nin (hu : X.A.units + 65 < cLine) : OpR X (compareOp .NotIn) (rO T X .nin) := by
  intro pins s σ H x y v u Q I rx ry h
  obtain ⟨io, st, a, b, R, ra, rb, q⟩ := h
  simp only [op2] at q
  cases e : inD st a b with
  | none => simp [e, OV] at q
  | some r =>
    simp only [e] at q
    exact inD_ok (neg := true) hu I rx ry R ra rb e (q io H _ (List.prefix_refl _) Kp.refl R rfl)
end
end Mi

/-! Expressions made of expressions, tests. -/
namespace Mi
open PySem L2

section
variable {T : Nm} {X : Cx} {P : Pg} {cf : CallF} {W : WX} {K : PySem.W.Frag} {mg : Str → Option Value} {H : Hp} {io : List Addr} {st : Sto}
theorem OG.of {Q : VK} {σ : St} {o : Option (D × Sto)} (h : OG T X.K X.mg (RV T X.K X.mg) W σ H io Q (.of o)) : OV T X H io Q o := by
  cases o with
  | none => exact h
  | some p => exact h
theorem tru_okD {d : D} {b : Bool} {v : V} (R : Rep T K mg H io st) (e : tru d st = some b) (r : RV T K mg H io d v) : TruV K v H b := by
  cases d with
  | non => cases e; rw [show v = _ from r]; rfl
  | bl c => cases e; rw [show v = _ from r]; rfl
  | int i => cases e; rw [show v = _ from r]; rfl
  | str s =>
    simp only [tru] at e
    by_cases hs : s.length ≤ 100000
    · rw [if_pos hs] at e; cases e; rw [show v = _ from r]; exact ⟨lenOk hs, rfl⟩
    · rw [if_neg hs] at e; cases e
  | tup l =>
    cases e
    obtain ⟨a, vs, rfl, hs, rl⟩ := r
    refine .inr (.inl ⟨vs, hs, ?_⟩)
    have := RVs.length rl
    cases l <;> cases vs <;> simp_all
  | ref n =>
    obtain ⟨a, ha, rfl⟩ := r
    simp only [tru] at e
    cases e0 : isL st n with
    | none => rw [e0] at e; cases e
    | some l =>
      rw [e0] at e; cases e
      obtain ⟨vs, hs, rl⟩ := R.isL ha e0
      refine .inl ⟨vs, hs, ?_⟩
      have := RVs.length rl
      cases l <;> cases vs <;> simp_all
  | gl x => cases e
  | ty t => cases e
  | kl l => cases e
theorem asB_ok {x : Out D} {Q : Bool → Hp → Prop} {σ : St} (h : OG T X.K X.mg (fun _ _ (a b : Bool) => a = b) W σ H io Q (asB x)) :
    OG T X.K X.mg (RV T X.K X.mg) W σ H io (fun x H1 => ∃ k, TruV X.K x H1 k ∧ Q k H1) x := by
  unfold asB at h
  refine OG.bnd h fun d st1 io1 H1 v p1 k1 R1 r1 q1 => ?_
  cases e : tru d st1 with
  | none => simp [e, OG] at q1
  | some b =>
    simp only [e] at q1
    exact ⟨b, tru_okD R1 e r1, q1 io1 H1 b (List.prefix_refl _) Kp.refl R1 rfl⟩

/-! ### operators over expressions -/
section
variable {a b c : Expr} {ca cb cc : Ex} {pos : Pos} {o o' : O2}
theorem op_tE {σ : St} {H : Hp} {Q : VK} (q : tE T X cf W (.op o ca cb) σ H Q) : tOp (rO T X o) (tE T X cf W ca) (tE T X cf W cb) σ H Q := by
  obtain ⟨io, st, fr, R, S, q⟩ := q
  simp only [evE] at q
  refine ⟨io, st, fr, R, S, OG.bnd q fun x st1 io1 H1 v1 p1 k1 R1 r1 q1 => ?_⟩
  refine ⟨io1, st1, fr, R1, RS.mono k1 p1 S, OG.bnd q1 fun y st2 io2 H2 v2 p2 k2 R2 r2 q2 => ?_⟩
  exact ⟨io2, st2, x, y, R2, RV.mono k2 p2 _ _ r1, r2, OG.of q2⟩
theorem e_bin {op : Operator} (ho : OpR X (binaryOp op) (rO T X o)) (ha : PE X a (tE T X cf W ca)) (hb : PE X b (tE T X cf W cb)) : PE X (.BinOp a op b pos) (tE T X cf W (.op o ca cb)) :=
  PE.imp (pe_op ho ha hb) fun _ _ _ q => op_tE q
theorem e_cmp {op : CmpOp} (ho : OpR X (compareOp op) (rO T X o)) (ha : PE X a (tE T X cf W ca)) (hb : PE X b (tE T X cf W cb)) (hm : behindInMarks op b = false := by rfl) : PE X (.Compare a [op] [b] pos) (tE T X cf W (.op o ca cb)) :=
  PE.imp (pe_cmpR ho ha hb hm) fun _ _ _ q => op_tE q
/-- what a comparison gives is a truth -/
def O2.cmp : O2 → Bool
  | .eq | .ne | .lt | .le | .gt | .ge | .isn | .isnn | .inn | .nin => true
  | _ => false
theorem op2_bl {x y d : D} {st st' : Sto} (h : o.cmp = true) (e : op2 o x y st = some (d, st')) : ∃ b, d = .bl b := by
  cases o <;> simp only [O2.cmp, Bool.false_eq_true] at h <;> simp only [op2] at e
  · cases q : peqD st x y with
    | none => simp [q] at e
    | some r => simp [q] at e; exact ⟨_, e.1.symm⟩
  · cases q : peqD st x y with
    | none => simp [q] at e
    | some r => simp [q] at e; exact ⟨_, e.1.symm⟩
  · split at e <;> first | (cases e; exact ⟨_, rfl⟩) | cases e
  · split at e <;> first | (cases e; exact ⟨_, rfl⟩) | cases e
  · split at e <;> first | (cases e; exact ⟨_, rfl⟩) | cases e
  · split at e <;> first | (cases e; exact ⟨_, rfl⟩) | cases e
  · split at e <;> first | (cases e; exact ⟨_, rfl⟩) | cases e
  · split at e <;> first | (cases e; exact ⟨_, rfl⟩) | cases e
  · cases q : inD st x y with
    | none => simp [q] at e
    | some r => simp [q] at e; exact ⟨_, e.1.symm⟩
  · cases q : inD st x y with
    | none => simp [q] at e
    | some r => simp [q] at e; exact ⟨_, e.1.symm⟩
theorem bind_bind {α β γ : Type} (x : Out α) (f : α → Sto → Out β) (g : β → Sto → Out γ) : (x.bind f).bind g = x.bind fun a s => (f a s).bind g := by
  cases x <;> rfl
theorem asB_of {o : Option (D × Sto)} (h : ∀ d st, o = some (d, st) → ∃ b, d = .bl b) : ∃ o' : Option (Bool × Sto), asB (.of o) = .of o' ∧ ∀ d st, o = some (d, st) → ∃ b, d = .bl b ∧ o' = some (b, st) := by
  cases o with
  | none => exact ⟨none, rfl, fun _ _ e => nomatch e⟩
  | some p =>
    obtain ⟨d, st⟩ := p
    obtain ⟨b, rfl⟩ := h d st rfl
    exact ⟨some (b, st), rfl, fun _ _ e => by cases e; exact ⟨b, rfl, rfl⟩⟩
/-- a comparison's truth, as a test asks it -/
theorem OV.test {Q : Bool → Hp → Prop} {σ : St} {x y : D} (hc : o.cmp = true) (h : OG T X.K X.mg (fun _ _ (a b : Bool) => a = b) W σ H io Q (asB (.of (op2 o x y st)))) : OV T X H io (fun v H1 => ∃ k, v = .bl k ∧ Q k H1) (op2 o x y st) := by
  cases e : op2 o x y st with
  | none => rw [e] at h; exact h
  | some p =>
    obtain ⟨d, st'⟩ := p
    obtain ⟨b, rfl⟩ := op2_bl hc e
    rw [e] at h
    exact fun io' H' v p' k' r' z => ⟨b, z, h io' H' b p' k' r' rfl⟩
theorem t_cmp {op : CmpOp} (ho : OpR X (compareOp op) (rO T X o)) (ha : PE X a (tE T X cf W ca)) (hb : PE X b (tE T X cf W cb)) (hc : o.cmp = true := by rfl) (hm : behindInMarks op b = false := by rfl) : PT X (.Compare a [op] [b] pos) (tT T X cf W (.op o ca cb)) := by
  refine PT.imp (pt_cmpR ho ha hb hm) fun σ H Q q => ?_
  obtain ⟨io, st, fr, R, S, q⟩ := q
  simp only [evE, asB, bind_bind] at q
  refine ⟨io, st, fr, R, S, OG.bnd q fun x st1 io1 H1 v1 p1 k1 R1 r1 q1 => ?_⟩
  refine ⟨io1, st1, fr, R1, RS.mono k1 p1 S, OG.bnd q1 fun y st2 io2 H2 v2 p2 k2 R2 r2 q2 => ?_⟩
  exact ⟨io2, st2, x, y, R2, RV.mono k2 p2 _ _ r1, r2, OV.test hc q2⟩
/-! ### any expression as a test -/
theorem t_val (ha : PE X a (tE T X cf W ca)) (he : ∀ whole, isTrue a X.env whole = (do let v ← whole; standAt a.pos; holding [v] (truthy v)) := by intro _; rfl) : PT X a (tT T X cf W ca) := by
  refine PT.imp (pt_truth ha he) fun σ H Q q => ?_
  obtain ⟨io, st, fr, R, S, q⟩ := q
  exact ⟨io, st, fr, R, S, asB_ok q⟩
theorem t_not (ha : PT X a (tT T X cf W ca)) : PT X (.UnaryOp .Not a pos) (tT T X cf W (.nt ca)) := by
  refine PT.imp (pt_not ha) fun σ H Q q => ?_
  obtain ⟨io, st, fr, R, S, q⟩ := q
  simp only [evE] at q
  have e : asB ((asB (evE cf ca fr st)).bind fun b s1 => Out.ok (D.bl (!b)) s1) = (asB (evE cf ca fr st)).bind fun b s1 => Out.ok (!b) s1 := by
    cases asB (evE cf ca fr st) <;> rfl
  rw [e] at q
  exact ⟨io, st, fr, R, S, OG.bnd q fun b st1 io1 H1 b' p1 k1 R1 r1 q1 => by cases r1; exact q1 io1 H1 _ (List.prefix_refl _) Kp.refl R1 rfl⟩
theorem e_not (ha : PE X a (tE T X cf W ca)) : PE X (.UnaryOp .Not a pos) (tE T X cf W (.nt ca)) := by
  refine PE.imp (pe_notT ha) fun σ H Q q => ?_
  obtain ⟨io, st, fr, R, S, q⟩ := q
  simp only [evE, asB, bind_bind] at q
  refine ⟨io, st, fr, R, S, OG.bnd q fun d st1 io1 H1 v p1 k1 R1 r1 q1 => ?_⟩
  cases e : tru d st1 with
  | none => simp [e, OG, Out.bind] at q1
  | some b =>
    simp only [e, Out.bind] at q1
    exact ⟨b, tru_okD R1 e r1, q1 io1 H1 _ (List.prefix_refl _) Kp.refl R1 rfl⟩
/-! ### and, or -/
variable {rest : List Expr}
theorem tst_bl {d : D} {b : Bool} (e : tst d = some b) : d = .bl b := by
  cases d <;> simp only [tst, Option.some.injEq, reduceCtorEq] at e
  rw [e]
theorem e_one {op : BoolOp} (ha : PE X a (tE T X cf W ca)) : PE X (.BoolOp op [a] pos) (tE T X cf W ca) := pe_one ha
theorem e_and (ha : PE X a (tE T X cf W ca)) (hb : PE X (.BoolOp .And (b :: rest) pos) (tE T X cf W cb)) : PE X (.BoolOp .And (a :: b :: rest) pos) (tE T X cf W (.an ca cb)) := by
  refine PE.imp (pe_and ha hb) fun σ H Q q => ?_
  obtain ⟨io, st, fr, R, S, q⟩ := q
  simp only [evE] at q
  refine ⟨io, st, fr, R, S, OG.bnd q fun d st1 io1 H1 v p1 k1 R1 r1 q1 => ?_⟩
  cases e : tst d with
  | none => simp [e, OG] at q1
  | some k =>
    have ed := tst_bl e
    subst ed
    refine ⟨k, r1, ?_⟩
    cases k with
    | true => exact ⟨io1, st1, fr, R1, RS.mono k1 p1 S, q1⟩
    | false => exact q1 io1 H1 _ (List.prefix_refl _) Kp.refl R1 rfl
theorem e_or (ha : PE X a (tE T X cf W ca)) (hb : PE X (.BoolOp .Or (b :: rest) pos) (tE T X cf W cb)) : PE X (.BoolOp .Or (a :: b :: rest) pos) (tE T X cf W (.orr ca cb)) := by
  refine PE.imp (pe_or ha hb) fun σ H Q q => ?_
  obtain ⟨io, st, fr, R, S, q⟩ := q
  simp only [evE] at q
  refine ⟨io, st, fr, R, S, OG.bnd q fun d st1 io1 H1 v p1 k1 R1 r1 q1 => ?_⟩
  cases e : tst d with
  | none => simp [e, OG] at q1
  | some k =>
    have ed := tst_bl e
    subst ed
    refine ⟨k, r1, ?_⟩
    cases k with
    | true => exact q1 io1 H1 _ (List.prefix_refl _) Kp.refl R1 rfl
    | false => exact ⟨io1, st1, fr, R1, RS.mono k1 p1 S, q1⟩
theorem w_one {op : BoolOp} (ho : op = .And ∨ op = .Or) (ha : PT X a (tT T X cf W ca)) : PW X (.BoolOp op [a] pos) (tT T X cf W ca) := by
  rcases ho with rfl | rfl
  · exact pw_and1 ha
  · exact pw_or1 ha
theorem PW.imp {e : Expr} {t t' : TT} (h : PW X e t) (i : ∀ σ H Q, t' σ H Q → t σ H Q) : PW X e t' := ⟨fun wh pins s σ H Q I q => h.run wh pins s σ H Q I (i σ H Q q)⟩
theorem OG.tst {α β : Type} {rel : Hp → List Addr → α → β → Prop} {Q : β → Hp → Prop} {Q' : Bool → Hp → Prop} {σ : St} {x : Out D} {k : D → Sto → Out α} (hk : ∀ d s, Mi.tst d = none → k d s = .bad)
    (h : OG T X.K X.mg rel W σ H io Q (x.bind k))
    (i : ∀ (b : Bool) (st : Sto) (io1 : List Addr) (H1 : Hp), io <+: io1 → Kp H H1 → Rep T X.K X.mg H1 io1 st → OG T X.K X.mg rel W σ H1 io1 Q (k (.bl b) st) → Q' b H1) : OG T X.K X.mg (fun _ _ (a b : Bool) => a = b) W σ H io Q' (asB x) := by
  cases x with
  | bad => exact h
  | exc x s1 => exact h
  | ok d s1 =>
    have h' : OG T X.K X.mg rel W σ H io Q (k d s1) := h
    cases e : Mi.tst d with
    | none => rw [hk d s1 e] at h'; exact h'.elim
    | some b =>
      have ed := tst_bl e
      subst ed
      exact fun io' H' b' p' k' r' z => by cases z; exact i b s1 io' H' p' k' r' (OG.mono p' k' h')
theorem w_and (ha : PT X a (tT T X cf W ca)) (hb : PW X (.BoolOp .And (b :: rest) pos) (tT T X cf W cb)) : PW X (.BoolOp .And (a :: b :: rest) pos) (tT T X cf W (.an ca cb)) := by
  refine PW.imp (pw_and ha hb) fun σ H Q q => ?_
  obtain ⟨io, st, fr, R, S, q⟩ := q
  simp only [evE] at q
  unfold asB at q
  rw [bind_bind] at q
  refine ⟨io, st, fr, R, S, OG.tst (fun d s e => by simp only [e]; rfl) q fun k st1 io1 H1 p1 k1 R1 q1 => ?_⟩
  cases k with
  | true => rw [if_pos rfl]; exact ⟨io1, st1, fr, R1, RS.mono k1 p1 S, q1⟩
  | false => rw [if_neg Bool.false_ne_true]; exact q1 io1 H1 _ (List.prefix_refl _) Kp.refl R1 rfl
theorem w_or (ha : PT X a (tT T X cf W ca)) (hb : PW X (.BoolOp .Or (b :: rest) pos) (tT T X cf W cb)) : PW X (.BoolOp .Or (a :: b :: rest) pos) (tT T X cf W (.orr ca cb)) := by
  refine PW.imp (pw_or ha hb) fun σ H Q q => ?_
  obtain ⟨io, st, fr, R, S, q⟩ := q
  simp only [evE] at q
  unfold asB at q
  rw [bind_bind] at q
  refine ⟨io, st, fr, R, S, OG.tst (fun d s e => by simp only [e]; rfl) q fun k st1 io1 H1 p1 k1 R1 q1 => ?_⟩
  cases k with
  | true => rw [if_pos rfl]; exact q1 io1 H1 _ (List.prefix_refl _) Kp.refl R1 rfl
  | false => rw [if_neg Bool.false_ne_true]; exact ⟨io1, st1, fr, R1, RS.mono k1 p1 S, q1⟩
/-! ### a if t else b -/
theorem e_ife (hc : PT X c (tT T X cf W cc)) (ha : PE X a (tE T X cf W ca)) (hb : PE X b (tE T X cf W cb)) : PE X (.IfExp c a b pos) (tE T X cf W (.ife cc ca cb)) := by
  refine PE.imp (pe_ifExp hc ha hb) fun σ H Q q => ?_
  obtain ⟨io, st, fr, R, S, q⟩ := q
  simp only [evE] at q
  refine ⟨io, st, fr, R, S, OG.bnd q fun k st1 io1 H1 k' p1 k1 R1 r1 q1 => ?_⟩
  cases r1
  by_cases hk : k = true
  · rw [if_pos hk] at q1 ⊢
    exact ⟨io1, st1, fr, R1, RS.mono k1 p1 S, q1⟩
  · rw [if_neg hk] at q1 ⊢
    exact ⟨io1, st1, fr, R1, RS.mono k1 p1 S, q1⟩
/-! ### a < b < c -/
theorem e_chain {op op' : CmpOp} (ho : OpR X (compareOp op) (rO T X o)) (ho' : OpR X (compareOp op') (rO T X o')) (ha : PE X a (tE T X cf W ca)) (hb : PE X b (tE T X cf W cb)) (hc : PE X c (tE T X cf W cc)) (hm : lastMarks [op, op'] [b, c] = false := by with_unfolding_all rfl) :
    PE X (.Compare a [op, op'] [b, c] pos) (tE T X cf W (.chn o o' ca cb cc)) := by
  refine PE.imp (pe_chain ho ho' ha hb hc hm) fun σ H Q q => ?_
  obtain ⟨io, st, fr, R, S, q⟩ := q
  simp only [evE] at q
  refine ⟨io, st, fr, R, S, OG.bnd q fun x st1 io1 H1 v1 p1 k1 R1 r1 q1 => ?_⟩
  refine ⟨io1, st1, fr, R1, RS.mono k1 p1 S, OG.bnd q1 fun y st2 io2 H2 v2 p2 k2 R2 r2 q2 => ?_⟩
  refine ⟨io2, st2, x, y, R2, RV.mono k2 p2 _ _ r1, r2, ?_⟩
  cases e : op2 o x y st2 with
  | none => rw [e] at q2; exact q2
  | some p =>
    obtain ⟨d, s3⟩ := p
    rw [e] at q2
    intro io3 H3 z p3 k3 R3 rz
    have q3 := OG.mono p3 k3 q2
    simp only [Out.of, Out.bind] at q3
    cases d with
    | bl k =>
      refine ⟨k, rz, ?_⟩
      cases k with
      | true =>
        exact ⟨io3, s3, fr, R3, RS.mono (k1.trans (k2.trans k3)) (p1.trans (p2.trans p3)) S, OG.bnd q3 fun z s4 io4 H4 v4 p4 k4 R4 r4 q4 =>
          ⟨io4, s4, y, z, R4, RV.mono (k3.trans k4) (p3.trans p4) _ _ r2, r4, OG.of q4⟩⟩
      | false => exact q3 io3 H3 _ (List.prefix_refl _) Kp.refl R3 rfl
    | _ => exact q3.elim
theorem t_chain {op op' : CmpOp} (ho : OpR X (compareOp op) (rO T X o)) (ho' : OpR X (compareOp op') (rO T X o')) (ha : PE X a (tE T X cf W ca)) (hb : PE X b (tE T X cf W cb)) (hc : PE X c (tE T X cf W cc)) (hcm : o'.cmp = true := by rfl) (hm : lastMarks [op, op'] [b, c] = false := by with_unfolding_all rfl) :
    PT X (.Compare a [op, op'] [b, c] pos) (tT T X cf W (.chn o o' ca cb cc)) := by
  refine PT.imp (pt_chain ho ho' ha hb hc hm) fun σ H Q q => ?_
  obtain ⟨io, st, fr, R, S, q⟩ := q
  simp only [evE, asB, bind_bind] at q
  refine ⟨io, st, fr, R, S, OG.bnd q fun x st1 io1 H1 v1 p1 k1 R1 r1 q1 => ?_⟩
  refine ⟨io1, st1, fr, R1, RS.mono k1 p1 S, OG.bnd q1 fun y st2 io2 H2 v2 p2 k2 R2 r2 q2 => ?_⟩
  refine ⟨io2, st2, x, y, R2, RV.mono k2 p2 _ _ r1, r2, ?_⟩
  cases e : op2 o x y st2 with
  | none => rw [e] at q2; exact q2
  | some p =>
    obtain ⟨d, s3⟩ := p
    rw [e] at q2
    intro io3 H3 z p3 k3 R3 rz
    cases d with
    | bl k =>
      refine ⟨k, rz, ?_⟩
      cases k with
      | true =>
        have q3 : OG T X.K X.mg (fun _ _ (a b : Bool) => a = b) W σ H3 io3 Q (asB ((evE cf cc fr s3).bind fun z s4 => Out.of (op2 o' y z s4))) := OG.mono p3 k3 q2
        unfold asB at q3
        rw [bind_bind] at q3
        exact ⟨io3, s3, fr, R3, RS.mono (k1.trans (k2.trans k3)) (p1.trans (p2.trans p3)) S, OG.bnd q3 fun z s4 io4 H4 v4 p4 k4 R4 r4 q4 =>
          ⟨io4, s4, y, z, R4, RV.mono (k3.trans k4) (p3.trans p4) _ _ r2, r4, OV.test hcm q4⟩⟩
      | false =>
        have q3 : OG T X.K X.mg (fun _ _ (a b : Bool) => a = b) W σ H3 io3 Q (.ok false s3) := OG.mono p3 k3 q2
        exact ⟨false, rfl, q3 io3 H3 _ (List.prefix_refl _) Kp.refl R3 rfl⟩
    | _ => exact q2.elim
end
end
end Mi

/-! Calls. -/
namespace Mi
open PySem L2 PyProof.Rows

/-- what a def promises: what the machine makes of it -/
def spF (T : Nm) (K : PySem.W.Frag) (mg : Str → Option Value) (P : Pg) (n fi : Nat) : Sp := fun vs H Q E =>
  ∃ io st ds, Rep T K mg H io st ∧ RVs T K mg H io ds vs ∧ ds.length = P.np fi ∧ OG T K mg (RV T K mg) (fun c dd _ H' => E c dd H') [] H io Q (callN P n fi ds st)

section
variable {T : Nm} {X : Cx} {P : Pg} {n : Nat} {W : WX}
theorem sp_of {H : Hp} {io : List Addr} {st : Sto} {fi : Nat} {ds : List D} {vs : List V} {σ : L2.St} {Q : VK} (R : Rep T X.K X.mg H io st) (r : RVs T X.K X.mg H io ds vs) (h : OG T X.K X.mg (RV T X.K X.mg) W σ H io Q (callN P n fi ds st)) (hl : callN P n fi ds st ≠ .bad → ds.length = P.np fi) :
    spF T X.K X.mg P n fi vs H Q (WE W σ) := by
  refine ⟨io, st, ds, R, r, hl fun e => ?_, ?_⟩
  · rw [e] at h; exact h
  · cases e : callN P n fi ds st with
    | bad => rw [e] at h; exact h
    | ok d s1 => rw [e] at h; exact h
    | exc x s1 => rw [e] at h; exact h
theorem callN_len {fi : Nat} {ds : List D} {st : Sto} (h : callN P n fi ds st ≠ .bad) : ds.length = P.np fi := by
  cases n with
  | zero => exact absurd rfl h
  | succ n =>
    unfold callN at h
    split at h
    · exact absurd rfl h
    · by_cases e : ds.length = P.np fi
      · exact e
      · rw [if_neg e] at h; exact absurd rfl h

section
variable {k fi m : Nat} {f C : Addr} {fd : FuncData} {ps ks : List Str} {x : Str} {p pos apos : Pos} {e o : Expr} {es : List Expr} {kws : List Keyword} {cs zs : Exs} {co : Ex} {dds : List D} {dvs : List V} {ds : List Value}
/-- defaults: told deep, and as they stand -/
def Dfs (T : Nm) (X : Cx) (dds : List D) (dvs : List V) (ds : List Value) : Prop := Vals dvs ds ∧ ∀ H io, RVs T X.K X.mg H io dds dvs
theorem Dfs.nil : Dfs T X [] [] [] := ⟨.nil, fun _ _ => rfl⟩
/-- f(..) -/
theorem e_call (F : FnOk X.prog X.w X.K X.mg X.base (L2.CX X.prog X.w) k f fd ps (spF T X.K X.mg P n fi)) (tk : Takes X W) (hr : Room k X.A) (hm : X.mg x = some (.ref f)) (hk : PySem.W.keepIn X.K (.ref f) = true) (hb : Binds X.K fd ps ds) (hd : Dfs T X dds dvs ds)
    (ha : PA X (e :: es) (tA T X (callN P n) W cs)) (hg : Gl X x := by rfl) (hdb : (x == ("__debug__" : Str)) = false := by decide) (he : starEach (e :: es) X.env = (false, eval e X.env) :: starEach es X.env := by rfl) (hpl : (backTo pos (starEach es X.env)).any (·.1) = false := by rfl) :
    PE X (.Call (.Name x p) (e :: es) [] pos) (tE T X (callN P n) W (.call fi cs dds)) := by
  refine PE.imp (pe_callSD F hr hg hm hk hb hd.1 (fun σ => passAt tk σ) ha hdb he hpl) fun σ H Q q => ?_
  obtain ⟨io, st, fr, R, S, q⟩ := q
  simp only [evE] at q
  refine ⟨io, st, fr, R, S, OG.bnd q fun as st1 io1 H1 vs p1 k1 R1 r1 q1 => ?_⟩
  exact sp_of R1 (RVs.append r1 (hd.2 _ _)) q1 callN_len
/-- f() -/
theorem e_call0 (F : FnOk X.prog X.w X.K X.mg X.base (L2.CX X.prog X.w) k f fd ps (spF T X.K X.mg P n fi)) (tk : Takes X W) (hr : Room k X.A) (hm : X.mg x = some (.ref f)) (hk : PySem.W.keepIn X.K (.ref f) = true) (hb : Binds X.K fd ps ds) (hd : Dfs T X dds dvs ds)
    (hg : Gl X x := by rfl) (hdb : (x == ("__debug__" : Str)) = false := by decide) :
    PE X (.Call (.Name x p) [] [] pos) (tE T X (callN P n) W (.call fi .nil dds)) := by
  refine ⟨fun pins s σ H Q I q => ?_⟩
  obtain ⟨io, st, fr, R, S, q⟩ := q
  simp only [evE, evEs, Out.bind] at q
  refine wpAny_Call_Name_kw (ld_glob I hg hm ?_ hdb)
  exact PySem.W.callWith_K0 I.kIn hk (run_fnSD (us := []) (vs := []) F hr hb hd.1 (passAt tk σ) I .nil (sp_of R (hd.2 _ _) q callN_len))
/-- a selection of the values, at both levels -/
def Sel (T : Nm) (X : Cx) (n m : Nat) (sel : List D → List D → List D) (gV : List V → List V → List V) : Prop :=
  ∀ (H : Hp) (io : List Addr) (as bs : List D) (vs us : List V), RVs T X.K X.mg H io as vs → RVs T X.K X.mg H io bs us → vs.length = n → us.length = m → RVs T X.K X.mg H io (sel as bs) (gV vs us)
theorem run_fnkS {j : Nat} {pins : List (Addr × Obj)} {σ : L2.St} {H : Hp} {s : Shared} {Q : VK} {us ws : List Value} {vs zs : List V} {sp : Sp} {g : List Value → List Value → List Value} {gV : List V → List V → List V} (F : FnOk X.prog X.w X.K X.mg X.base (L2.CX X.prog X.w) k f fd ps sp) (hr : Room k X.A) (hb : KBn X.K fd ps j ks g gV)
    (tk : Takes X W) (I : Inv X pins σ H s) (r : Vals vs us) (rz : Vals zs ws) (l1 : vs.length = j) (l2 : zs.length = ks.length) (h : sp (gV vs zs) H Q (WE W σ)) : wpAny (model X.prog X.w) X.A (call (.ref f) us (ks.zip ws)) (EP X pins σ Q) X.xe s := by
  have r2 := hb.rel r rz
  have bt := hb.to s us ws I.kIn (r.length.symm.trans l1) (rz.length.symm.trans l2)
  refine wpAny_call (codeAny_mono (F.run X.A X.stack s H ⟨us, ks.zip ws⟩ (g us ws) (gV vs zs) Q (WE W σ) hr I.env0 bt r2 h) fun r s' hq => ?_)
  rcases r with e | (_ | u | _ | _)
  · exact passAt tk σ pins H s e s' I hq
  all_goals first | exact I.after hq | exact hq.elim
/-- how many values come -/
def lenE : Exs → Nat
  | .nil => 0
  | .cons _ es => lenE es + 1
theorem evEs_len {cf : CallF} : ∀ {cs : Exs} {fr : Fr} {st : Sto} {ds : List D} {s1 : Sto}, evEs cf cs fr st = .ok ds s1 → ds.length = lenE cs
  | .nil, _, _, _, _, h => by cases h; rfl
  | .cons c cs, fr, st, ds, s1, h => by
    simp only [evEs] at h
    cases e1 : evE cf c fr st with
    | bad => rw [e1] at h; cases h
    | exc x s => rw [e1] at h; cases h
    | ok d s2 =>
      rw [e1] at h
      simp only [Out.bind] at h
      cases e2 : evEs cf cs fr s2 with
      | bad => rw [e2] at h; cases h
      | exc x s => rw [e2] at h; cases h
      | ok ds' s3 =>
        rw [e2] at h
        cases h
        simp [lenE, evEs_len e2]
/-- f(.., k = v, ..) -/
theorem e_callk {j : Nat} {g : List Value → List Value → List Value} {gV : List V → List V → List V} {sel : List D → List D → List D} (F : FnOk X.prog X.w X.K X.mg X.base (L2.CX X.prog X.w) k f fd ps (spF T X.K X.mg P n fi)) (tk : Takes X W) (hr : Room k X.A) (hm : X.mg x = some (.ref f)) (hk : PySem.W.keepIn X.K (.ref f) = true)
    (hb : KBn X.K fd ps j ks g gV) (hs : Sel T X j ks.length sel gV) (ha : PA X (e :: es) (tA T X (callN P n) W cs)) (hkw : PK X kws (tA T X (callN P n) W zs)) (hlen : lenE cs = j := by rfl) (hlenk : lenE zs = ks.length := by rfl)
    (hall : (backToKw pos (keywordEach kws X.env)).all (·.1.isSome) = true := by rfl) (hks : (backToKw pos (keywordEach kws X.env)).filterMap (·.1) = ks := by rfl)
    (hg : Gl X x := by rfl) (hdb : (x == ("__debug__" : Str)) = false := by decide) (he : starEach (e :: es) X.env = (false, eval e X.env) :: starEach es X.env := by rfl)
    (hpl : ((backTo pos (starEach (e :: es) X.env)).any (·.1) || (backToKw pos (keywordEach kws X.env)).any (·.1.isNone)) = false := by rfl) :
    PE X (.Call (.Name x p) (e :: es) kws pos) (tE T X (callN P n) W (.callk fi cs zs sel)) := by
  refine ⟨fun pins s σ H Q I q => ?_⟩
  obtain ⟨io, st, fr, R, S, q⟩ := q
  simp only [evE] at q
  refine wpAny_Call_Name_kw (ld_glob I hg hm ?_ hdb)
  refine PySem.W.callWith_KW (h₀ := X.base) I.ok.mod.kin hk hall (thn (ha.run pos pins s σ H (fun vs H1 => vs.length = j ∧ At T X.K X.mg H1 σ fun io1 st1 fr1 => ∃ as, RVs T X.K X.mg H1 io1 as vs ∧ OG T X.K X.mg (RV T X.K X.mg) W σ H1 io1 Q ((evEs (callN P n) zs fr1 st1).bind fun bs s2 => callN P n fi (sel as bs) s2)) I ⟨io, st, fr, R, S, ?_⟩) fun us s1 hx => ?_) hpl he
  · refine OG.bnde q fun as s1 io' H' vs eA p' k' r' rv q' => ?_
    exact ⟨by rw [← RVs.length rv, evEs_len eA]; exact hlen, io', s1, fr, r', RS.mono k' p' S, as, rv, q'⟩
  · obtain ⟨vs, H1, I1, r, l1, io1, st1, fr1, R1, S1, as, ras, q1⟩ := hx
    refine thn (hkw.run pos pins s1 σ H1 (fun bs H2 => bs.length = ks.length ∧ spF T X.K X.mg P n fi (gV vs bs) H2 Q (WE W σ)) I1 ⟨io1, st1, fr1, R1, S1, ?_⟩) fun ws s2 hz => ?_
    · refine OG.bnde q1 fun bs s2 io' H' us' eB p' k' r' rv q' => ?_
      have lb : us'.length = ks.length := by rw [← RVs.length rv, evEs_len eB]; exact hlenk
      exact ⟨lb, sp_of r' (hs _ _ _ _ _ _ (RVs.mono k' p' _ _ ras) rv l1 lb) q' callN_len⟩
    · obtain ⟨zs', H2, I2, rz, l2, q2⟩ := hz
      refine ⟨I2.kIn, ?_⟩
      rw [hks]
      exact run_fnkS F hr hb tk I2 r rz l1 l2 q2
/-! ### fields -/
theorem RF.look {κ κ' : Type} [BEq κ] [LawfulBEq κ] [BEq κ'] [LawfulBEq κ'] {g : κ → κ'} (inj : ∀ a b, g a = g b → a = b) {K : PySem.W.Frag} {mg : Str → Option Value} {H : Hp} {io : List Addr} : ∀ {fs : List (κ × D)} {vs : List (κ' × V)} {f : κ}, RF T K mg H io g fs vs →
    (∀ d, fs.lookup f = some d → ∃ v, vs.lookup (g f) = some v ∧ RV T K mg H io d v) ∧ (fs.lookup f = none → vs.lookup (g f) = none)
  | [], vs, f, h => by
    rw [show vs = [] from h]
    exact ⟨fun d e => (by cases e), fun _ => rfl⟩
  | (k, d) :: fs, vs, f, h => by
    obtain ⟨v, r, rfl, h1, h2⟩ := h
    obtain ⟨i1, i2⟩ := RF.look inj (f := f) h2
    by_cases hk : f = k
    · subst hk
      refine ⟨fun d' e => ?_, fun e => ?_⟩
      · rw [List.lookup_cons_self] at e; cases e
        exact ⟨v, List.lookup_cons_self, h1⟩
      · rw [List.lookup_cons_self] at e; cases e
    · have b1 : (f == k) = false := by simpa using hk
      have b2 : (g f == g k) = false := by
        have : ¬ g f = g k := fun z => hk (inj _ _ z)
        simpa using this
      rw [List.lookup_cons, b1, List.lookup_cons, b2]
      exact ⟨i1, i2⟩
/-- o.f -/
theorem e_fld {c : Ex} {f : Nat} {nf : Str} (ha : PE X o (tE T X (callN P n) W c)) (hc : ∀ C, X.mg (T.nm m) = some (.ref C) → Cls X.K C ∧ NoAttr X.K C nf) (hf : T.nm f = nf := by rfl) (hb : attributeBase o nf X.env (eval o X.env) = eval o X.env := by rfl) :
    PE X (.Attribute o nf pos) (tE T X (callN P n) W (.fld c m f)) := by
  subst hf
  refine PE.imp (pe_fld ha hb) fun σ H Q q => ?_
  obtain ⟨io, st, fr, R, S, q⟩ := q
  simp only [evE] at q
  refine ⟨io, st, fr, R, S, OG.bnd q fun d st1 io1 H1 v p1 k1 R1 r1 q1 => ?_⟩
  cases d with
  | ref i =>
    obtain ⟨a, ha, rfl⟩ := r1
    cases e : st1[i]? with
    | none => simp [fldD, e, OG, Out.of] at q1
    | some ob =>
      cases ob with
      | ins c' fs =>
        by_cases hcm : c' = m
        · subst hcm
          cases e2 : fs.lookup f with
          | none => simp [fldD, e, e2, OG, Out.of] at q1
          | some d' =>
            simp only [fldD, e, e2] at q1
            obtain ⟨ho, h1, C, dx, vs, rfl, hC, rf⟩ := R1.ob i a _ ha e
            obtain ⟨v', h2, rv⟩ := (RF.look T.inj rf).1 d' e2
            obtain ⟨c1, c2⟩ := hc C hC
            refine ⟨a, C, dx, vs, v', rfl, h1, c1, c2, h2, ?_⟩
            rw [if_pos trivial] at q1
            exact q1 io1 H1 v' (List.prefix_refl _) Kp.refl R1 rv
        · simp [fldD, e, hcm, OG, Out.of] at q1
      | _ => simp [fldD, e, OG, Out.of] at q1
  | _ => exact q1.elim
end
end
end Mi

/-! Methods, new instances. -/
namespace Mi
open PySem L2 PyProof.Rows

section
variable {T : Nm} {X : Cx} {P : Pg} {n : Nat} {W : WX}
variable {k fi cn m : Nat} {f C : Addr} {fd : FuncData} {ps ks : List Str} {x nm : Str} {p pos apos : Pos} {e o : Expr} {es : List Expr} {kws : List Keyword} {cs zs : Exs} {co : Ex} {dds : List D} {dvs : List V} {ds : List Value}
theorem RVs.cons {K : PySem.W.Frag} {mg : Str → Option Value} {H : Hp} {io : List Addr} {d : D} {v : V} {ds : List D} {vs : List V} (a : RV T K mg H io d v) (b : RVs T K mg H io ds vs) : RVs T K mg H io (d :: ds) (v :: vs) := ⟨v, vs, rfl, a, b⟩
theorem isI_ok {H : Hp} {io : List Addr} {st : Sto} {d : D} {v : V} (R : Rep T X.K X.mg H io st) (r : RV T X.K X.mg H io d v) (h : isI st d cn m = true) (hC : X.mg (T.nm cn) = some (.ref C)) : ∃ a dx fs, v = .ref a ∧ H a = some (.ins C dx fs) ∧ fs.lookup (T.nm m) = none := by
  cases d with
  | ref i =>
    obtain ⟨a, ha, rfl⟩ := r
    simp only [isI] at h
    cases e : st[i]? with
    | none => rw [e] at h; cases h
    | some ob =>
      rw [e] at h
      cases ob with
      | ins c' fs =>
        simp only [Bool.and_eq_true, beq_iff_eq, Option.isNone_iff_eq_none] at h
        obtain ⟨rfl, h2⟩ := h
        obtain ⟨ho, h1, C', dx, vs, rfl, hC', rf⟩ := R.ob i a _ ha e
        rw [hC] at hC'
        cases hC'
        exact ⟨a, dx, vs, rfl, h1, (RF.look T.inj rf).2 h2⟩
      | _ => cases h
  | _ => cases h
/-- what is known of a method -/
structure MtF (T : Nm) (X : Cx) (P : Pg) (n k cn m fi : Nat) (C f : Addr) (fd : FuncData) (ps : List Str) : Prop where
  mc : X.mg (T.nm cn) = some (.ref C)
  cls : Cls X.K C
  mt : Meth X.K C (T.nm m) f
  ok : FnOk X.prog X.w X.K X.mg X.base (L2.CX X.prog X.w) k f fd ps (spF T X.K X.mg P n fi)
/-- o.m(e, ..) -/
theorem e_mth {pl : Sem Bool} (F : MtF T X P n k cn m fi C f fd ps) (tk : Takes X W) (hr : Room k X.A) (hb : Binds X.K fd ps ds) (hd : Dfs T X dds dvs ds) (he : PE X o (tE T X (callN P n) W co)) (ha : PA X (e :: es) (tA T X (callN P n) W cs))
    (hn : T.nm m = nm := by rfl) (hst : starEach (e :: es) X.env = (false, eval e X.env) :: starEach es X.env := by rfl) (hpl : (backTo pos (starEach es X.env)).any (·.1) = false := by rfl)
    (ht : eval (.Call (.Attribute o nm apos) (e :: es) [] pos) X.env = (do
      let ov ← eval o X.env
      standAt apos.atName
      let (f, first) ← holding [ov] (getMethod ov nm pl)
      callWith pos f first (backTo pos (starEach (e :: es) X.env)) (backToKw pos (keywordEach [] X.env))) := by rfl) :
    PE X (.Call (.Attribute o nm apos) (e :: es) [] pos) (tE T X (callN P n) W (.mth co cn m fi cs dds)) := by
  subst hn
  refine ⟨fun pins s σ H Q I q => ?_⟩
  obtain ⟨io, st, fr, R, S, q⟩ := q
  simp only [evE] at q
  refine PySem.W.methodCall_KW (pl := pl) (thn (he.run pins s σ H (fun v H1 => At T X.K X.mg H1 σ fun io1 st1 fr1 => ∃ d, RV T X.K X.mg H1 io1 d v ∧ isI st1 d cn m = true ∧ OG T X.K X.mg (RV T X.K X.mg) W σ H1 io1 Q ((evEs (callN P n) cs fr1 st1).bind fun ds s2 => callN P n fi (d :: (ds ++ dds)) s2)) I ⟨io, st, fr, R, S, ?_⟩) fun u s1 hx => ?_) ht
  · refine OG.bnd q fun d st1 io1 H1 v p1 k1 R1 r1 q1 => ?_
    by_cases hi : isI st1 d cn m = true
    · rw [if_pos hi] at q1
      exact ⟨io1, st1, fr, R1, RS.mono k1 p1 S, d, r1, hi, q1⟩
    · rw [if_neg hi] at q1; exact q1.elim
  · obtain ⟨v, H1, I1, rv, io1, st1, fr1, R1, S1, d, r1, hi, q1⟩ := hx
    obtain ⟨a, dx, fs, rfl, h1, hl⟩ := isI_ok R1 r1 hi F.mc
    obtain rfl : u = Value.ref a := rv
    refine getmeth_ok I1 h1 F.cls F.mt hl ?_
    refine PySem.W.callWith_K (first := [.ref a]) (h₀ := X.base) I.ok.mod.kin F.mt.kp (thn (ha.run pos pins s1 σ H1 (fun vs H2 => spF T X.K X.mg P n fi (V.ref a :: (vs ++ dvs)) H2 Q (WE W σ)) I1 ⟨io1, st1, fr1, R1, S1, ?_⟩) fun us s2 hy => ?_) hst hpl
    · refine OG.bnd q1 fun as st2 io2 H2 vs p2 k2 R2 r2 q2 => ?_
      exact sp_of R2 (RVs.cons (RV.mono k2 p2 _ _ r1) (RVs.append r2 (hd.2 _ _))) q2 callN_len
    · obtain ⟨vs, H2, I2, r2, q2⟩ := hy
      exact ⟨I2.kIn, run_fnSD (us := .ref a :: us) (vs := .ref a :: vs) F.ok hr hb hd.1 (passAt tk σ) I2 (.cons rfl r2) q2⟩
/-- o.m() -/
theorem e_mth0 {pl : Sem Bool} (F : MtF T X P n k cn m fi C f fd ps) (tk : Takes X W) (hr : Room k X.A) (hb : Binds X.K fd ps ds) (hd : Dfs T X dds dvs ds) (he : PE X o (tE T X (callN P n) W co))
    (hn : T.nm m = nm := by rfl)
    (ht : eval (.Call (.Attribute o nm apos) [] [] pos) X.env = (do
      let ov ← eval o X.env
      standAt apos.atName
      let (f, first) ← holding [ov] (getMethod ov nm pl)
      callWith pos f first (backTo pos (starEach [] X.env)) (backToKw pos (keywordEach [] X.env))) := by rfl) :
    PE X (.Call (.Attribute o nm apos) [] [] pos) (tE T X (callN P n) W (.mth co cn m fi .nil dds)) := by
  subst hn
  refine ⟨fun pins s σ H Q I q => ?_⟩
  obtain ⟨io, st, fr, R, S, q⟩ := q
  simp only [evE, evEs, Out.bind] at q
  refine PySem.W.methodCall_KW (pl := pl) (thn (he.run pins s σ H (fun v H1 => ∃ a dx fs, v = V.ref a ∧ H1 a = some (.ins C dx fs) ∧ fs.lookup (T.nm m) = none ∧ spF T X.K X.mg P n fi (V.ref a :: dvs) H1 Q (WE W σ)) I ⟨io, st, fr, R, S, ?_⟩) fun u s1 hx => ?_) ht
  · refine OG.bnd q fun d st1 io1 H1 v p1 k1 R1 r1 q1 => ?_
    by_cases hi : isI st1 d cn m = true
    · rw [if_pos hi] at q1
      obtain ⟨a, dx, fs, rfl, h1, hl⟩ := isI_ok R1 r1 hi F.mc
      exact ⟨a, dx, fs, rfl, h1, hl, sp_of R1 (RVs.cons r1 (hd.2 _ _)) q1 callN_len⟩
    · rw [if_neg hi] at q1; exact q1.elim
  · obtain ⟨v, H1, I1, rv, a, dx, fs, rfl, h1, hl, q1⟩ := hx
    obtain rfl : u = Value.ref a := rv
    refine getmeth_ok I1 h1 F.cls F.mt hl ?_
    exact PySem.W.callWith_K0 (first := [.ref a]) I1.kIn F.mt.kp (run_fnSD (us := [.ref a]) (vs := [.ref a]) F.ok hr hb hd.1 (passAt tk σ) I1 (.cons rfl .nil) q1)
/-- o.m(.., k = v, ..) -/
theorem e_mthk {j : Nat} {g : List Value → List Value → List Value} {gV : List V → List V → List V} {sel : List D → List D → List D} {pl : Sem Bool} (F : MtF T X P n k cn m fi C f fd ps) (tk : Takes X W) (hr : Room k X.A) (hb : KBn X.K fd ps (j + 1) ks g gV) (hs : Sel T X (j + 1) ks.length sel gV)
    (he : PE X o (tE T X (callN P n) W co)) (ha : PA X (e :: es) (tA T X (callN P n) W cs)) (hkw : PK X kws (tA T X (callN P n) W zs)) (hlen : lenE cs = j := by rfl) (hlenk : lenE zs = ks.length := by rfl) (hn : T.nm m = nm := by rfl)
    (hall : (backToKw pos (keywordEach kws X.env)).all (·.1.isSome) = true := by rfl) (hks : (backToKw pos (keywordEach kws X.env)).filterMap (·.1) = ks := by rfl) (hst : starEach (e :: es) X.env = (false, eval e X.env) :: starEach es X.env := by rfl)
    (hpl : ((backTo pos (starEach (e :: es) X.env)).any (·.1) || (backToKw pos (keywordEach kws X.env)).any (·.1.isNone)) = false := by rfl)
    (ht : eval (.Call (.Attribute o nm apos) (e :: es) kws pos) X.env = (do
      let ov ← eval o X.env
      standAt apos.atName
      let (f, first) ← holding [ov] (getMethod ov nm pl)
      callWith pos f first (backTo pos (starEach (e :: es) X.env)) (backToKw pos (keywordEach kws X.env))) := by rfl) :
    PE X (.Call (.Attribute o nm apos) (e :: es) kws pos) (tE T X (callN P n) W (.mthk co cn m fi cs zs sel)) := by
  subst hn
  refine ⟨fun pins s σ H Q I q => ?_⟩
  obtain ⟨io, st, fr, R, S, q⟩ := q
  simp only [evE] at q
  refine PySem.W.methodCall_KW (pl := pl) (thn (he.run pins s σ H (fun v H1 => At T X.K X.mg H1 σ fun io1 st1 fr1 => ∃ d, RV T X.K X.mg H1 io1 d v ∧ isI st1 d cn m = true ∧ OG T X.K X.mg (RV T X.K X.mg) W σ H1 io1 Q ((evEs (callN P n) cs fr1 st1).bind fun ds s2 => (evEs (callN P n) zs fr1 s2).bind fun zs s3 => callN P n fi (sel (d :: ds) zs) s3)) I ⟨io, st, fr, R, S, ?_⟩) fun u s1 hx => ?_) ht
  · refine OG.bnd q fun d st1 io1 H1 v p1 k1 R1 r1 q1 => ?_
    by_cases hi : isI st1 d cn m = true
    · rw [if_pos hi] at q1
      exact ⟨io1, st1, fr, R1, RS.mono k1 p1 S, d, r1, hi, q1⟩
    · rw [if_neg hi] at q1; exact q1.elim
  · obtain ⟨v, H1, I1, rv, io1, st1, fr1, R1, S1, d, r1, hi, q1⟩ := hx
    obtain ⟨a, dx, fs, rfl, h1, hl⟩ := isI_ok R1 r1 hi F.mc
    obtain rfl : u = Value.ref a := rv
    refine getmeth_ok I1 h1 F.cls F.mt hl ?_
    refine PySem.W.callWith_KW (first := [.ref a]) (h₀ := X.base) I.ok.mod.kin F.mt.kp hall (thn (ha.run pos pins s1 σ H1 (fun vs H2 => vs.length = j ∧ At T X.K X.mg H2 σ fun io2 st2 fr2 => ∃ as, RVs T X.K X.mg H2 io2 as vs ∧ RV T X.K X.mg H2 io2 d (V.ref a) ∧ OG T X.K X.mg (RV T X.K X.mg) W σ H2 io2 Q ((evEs (callN P n) zs fr2 st2).bind fun bs s3 => callN P n fi (sel (d :: as) bs) s3)) I1 ⟨io1, st1, fr1, R1, S1, ?_⟩) fun us s2 hy => ?_) hpl hst
    · refine OG.bnde q1 fun as st2 io2 H2 vs eA p2 k2 R2 r2 q2 => ?_
      exact ⟨by rw [← RVs.length r2, evEs_len eA]; exact hlen, io2, st2, fr1, R2, RS.mono k2 p2 S1, as, r2, RV.mono k2 p2 _ _ r1, q2⟩
    · obtain ⟨vs, H2, I2, r2, l2, io2, st2, fr2, R2, S2, as, ras, rd, q2⟩ := hy
      refine thn (hkw.run pos pins s2 σ H2 (fun bs H3 => bs.length = ks.length ∧ spF T X.K X.mg P n fi (gV (V.ref a :: vs) bs) H3 Q (WE W σ)) I2 ⟨io2, st2, fr2, R2, S2, ?_⟩) fun ws s3 hz => ?_
      · refine OG.bnde q2 fun bs s3 io3 H3 us' eB p3 k3 R3 r3 q3 => ?_
        have lb : us'.length = ks.length := by rw [← RVs.length r3, evEs_len eB]; exact hlenk
        exact ⟨lb, sp_of R3 (hs _ _ _ _ _ _ (RVs.cons (RV.mono k3 p3 _ _ rd) (RVs.mono k3 p3 _ _ ras)) r3 (by simp [l2]) lb) q3 callN_len⟩
      · obtain ⟨zs', H3, I3, rz, l3, q3⟩ := hz
        refine ⟨I3.kIn, ?_⟩
        rw [hks]
        exact run_fnkS (us := .ref a :: us) (vs := .ref a :: vs) F.ok hr hb tk I3 (.cons rfl r2) rz (by simp [l2]) l3 q3
/-! ### new instances -/
theorem Rep.other {K : PySem.W.Frag} {mg : Str → Option Value} {H : Hp} {io : List Addr} {st : Sto} {p : Addr} {o : HO} (R : Rep T K mg H io st) (hp : H p = none) : Rep T K mg (upd H p o) io st ∧ Kp H (upd H p o) := by
  have k2 : Kp H (upd H p o) := Kp.new hp
  refine ⟨⟨R.len, R.nd, fun i a ob e1 e2 => ?_⟩, k2⟩
  obtain ⟨ho, e3, r3⟩ := R.ob i a ob e1 e2
  exact ⟨ho, by rw [upd_ne (ne_of_none e3 hp)]; exact e3, RO.mono k2 (List.prefix_refl _) _ _ r3⟩
/-- a new instance laid, with its dict -/
theorem Rep.inst {K : PySem.W.Frag} {mg : Str → Option Value} {H : Hp} {io : List Addr} {st : Sto} {x dx : Addr} (R : Rep T K mg H io st) (hx : H x = none) (hdx : H dx = none) (hne : dx ≠ x) (hC : mg (T.nm cn) = some (.ref C)) :
    Rep T K mg (upd (upd H dx (.own x)) x (.ins C dx [])) (io ++ [x]) (st ++ [.ins cn []]) ∧ io <+: io ++ [x] ∧ Kp H (upd (upd H dx (.own x)) x (.ins C dx [])) := by
  obtain ⟨R1, k1⟩ := R.other (o := .own x) hdx
  have hx1 : (upd H dx (.own x)) x = none := by rw [upd_ne (Ne.symm hne)]; exact hx
  obtain ⟨R2, p2, k2⟩ := R1.new (o := .ins cn []) (ho := .ins C dx []) hx1 ⟨C, dx, [], rfl, hC, rfl⟩
  exact ⟨R2, p2, k1.trans k2⟩
/-- what is known of a class that is made -/
structure MkF (T : Nm) (X : Cx) (P : Pg) (n k cn fi : Nat) (C f : Addr) (fd : FuncData) (ps : List Str) : Prop where
  mc : X.mg (T.nm cn) = some (.ref C)
  km : Mk X.K C f
  ok : FnOk X.prog X.w X.K X.mg X.base (L2.CX X.prog X.w) k f fd ps (spF T X.K X.mg P n fi)
theorem mk_run {pins : List (Addr × Obj)} {s : Shared} {σ : L2.St} {H : Hp} {Q : VK} {us us2 : List Value} {vs2 : List V} {kw : List (Str × Value)} (F : MkF T X P n k cn fi C f fd ps) (tk : Takes X W) (hr : Room (k + 1) X.A) (I : Inv X pins σ H s)
    (hb : ∀ s' : Shared, X.K.In s'.heap → BindsTo s' fd ⟨.ref (s.heap.objs.size + 1) :: us, kw⟩ (ps.zip us2)) (r2 : Vals vs2 us2)
    (h : spF T X.K X.mg P n fi vs2 (upd (upd H s.heap.objs.size (.own (s.heap.objs.size + 1))) (s.heap.objs.size + 1) (.ins C s.heap.objs.size [])) (fun v H2 => v = .non ∧ Q (.ref (s.heap.objs.size + 1)) H2) (WE W σ)) :
    wpAny (model X.prog X.w) X.A (call (.ref C) us kw) (EP X pins σ Q) X.xe s := by
  have I2 := Inv.made (C := C) I
  have run := F.ok.run _ X.stack _ _ ⟨.ref (s.heap.objs.size + 1) :: us, kw⟩ us2 vs2 _ (WE W σ) (hr.make C us kw) (I2.env0.make C us kw) (hb _ I2.kIn) r2 h
  refine wpAny_call (make_map (f := f) I.kIn F.km.makes F.km.init (beq_iff_eq.mp F.km.fn) (codeAny_mono run fun r s' hq => ?_))
  rcases r with e | (_ | u | _ | _)
  · exact passAt tk σ pins _ _ e s' I2 hq
  · exact hq.elim
  · exact hq.elim
  · exact hq.elim
  · obtain ⟨v, H', I3, rv, ev, q3⟩ := I2.after hq
    subst ev
    exact ⟨rv, ⟨V.ref (s.heap.objs.size + 1), H', I3, rfl, q3⟩⟩
/-- __init__'s promise, from the machine's word for the making -/
theorem mk_sp {s : Shared} {pins : List (Addr × Obj)} {σ : L2.St} {H : Hp} {io : List Addr} {st : Sto} {Q : VK} {as : List D} {vs : List V} (mc : X.mg (T.nm cn) = some (.ref C)) (I : Inv X pins σ H s) (R : Rep T X.K X.mg H io st)
    (r : ∀ H' io', Kp H H' → io <+: io' → RV T X.K X.mg H' io' (.ref st.length) (V.ref (s.heap.objs.size + 1)) → RVs T X.K X.mg H' io' as vs)
    (q : OG T X.K X.mg (RV T X.K X.mg) W σ H io Q ((callN P n fi as (st ++ [.ins cn []])).bind fun r s2 => if r.isN = true then .ok (.ref st.length) s2 else .bad)) :
    spF T X.K X.mg P n fi vs (upd (upd H s.heap.objs.size (.own (s.heap.objs.size + 1))) (s.heap.objs.size + 1) (.ins C s.heap.objs.size [])) (fun v H2 => v = .non ∧ Q (.ref (s.heap.objs.size + 1)) H2) (WE W σ) := by
  obtain ⟨R1, p1, k1⟩ := R.inst (C := C) (I.hok.fresh (Nat.le_succ _)) (I.hok.fresh (Nat.le_refl s.heap.objs.size)) (Nat.ne_of_lt (Nat.lt_succ_self _)) mc
  have hx : RV T X.K X.mg (upd (upd H s.heap.objs.size (.own (s.heap.objs.size + 1))) (s.heap.objs.size + 1) (.ins C s.heap.objs.size [])) (io ++ [s.heap.objs.size + 1]) (.ref st.length) (V.ref (s.heap.objs.size + 1)) :=
    ⟨s.heap.objs.size + 1, by rw [← R.len, List.getElem?_concat_length], rfl⟩
  refine sp_of (σ := σ) R1 (r _ _ k1 p1 hx) (OG.bnd (OG.mono p1 k1 q) fun d s2 io2 H2 v p2 k2 R2 r2 q2 => ?_) callN_len
  by_cases hd : d.isN = true
  · rw [if_pos hd] at q2
    exact ⟨RV.is_non r2 hd, q2 io2 H2 _ (List.prefix_refl _) Kp.refl R2 (RV.mono k2 p2 _ _ hx)⟩
  · rw [if_neg hd] at q2; exact q2.elim
/-- C(e, ..) -/
theorem e_mk (F : MkF T X P n k cn fi C f fd ps) (tk : Takes X W) (hr : Room (k + 1) X.A) (hb : Binds X.K fd ps ds) (hd : Dfs T X dds dvs ds) (ha : PA X (e :: es) (tA T X (callN P n) W cs)) (hlen : lenE cs + dds.length + 1 = ps.length := by rfl) (hn : T.nm cn = x := by rfl)
    (hg : Gl X x := by rfl) (hdb : (x == ("__debug__" : Str)) = false := by decide) (he : starEach (e :: es) X.env = (false, eval e X.env) :: starEach es X.env := by rfl) (hpl : (backTo pos (starEach es X.env)).any (·.1) = false := by rfl) :
    PE X (.Call (.Name x p) (e :: es) [] pos) (tE T X (callN P n) W (.mk cn fi cs dds)) := by
  subst hn
  refine ⟨fun pins s σ H Q I q => ?_⟩
  obtain ⟨io, st, fr, R, S, q⟩ := q
  simp only [evE] at q
  refine wpAny_Call_Name_kw (ld_glob I hg F.mc ?_ hdb)
  refine PySem.W.callWith_K (h₀ := X.base) I.ok.mod.kin F.km.kp (thn (ha.run pos pins s σ H (fun vs H1 => ∃ io1 st1 as, as.length = lenE cs ∧ Rep T X.K X.mg H1 io1 st1 ∧ RVs T X.K X.mg H1 io1 as vs ∧ OG T X.K X.mg (RV T X.K X.mg) W σ H1 io1 Q ((callN P n fi (.ref st1.length :: (as ++ dds)) (st1 ++ [.ins cn []])).bind fun r s2 => if r.isN = true then .ok (.ref st1.length) s2 else .bad)) I ⟨io, st, fr, R, S, ?_⟩) fun us s1 hx => ?_) he hpl
  · exact OG.bnde q fun as st1 io1 H1 vs eA p1 k1 R1 r1 q1 => ⟨io1, st1, as, evEs_len eA, R1, r1, q1⟩
  · obtain ⟨vs, H1, I1, r, io1, st1, as, la, R1, ra, q1⟩ := hx
    refine ⟨I1.kIn, ?_⟩
    have l1 : us.length = lenE cs := by rw [← r.length, ← RVs.length ra, la]
    have l2 : dds.length = ds.length := by rw [RVs.length (hd.2 H io), hd.1.length]
    refine mk_run (us2 := .ref (s1.heap.objs.size + 1) :: (us ++ ds)) (vs2 := .ref (s1.heap.objs.size + 1) :: (vs ++ dvs)) F tk hr I1 (fun s' hk => ?_) (.cons rfl (r.append hd.1)) (mk_sp F.mc I1 R1 (fun H' io' k' p' rx => RVs.cons rx (RVs.append (RVs.mono k' p' _ _ ra) (hd.2 _ _))) q1)
    exact hb s' (.ref (s1.heap.objs.size + 1) :: us) hk (by simp [l1, ← l2]; omega)
/-- C() -/
theorem e_mk0 (F : MkF T X P n k cn fi C f fd ps) (tk : Takes X W) (hr : Room (k + 1) X.A) (hb : Binds X.K fd ps ds) (hd : Dfs T X dds dvs ds) (hlen : dds.length + 1 = ps.length := by rfl) (hn : T.nm cn = x := by rfl)
    (hg : Gl X x := by rfl) (hdb : (x == ("__debug__" : Str)) = false := by decide) :
    PE X (.Call (.Name x p) [] [] pos) (tE T X (callN P n) W (.mk cn fi .nil dds)) := by
  subst hn
  refine ⟨fun pins s σ H Q I q => ?_⟩
  obtain ⟨io, st, fr, R, S, q⟩ := q
  simp only [evE, evEs, Out.bind] at q
  refine wpAny_Call_Name_kw (ld_glob I hg F.mc ?_ hdb)
  have l2 : dds.length = ds.length := by rw [RVs.length (hd.2 H io), hd.1.length]
  refine PySem.W.callWith_K0 I.kIn F.km.kp (mk_run (us := []) (us2 := .ref (s.heap.objs.size + 1) :: ds) (vs2 := .ref (s.heap.objs.size + 1) :: dvs) F tk hr I (fun s' hk => ?_) (.cons rfl hd.1) (mk_sp F.mc I R (fun H' io' k' p' rx => RVs.cons rx (hd.2 _ _)) q))
  exact hb s' [.ref (s.heap.objs.size + 1)] hk (by simp [← l2]; omega)
/-- C(.., k = v, ..) -/
theorem e_mkk {j : Nat} {g : List Value → List Value → List Value} {gV : List V → List V → List V} {sel : List D → List D → List D} (F : MkF T X P n k cn fi C f fd ps) (tk : Takes X W) (hr : Room (k + 1) X.A) (hb : KBn X.K fd ps (j + 1) ks g gV) (hs : Sel T X (j + 1) ks.length sel gV)
    (ha : PA X (e :: es) (tA T X (callN P n) W cs)) (hkw : PK X kws (tA T X (callN P n) W zs)) (hlen : lenE cs = j := by rfl) (hlenk : lenE zs = ks.length := by rfl) (hn : T.nm cn = x := by rfl)
    (hall : (backToKw pos (keywordEach kws X.env)).all (·.1.isSome) = true := by rfl) (hks : (backToKw pos (keywordEach kws X.env)).filterMap (·.1) = ks := by rfl)
    (hg : Gl X x := by rfl) (hdb : (x == ("__debug__" : Str)) = false := by decide) (he : starEach (e :: es) X.env = (false, eval e X.env) :: starEach es X.env := by rfl)
    (hpl : ((backTo pos (starEach (e :: es) X.env)).any (·.1) || (backToKw pos (keywordEach kws X.env)).any (·.1.isNone)) = false := by rfl) :
    PE X (.Call (.Name x p) (e :: es) kws pos) (tE T X (callN P n) W (.mkk cn fi cs zs sel)) := by
  subst hn
  refine ⟨fun pins s σ H Q I q => ?_⟩
  obtain ⟨io, st, fr, R, S, q⟩ := q
  simp only [evE] at q
  refine wpAny_Call_Name_kw (ld_glob I hg F.mc ?_ hdb)
  refine PySem.W.callWith_KW (h₀ := X.base) I.ok.mod.kin F.km.kp hall (thn (ha.run pos pins s σ H (fun vs H1 => vs.length = j ∧ At T X.K X.mg H1 σ fun io1 st1 fr1 => ∃ as, RVs T X.K X.mg H1 io1 as vs ∧ OG T X.K X.mg (RV T X.K X.mg) W σ H1 io1 Q ((evEs (callN P n) zs fr1 st1).bind fun bs s2 => (callN P n fi (sel (.ref s2.length :: as) bs) (s2 ++ [.ins cn []])).bind fun r s3 => if r.isN = true then .ok (.ref s2.length) s3 else .bad)) I ⟨io, st, fr, R, S, ?_⟩) fun us s1 hx => ?_) hpl he
  · refine OG.bnde q fun as s1 io' H' vs eA p' k' r' rv q' => ?_
    exact ⟨by rw [← RVs.length rv, evEs_len eA]; exact hlen, io', s1, fr, r', RS.mono k' p' S, as, rv, q'⟩
  · obtain ⟨vs, H1, I1, r, l1, io1, st1, fr1, R1, S1, as, ras, q1⟩ := hx
    refine thn (hkw.run pos pins s1 σ H1 (fun bs H2 => bs.length = ks.length ∧ ∃ io2 st2 bd, Rep T X.K X.mg H2 io2 st2 ∧ RVs T X.K X.mg H2 io2 as vs ∧ RVs T X.K X.mg H2 io2 bd bs ∧ OG T X.K X.mg (RV T X.K X.mg) W σ H2 io2 Q ((callN P n fi (sel (.ref st2.length :: as) bd) (st2 ++ [.ins cn []])).bind fun r s3 => if r.isN = true then .ok (.ref st2.length) s3 else .bad)) I1 ⟨io1, st1, fr1, R1, S1, ?_⟩) fun ws s2 hz => ?_
    · refine OG.bnde q1 fun bs s2 io' H' us' eB p' k' r' rv q' => ?_
      exact ⟨by rw [← RVs.length rv, evEs_len eB]; exact hlenk, io', s2, bs, r', RVs.mono k' p' _ _ ras, rv, q'⟩
    · obtain ⟨bs, H2, I2, rz, l2, io2, st2, bd, R2, ra2, rb2, q2⟩ := hz
      refine ⟨I2.kIn, ?_⟩
      rw [hks]
      have r1 : Vals (V.ref (s2.heap.objs.size + 1) :: vs) (Value.ref (s2.heap.objs.size + 1) :: us) := .cons rfl r
      refine mk_run (us2 := g (.ref (s2.heap.objs.size + 1) :: us) ws) (vs2 := gV (.ref (s2.heap.objs.size + 1) :: vs) bs) F tk hr I2 (fun s' hk => ?_) (hb.rel r1 rz) (mk_sp F.mc I2 R2 (fun H' io' k' p' rx => hs _ _ _ _ _ _ (RVs.cons rx (RVs.mono k' p' _ _ ra2)) (RVs.mono k' p' _ _ rb2) (by simp [l1]) l2) q2)
      exact hb.to s' (.ref (s2.heap.objs.size + 1) :: us) ws hk (by simp [← r.length, l1]) (by rw [← rz.length, l2])
/-- C(k = v, ..) -/
theorem e_mkk0 {g : List Value → List Value → List Value} {gV : List V → List V → List V} {sel : List D → List D → List D} (F : MkF T X P n k cn fi C f fd ps) (tk : Takes X W) (hr : Room (k + 1) X.A) (hb : KBn X.K fd ps 1 ks g gV) (hs : Sel T X 1 ks.length sel gV)
    (hkw : PK X kws (tA T X (callN P n) W zs)) (hlenk : lenE zs = ks.length := by rfl) (hn : T.nm cn = x := by rfl)
    (hall : (backToKw pos (keywordEach kws X.env)).all (·.1.isSome) = true := by rfl) (hks : (backToKw pos (keywordEach kws X.env)).filterMap (·.1) = ks := by rfl)
    (hg : Gl X x := by rfl) (hdb : (x == ("__debug__" : Str)) = false := by decide)
    (hpl : ((backTo pos (starEach [] X.env)).any (·.1) || (backToKw pos (keywordEach kws X.env)).any (·.1.isNone)) = false := by rfl) :
    PE X (.Call (.Name x p) [] kws pos) (tE T X (callN P n) W (.mkk cn fi .nil zs sel)) := by
  subst hn
  refine ⟨fun pins s σ H Q I q => ?_⟩
  obtain ⟨io, st, fr, R, S, q⟩ := q
  simp only [evE, evEs, bind_bind] at q
  refine wpAny_Call_Name_kw (ld_glob I hg F.mc ?_ hdb)
  refine PySem.W.callWith_KW0 (h₀ := X.base) I.ok.mod.kin F.km.kp hall ?_ hpl
  have q : OG T X.K X.mg (RV T X.K X.mg) W σ H io Q ((evEs (callN P n) zs fr st).bind fun bs s2 => (callN P n fi (sel [.ref s2.length] bs) (s2 ++ [.ins cn []])).bind fun r s3 => if r.isN = true then .ok (.ref s2.length) s3 else .bad) := q
  refine thn (hkw.run pos pins s σ H (fun bs H2 => bs.length = ks.length ∧ ∃ io2 st2 bd, Rep T X.K X.mg H2 io2 st2 ∧ RVs T X.K X.mg H2 io2 bd bs ∧ OG T X.K X.mg (RV T X.K X.mg) W σ H2 io2 Q ((callN P n fi (sel [.ref st2.length] bd) (st2 ++ [.ins cn []])).bind fun r s3 => if r.isN = true then .ok (.ref st2.length) s3 else .bad)) I ⟨io, st, fr, R, S, ?_⟩) fun ws s2 hz => ?_
  · refine OG.bnde q fun bs s2 io' H' us' eB p' k' r' rv q' => ?_
    exact ⟨by rw [← RVs.length rv, evEs_len eB]; exact hlenk, io', s2, bs, r', rv, q'⟩
  · obtain ⟨bs, H2, I2, rz, l2, io2, st2, bd, R2, rb2, q2⟩ := hz
    refine ⟨I2.kIn, ?_⟩
    rw [hks]
    have r1 : Vals [V.ref (s2.heap.objs.size + 1)] [Value.ref (s2.heap.objs.size + 1)] := .cons rfl .nil
    refine mk_run (us := []) (us2 := g [.ref (s2.heap.objs.size + 1)] ws) (vs2 := gV [.ref (s2.heap.objs.size + 1)] bs) F tk hr I2 (fun s' hk => ?_) (hb.rel r1 rz) (mk_sp F.mc I2 R2 (fun H' io' k' p' rx => hs _ _ _ _ _ _ (RVs.cons rx (ds := []) (vs := []) rfl) (RVs.mono k' p' _ _ rb2) rfl l2) q2)
    exact hb.to s' [.ref (s2.heap.objs.size + 1)] ws hk rfl (by rw [← rz.length, l2])
/-- keywords' values -/
theorem k_nil : PK X [] (tA T X (callN P n) W .nil) := by
  refine ⟨fun pos pins s σ H Q I q => ?_⟩
  obtain ⟨io, st, fr, R, S, q⟩ := q
  exact pk_nil.run pos pins s σ H Q I (q io H [] (List.prefix_refl _) Kp.refl R rfl)
theorem k_cons {kn : Option Str} {kpos : Pos} {c : Ex} (ha : PE X e (tE T X (callN P n) W c)) (hr : PK X kws (tA T X (callN P n) W cs)) : PK X (⟨kn, e, kpos⟩ :: kws) (tA T X (callN P n) W (.cons c cs)) := by
  refine ⟨fun pos pins s σ H Q I q => (pk_cons ha hr).run pos pins s σ H Q I ?_⟩
  obtain ⟨io, st, fr, R, S, q⟩ := q
  simp only [evEs] at q
  refine ⟨io, st, fr, R, S, OG.bnd q fun a st1 io1 H1 b p1 k1 R1 r1 q1 => ?_⟩
  refine ⟨io1, st1, fr, R1, RS.mono k1 p1 S, OG.bnd q1 fun as st2 io2 H2 bs p2 k2 R2 r2 q2 => ?_⟩
  exact q2 io2 H2 (b :: bs) (List.prefix_refl _) Kp.refl R2 ⟨b, bs, rfl, RV.mono k2 p2 _ _ r1, r2⟩
end
end Mi

/-! Built-ins, items, slices. -/
namespace Mi
open PySem L2 PyProof.Rows

section
variable (T : Nm) (X : Cx)
/-- a built-in by its values -/
def rP (p : Pr) : List V → Hp → VK → Prop := fun vs H Q => ∃ io st ds, Rep T X.K X.mg H io st ∧ RVs T X.K X.mg H io ds vs ∧ OV T X H io Q (prim p ds st)
def rM (p : Pr) : V → List V → Hp → VK → Prop := fun x vs H Q => rP T X p (x :: vs) H Q
def rI (f : D → D → Sto → Option (D × Sto)) : R2 := fun x y H Q => ∃ io st a b, Rep T X.K X.mg H io st ∧ RV T X.K X.mg H io a x ∧ RV T X.K X.mg H io b y ∧ OV T X H io Q (f a b st)
def rS : V → Option Int → Option Int → Hp → VK → Prop := fun x lo hi H Q => ∃ io st d, Rep T X.K X.mg H io st ∧ RV T X.K X.mg H io d x ∧ OV T X H io Q (slcD d lo hi st)
end
section
variable {T : Nm} {X : Cx} {P : Pg} {n : Nat} {W : WX} {cf : CallF}
variable {x nm : Str} {p pos apos p2 : Pos} {e o a b : Expr} {es : List Expr} {cs : Exs} {co ca cb cc : Ex} {q : Pr} {id Ty : String}
/-! ### calls of built-ins -/
theorem e_pr (hc : CallR X (.builtin id) (rP T X q)) (hm : X.mg x = none) (ha : PA X (e :: es) (tA T X cf W cs)) (hv : bootBuiltins x = some (.builtin id) := by decide +kernel) (hg : Gl X x := by rfl) (hn : x ≠ "__name__" := by decide) (hdb : (x == ("__debug__" : Str)) = false := by decide)
    (he : starEach (e :: es) X.env = (false, eval e X.env) :: starEach es X.env := by rfl) (hpl : (backTo pos (starEach es X.env)).any (·.1) = false := by rfl) : PE X (.Call (.Name x p) (e :: es) [] pos) (tE T X cf W (.pr q cs)) := by
  refine PE.imp (pe_callB hc hg hm hv ha hn hdb he hpl) fun σ H Q h => ?_
  obtain ⟨io, st, fr, R, S, h⟩ := h
  simp only [evE] at h
  exact ⟨io, st, fr, R, S, OG.bnd h fun ds st1 io1 H1 vs p1 k1 R1 r1 q1 => ⟨io1, st1, ds, R1, r1, OG.of q1⟩⟩
theorem e_ty (hc : CallR X (.type Ty) (rP T X q)) (hm : X.mg x = none) (ha : PA X (e :: es) (tA T X cf W cs)) (hv : bootBuiltins x = some (.type Ty) := by decide +kernel) (hg : Gl X x := by rfl) (hn : x ≠ "__name__" := by decide) (hdb : (x == ("__debug__" : Str)) = false := by decide)
    (he : starEach (e :: es) X.env = (false, eval e X.env) :: starEach es X.env := by rfl) (hpl : (backTo pos (starEach es X.env)).any (·.1) = false := by rfl) : PE X (.Call (.Name x p) (e :: es) [] pos) (tE T X cf W (.pr q cs)) := by
  refine PE.imp (pe_callTy hc hg hm hv ha hn hdb he hpl) fun σ H Q h => ?_
  obtain ⟨io, st, fr, R, S, h⟩ := h
  simp only [evE] at h
  exact ⟨io, st, fr, R, S, OG.bnd h fun ds st1 io1 H1 vs p1 k1 R1 r1 q1 => ⟨io1, st1, ds, R1, r1, OG.of q1⟩⟩
/-! ### methods of built-ins -/
def Kd.kt : Kd → String
  | .lst => "list"
  | .dic => "dict"
  | .str => "str"
theorem kind_ok {K : PySem.W.Frag} {mg : Str → Option Value} {H : Hp} {io : List Addr} {st : Sto} {k : Kd} {d : D} {v : V} (R : Rep T K mg H io st) (r : RV T K mg H io d v) (h : kindD k d st = true) : tyV K k.kt v H := by
  cases k with
  | lst =>
    cases d with
    | ref i =>
      obtain ⟨a, ha, rfl⟩ := r
      simp only [kindD] at h
      cases e : isL st i with
      | none => rw [e] at h; cases h
      | some l =>
        obtain ⟨vs, hs, _⟩ := R.isL ha e
        exact .inl ⟨rfl, vs, hs⟩
    | _ => cases h
  | dic =>
    cases d with
    | ref i =>
      obtain ⟨a, ha, rfl⟩ := r
      simp only [kindD] at h
      split at h
      · rename_i l e
        obtain ⟨ho, h1, vs, rfl, _⟩ := R.ob i a _ ha e
        exact .inr (.inr (.inl ⟨rfl, .inl ⟨vs, h1⟩⟩))
      · cases h
    | _ => cases h
  | str =>
    cases d with
    | str z => rw [show v = _ from r]; exact (rfl : "str" = "str")
    | _ => cases h
theorem e_bm {k : Kd} (pa : PlainAttrs k.kt) (slot : Slot k.kt nm id) (hty : typeOf (.builtin id) = pure (.type "method_descriptor")) (hm : MtR X id (rM T X q)) (ho : PE X o (tE T X cf W co)) (ha : PA X (e :: es) (tA T X cf W cs))
    (hbase : attributeBase o nm X.env (eval o X.env) = eval o X.env := by rfl)
    (hfew : ((backTo pos (starEach (e :: es) X.env)).all (fun x => !x.1) && (backToKw pos (keywordEach [] X.env)).all (fun x => x.1.isSome)
      && decide ((e :: es).length + ([] : List Keyword).length + (if ([] : List Keyword).isEmpty then 0 else 1) < 30)) = true := by rfl)
    (hline : (apos.endLine == pos.line) = true := by rfl) (hs : starEach (e :: es) X.env = (false, eval e X.env) :: starEach es X.env := by rfl) (hplain : (backTo pos (starEach es X.env)).any (·.1) = false := by rfl) :
    PE X (.Call (.Attribute o nm apos) (e :: es) [] pos) (tE T X cf W (.bm k q co cs)) := by
  refine PE.imp (pe_bm pa slot hty hm ho ha hbase hfew hline hs hplain) fun σ H Q h => ?_
  obtain ⟨io, st, fr, R, S, h⟩ := h
  simp only [evE] at h
  refine ⟨io, st, fr, R, S, OG.bnd h fun d st1 io1 H1 v p1 k1 R1 r1 q1 => ?_⟩
  by_cases hk : kindD k d st1 = true
  · rw [if_pos hk] at q1
    refine ⟨kind_ok R1 r1 hk, io1, st1, fr, R1, RS.mono k1 p1 S, OG.bnd q1 fun ds st2 io2 H2 vs p2 k2 R2 r2 q2 => ?_⟩
    exact ⟨io2, st2, d :: ds, R2, RVs.cons (RV.mono k2 p2 _ _ r1) r2, OG.of q2⟩
  · rw [if_neg hk] at q1; exact q1.elim
theorem e_bm0 {k : Kd} (pa : PlainAttrs k.kt) (slot : Slot k.kt nm id) (hty : typeOf (.builtin id) = pure (.type "method_descriptor")) (hm : MtR X id (rM T X q)) (ho : PE X o (tE T X cf W co))
    (hbase : attributeBase o nm X.env (eval o X.env) = eval o X.env := by rfl) (hline : (apos.endLine == pos.line) = true := by rfl) :
    PE X (.Call (.Attribute o nm apos) [] [] pos) (tE T X cf W (.bm k q co .nil)) := by
  refine PE.imp (pe_bm0 pa slot hty hm ho hbase hline) fun σ H Q h => ?_
  obtain ⟨io, st, fr, R, S, h⟩ := h
  simp only [evE, evEs, Out.bind] at h
  have h : OG T X.K X.mg (RV T X.K X.mg) W σ H io Q ((evE cf co fr st).bind fun x s1 => if kindD k x s1 = true then Out.of (prim q [x] s1) else .bad) := h
  refine ⟨io, st, fr, R, S, OG.bnd h fun d st1 io1 H1 v p1 k1 R1 r1 q1 => ?_⟩
  by_cases hk : kindD k d st1 = true
  · rw [if_pos hk] at q1
    exact ⟨kind_ok R1 r1 hk, io1, st1, [d], R1, RVs.cons r1 (ds := []) (vs := []) rfl, OG.of q1⟩
  · rw [if_neg hk] at q1; exact q1.elim
/-! ### items -/
theorem e_ix (hr : IxR X (rI T X idxD)) (ha : PE X a (tE T X cf W ca)) (hb : PE X b (tE T X cf W cb)) (hs : PlainIx b := by exact fun _ _ => rfl) : PE X (.Subscript a b pos) (tE T X cf W (.ix ca cb)) := by
  refine PE.imp (pe_ix hr ha hb hs) fun σ H Q h => ?_
  obtain ⟨io, st, fr, R, S, h⟩ := h
  simp only [evE] at h
  refine ⟨io, st, fr, R, S, OG.bnd h fun x st1 io1 H1 v1 p1 k1 R1 r1 q1 => ?_⟩
  refine ⟨io1, st1, fr, R1, RS.mono k1 p1 S, OG.bnd q1 fun y st2 io2 H2 v2 p2 k2 R2 r2 q2 => ?_⟩
  exact ⟨io2, st2, x, y, R2, RV.mono k2 p2 _ _ r1, r2, OG.of q2⟩
theorem RVs.atI {K : PySem.W.Frag} {mg : Str → Option Value} {H : Hp} {io : List Addr} {ds : List D} {vs : List V} {i : Int} {d : D} (r : RVs T K mg H io ds vs) (e : L2.atI ds i = some d) : ∃ v, L2.atI vs i = some v ∧ RV T K mg H io d v := by
  unfold L2.atI at e ⊢
  rw [← RVs.length r]
  cases h : ixN ds.length i with
  | none => rw [h] at e; cases e
  | some j =>
    rw [h] at e
    obtain ⟨v, e2, rv⟩ := RVs.get' r (show ds[j]? = some d from e)
    exact ⟨v, e2, rv⟩
theorem ix_all (hu : X.A.units + 65 < cLine) : IxR X (rI T X idxD) := by
  intro value slice pins s σ H x y v u Q I rx ry h hs
  obtain ⟨io, st, a, b, R, ra, rb, h⟩ := h
  cases a with
  | tup l =>
    obtain ⟨p, vs, rfl, sp, rl⟩ := ra
    cases b with
    | int i =>
      simp only [idxD] at h
      cases e : L2.atI l i with
      | none => simp [e, OV] at h
      | some d =>
        simp only [e] at h
        obtain ⟨w, e2, rw'⟩ := RVs.atI rl e
        exact ix_tup value slice pins s σ H _ _ v u Q I rx ry ⟨p, vs, i, w, rfl, rb, sp, e2, h io H w (List.prefix_refl _) Kp.refl R rw'⟩ hs
    | _ => exact h.elim
  | str z =>
    cases b with
    | int i =>
      simp only [idxD] at h
      by_cases hz : z.length ≤ 100000
      · rw [if_pos hz] at h
        cases e : L2.atI z.cps.toList i with
        | none => simp [e, OV] at h
        | some c =>
          simp only [e] at h
          have ex : x = V.str z := ra
          have ey : y = V.int i := rb
          exact ix_str value slice pins s σ H x y v u Q I rx ry ⟨z, i, c, ex, ey, lenOk hz, e, h io H _ (List.prefix_refl _) Kp.refl R rfl⟩ hs
      · rw [if_neg hz] at h; exact h.elim
    | _ => exact h.elim
  | ref n =>
    obtain ⟨p, hp, rfl⟩ := ra
    simp only [idxD] at h
    cases e0 : isL st n with
    | some l =>
      rw [e0] at h
      obtain ⟨vs, sp, rl⟩ := R.isL hp e0
      cases b with
      | int i =>
        cases e : L2.atI l i with
        | none => simp [e, OV] at h
        | some d =>
          simp only [e] at h
          obtain ⟨w, e2, rw'⟩ := RVs.atI rl e
          exact ix_list value slice pins s σ H _ _ v u Q I rx ry ⟨p, vs, i, w, rfl, rb, sp, e2, h io H w (List.prefix_refl _) Kp.refl R rw'⟩ hs
      | _ => exact h.elim
    | none =>
      rw [e0] at h
      cases e1 : isK st n with
      | none => simp [e1, OV] at h
      | some l =>
        cases e2 : keyOf b with
        | none => simp [e1, e2, OV] at h
        | some k =>
          simp only [e1, e2] at h
          cases e3 : valD l k with
          | none => simp [e3, OV] at h
          | some d =>
            simp only [e3] at h
            obtain ⟨kvs, hr, rf⟩ := R.isK hp e1
            obtain ⟨w, e4, rw'⟩ := (RF.val (k := k) rf).1 d e3
            have g : DGet H p y (some w) := .inl ⟨kvs, k, hr, RV.key rb e2, e4.symm⟩
            obtain rfl : v = Value.ref p := rx
            exact tail_any (dict_typeIs I g) PySem.F.slot_dict_getitem.lookup (d_getItem (by omega) I g ry fun w' s' I' r' => ⟨w, H, I', r', h io H w (List.prefix_refl _) Kp.refl R rw'⟩) hs
  | _ => exact h.elim
/-! ### slices -/
theorem RVs.take {K : PySem.W.Frag} {mg : Str → Option Value} {H : Hp} {io : List Addr} : ∀ (j : Nat) {ds : List D} {vs : List V}, RVs T K mg H io ds vs → RVs T K mg H io (ds.take j) (vs.take j)
  | 0, _, _, _ => by simp only [List.take_zero]; rfl
  | j + 1, [], vs, h => by rw [show vs = [] from h]; rfl
  | j + 1, d :: ds, _, h => by
    obtain ⟨v, r, rfl, h1, h2⟩ := h
    exact ⟨v, _, rfl, h1, RVs.take j h2⟩
theorem RVs.drop {K : PySem.W.Frag} {mg : Str → Option Value} {H : Hp} {io : List Addr} : ∀ (j : Nat) {ds : List D} {vs : List V}, RVs T K mg H io ds vs → RVs T K mg H io (ds.drop j) (vs.drop j)
  | 0, _, _, h => h
  | j + 1, [], vs, h => by rw [show vs = [] from h]; rfl
  | j + 1, d :: ds, _, h => by
    obtain ⟨v, r, rfl, h1, h2⟩ := h
    exact RVs.drop j h2
theorem RVs.cut {K : PySem.W.Frag} {mg : Str → Option Value} {H : Hp} {io : List Addr} {ds : List D} {vs : List V} {lo hi : Option Int} (r : RVs T K mg H io ds vs) : RVs T K mg H io (cutL ds lo hi) (cutV vs lo hi) := by
  unfold cutL cutV
  rw [← RVs.length r]
  exact RVs.take _ (RVs.drop _ r)
theorem sl_all : SlR X (rS T X) := by
  intro pins s σ H x v vl vu lo hi sl Q I rx hs pl pu h
  obtain ⟨io, st, d, R, rd, h⟩ := h
  cases d with
  | tup l =>
    obtain ⟨p, vs, rfl, sp, rl⟩ := rd
    have hc : RVs T X.K X.mg H io (cutL l lo hi) (cutV vs lo hi) := RVs.cut rl
    refine sl_tupA pins s σ H _ v vl vu lo hi sl Q I rx hs pl pu ⟨p, vs, rfl, sp, fun hw => ?_, fun _ q hq => ?_⟩
    · have ew : cutV vs lo hi = vs := by
        unfold cutV
        rw [hw.1, hw.2]; simp
      rw [ew] at hc
      exact h io H _ (List.prefix_refl _) Kp.refl R ⟨p, vs, rfl, sp, hc⟩
    · obtain ⟨R2, k2⟩ := R.other (o := .tup (cutV vs lo hi)) hq
      exact h io _ _ (List.prefix_refl _) k2 R2 ⟨q, _, rfl, SqT.of upd_same, RVs.mono k2 (List.prefix_refl _) _ _ hc⟩
  | str z =>
    simp only [slcD] at h
    by_cases hz : z.length ≤ 100000
    · rw [if_pos hz] at h
      have ex : x = V.str z := rd
      exact sl_str pins s σ H x v vl vu lo hi sl Q I rx hs pl pu ⟨z, ex, lenOk hz, h io H _ (List.prefix_refl _) Kp.refl R rfl⟩
    · rw [if_neg hz] at h; exact h.elim
  | ref n =>
    obtain ⟨p, hp, rfl⟩ := rd
    simp only [slcD] at h
    cases e0 : isL st n with
    | none => rw [e0] at h; exact h.elim
    | some l =>
      rw [e0] at h
      obtain ⟨vs, sp, rl⟩ := R.isL hp e0
      refine sl_list pins s σ H _ v vl vu lo hi sl Q I rx hs pl pu ⟨p, vs, rfl, sp, fun q hq => ?_⟩
      obtain ⟨R2, p2, k2⟩ := R.new (o := .lst (cutL l lo hi)) (ho := .lst (cutV vs lo hi)) hq ⟨_, rfl, RVs.cut rl⟩
      exact h _ _ _ p2 k2 R2 ⟨q, by rw [← R.len, List.getElem?_concat_length], rfl⟩
  | kl l =>
    obtain ⟨p, vs, rfl, sp, rl⟩ := rd
    refine sl_list pins s σ H _ v vl vu lo hi sl Q I rx hs pl pu ⟨p, vs, rfl, .inr sp, fun q hq => ?_⟩
    obtain ⟨R2, p2, k2⟩ := R.new (o := .lst (cutL l lo hi)) (ho := .lst (cutV vs lo hi)) hq ⟨_, rfl, RVs.cut rl⟩
    exact h _ _ _ p2 k2 R2 ⟨q, by rw [← R.len, List.getElem?_concat_length], rfl⟩
  | _ => exact h.elim
theorem e_sl0 (ha : PE X a (tE T X cf W ca)) (hb : PE X b (tE T X cf W cb)) : PE X (.Subscript a (.Slice none (some b) none p2) pos) (tE T X cf W (.sl0 ca cb)) := by
  refine PE.imp (pe_slice (sl_all (T := T)) ha po_none (po_some hb)) fun σ H Q h => ?_
  obtain ⟨io, st, fr, R, S, h⟩ := h
  simp only [evE] at h
  refine ⟨io, st, fr, R, S, OG.bnd h fun x st1 io1 H1 v1 p1 k1 R1 r1 q1 => ?_⟩
  refine ⟨io1, st1, fr, R1, RS.mono k1 p1 S, OG.bnd q1 fun y st2 io2 H2 v2 p2 k2 R2 r2 q2 => ?_⟩
  cases y with
  | int i => exact ⟨i, r2, io2, st2, x, R2, RV.mono k2 p2 _ _ r1, OG.of q2⟩
  | _ => exact q2.elim
theorem e_sl1 (ha : PE X a (tE T X cf W ca)) (hb : PE X b (tE T X cf W cb)) : PE X (.Subscript a (.Slice (some b) none none p2) pos) (tE T X cf W (.sl1 ca cb)) := by
  refine PE.imp (pe_slice (sl_all (T := T)) ha (po_some hb) po_none) fun σ H Q h => ?_
  obtain ⟨io, st, fr, R, S, h⟩ := h
  simp only [evE] at h
  refine ⟨io, st, fr, R, S, OG.bnd h fun x st1 io1 H1 v1 p1 k1 R1 r1 q1 => ?_⟩
  refine ⟨io1, st1, fr, R1, RS.mono k1 p1 S, OG.bnd q1 fun y st2 io2 H2 v2 p2 k2 R2 r2 q2 => ?_⟩
  cases y with
  | int i => exact ⟨i, r2, io2, st2, x, R2, RV.mono k2 p2 _ _ r1, OG.of q2⟩
  | _ => exact q2.elim
theorem e_sl2 {c : Expr} (ha : PE X a (tE T X cf W ca)) (hb : PE X b (tE T X cf W cb)) (hc : PE X c (tE T X cf W cc)) : PE X (.Subscript a (.Slice (some b) (some c) none p2) pos) (tE T X cf W (.sl2 ca cb cc)) := by
  refine PE.imp (pe_slice (sl_all (T := T)) ha (po_some hb) (po_some hc)) fun σ H Q h => ?_
  obtain ⟨io, st, fr, R, S, h⟩ := h
  simp only [evE] at h
  refine ⟨io, st, fr, R, S, OG.bnd h fun x st1 io1 H1 v1 p1 k1 R1 r1 q1 => ?_⟩
  refine ⟨io1, st1, fr, R1, RS.mono k1 p1 S, OG.bnd q1 fun y st2 io2 H2 v2 p2 k2 R2 r2 q2 => ?_⟩
  cases y with
  | int i =>
    refine ⟨i, r2, io2, st2, fr, R2, RS.mono (k1.trans k2) (p1.trans p2) S, OG.bnd q2 fun z st3 io3 H3 v3 p3 k3 R3 r3 q3 => ?_⟩
    cases z with
    | int j => exact ⟨j, r3, io3, st3, x, R3, RV.mono (k2.trans k3) (p2.trans p3) _ _ r1, OG.of q3⟩
    | _ => exact q3.elim
  | _ => exact q2.elim
end
end Mi

/-! Statements. -/
namespace Mi
open PySem L2 PyProof.Rows

section
variable {T : Nm} {X : Cx} {P : Pg} {n : Nat} {W : WX} {cf : CallF}
variable {x nf : Str} {p pos pos' : Pos} {e o : Expr} {cs : Exs} {ce co : Ex} {st : Stmt} {rest : List Stmt} {a b : List Stmt} {s : Sm} {r sa sb : Sms}
/-! ### blocks -/
theorem ss_nil : PSs X [] (tSs T X cf W P .nil) := PSs.imp pss_nil fun D σ H ⟨io, s0, fr, R, S, q⟩ => q io H σ (List.prefix_refl _) Kp.refl R S
theorem OF.seq {H : Hp} {io : List Addr} {D : Ends} {f : Fl} {k : Fr → Sto → Fl} {Nx : L2.St → Hp → Prop}
    (h : OF T X.K X.mg W H io D (match f with | .nx e1 s1 => k e1 s1 | y => y))
    (i : ∀ (e1 : Fr) (s1 : Sto) (io1 : List Addr) (H1 : Hp) (σ1 : L2.St), io <+: io1 → Kp H H1 → Rep T X.K X.mg H1 io1 s1 → RS T X.K X.mg H1 io1 e1 σ1 → OF T X.K X.mg W H1 io1 D (k e1 s1) → Nx σ1 H1) : OF T X.K X.mg W H io { D with nx := Nx } f := by
  cases f with
  | nx e1 s1 => exact fun io' H' σ' p' k' r z => i e1 s1 io' H' σ' p' k' r z (OF.mono p' k' h)
  | bk e1 s1 => exact h
  | ct e1 s1 => exact h
  | rt d s1 => exact h
  | exc x e1 s1 => exact h
  | bad => exact h
theorem ss_cons (h1 : PS X st (tS T X cf W P s)) (h2 : PSs X rest (tSs T X cf W P r)) : PSs X (st :: rest) (tSs T X cf W P (.cons s r)) := by
  refine PSs.imp (pss_cons h1 h2) fun D σ H ⟨io, s0, fr, R, S, q⟩ => ?_
  simp only [evSs] at q
  exact ⟨io, s0, fr, R, S, OF.seq q fun e1 s1 io1 H1 σ1 p1 k1 R1 S1 q1 => ⟨io1, s1, e1, R1, S1, q1⟩⟩
/-! ### plain statements -/
theorem s_pass : PS X (.Pass pos) (tS T X cf W P .pass) := PS.imp ps_pass fun D σ H ⟨io, s0, fr, R, S, q⟩ => q io H σ (List.prefix_refl _) Kp.refl R S
theorem s_brk : PS X (.Break pos) (tS T X cf W P .brk) := PS.imp ps_break fun D σ H ⟨io, s0, fr, R, S, q⟩ => q io H σ (List.prefix_refl _) Kp.refl R S
theorem s_cnt : PS X (.Continue pos) (tS T X cf W P .cnt) := PS.imp ps_continue fun D σ H ⟨io, s0, fr, R, S, q⟩ => q io H σ (List.prefix_refl _) Kp.refl R S
theorem s_doc {y : Str} {j : Nat} : PS X (.Expr (.Constant (.str y) j pos) pos') (tS T X cf W P .pass) := PS.imp ps_doc fun D σ H ⟨io, s0, fr, R, S, q⟩ => q io H σ (List.prefix_refl _) Kp.refl R S
theorem s_ex (he : PE X e (tE T X cf W ce)) (hs : swapsWith e none pos.line X.env = pure false := by rfl) : PS X (.Expr e pos) (tS T X cf W P (.ex ce)) := by
  refine PS.imp (ps_expr he hs) fun D σ H ⟨io, s0, fr, R, S, q⟩ => ?_
  simp only [evS] at q
  exact ⟨io, s0, fr, R, S, OF.exq S q fun d s1 io1 H1 v p1 k1 R1 r1 q1 => q1 io1 H1 σ (List.prefix_refl _) Kp.refl R1 (RS.mono k1 p1 S)⟩
theorem s_rt (he : PE X e (tE T X cf W ce)) : PS X (.Return (some e) pos) (tS T X cf W P (.rt ce)) := by
  refine PS.imp (ps_ret he) fun D σ H ⟨io, s0, fr, R, S, q⟩ => ?_
  simp only [evS] at q
  exact ⟨io, s0, fr, R, S, OF.exq S q fun d s1 io1 H1 v p1 k1 R1 r1 q1 => q1 io1 H1 v (List.prefix_refl _) Kp.refl R1 r1⟩
theorem s_rtN : PS X (.Return none pos) (tS T X cf W P (.rt (.lit .non))) := PS.imp ps_retN fun D σ H ⟨io, s0, fr, R, S, q⟩ => q io H .non (List.prefix_refl _) Kp.refl R rfl
theorem s_if {c : Expr} {cc : Ex} (hc : PT X c (tT T X cf W cc)) (ha : PSs X a (tSs T X cf W P sa)) (hb : PSs X b (tSs T X cf W P sb)) : PS X (.If c a b pos) (tS T X cf W P (.iff cc sa sb)) := by
  refine PS.imp (ps_if hc ha hb) fun D σ H ⟨io, s0, fr, R, S, q⟩ => ?_
  simp only [evS] at q
  refine ⟨io, s0, fr, R, S, OF.exq S q fun d s1 io1 H1 v p1 k1 R1 r1 q1 => ?_⟩
  cases r1
  by_cases hd : d = true
  · rw [if_pos hd] at q1 ⊢
    exact ⟨io1, s1, fr, R1, RS.mono k1 p1 S, q1⟩
  · rw [if_neg hd] at q1 ⊢
    exact ⟨io1, s1, fr, R1, RS.mono k1 p1 S, q1⟩
theorem s_set {i : Nat} (hN : X.N.Nodup) (he : PE X e (tE T X cf W ce)) (hi : X.N[i]? = some x := by rfl) (hx : Loc X.env.scope x := by first | exact Or.inl rfl | exact Or.inr rfl) (hs : swapsWith e (some (.Name x pos')) pos.line X.env = pure false := by rfl) (hf : X.fn x = true ∨ X.env.scope.names.lookup x = some .local := by first | exact .inl rfl | exact .inr rfl) :
    PS X (.Assign [.Name x pos'] e pos) (tS T X cf W P (.set i ce)) := by
  refine PS.imp (ps_set hN hi hx he hs hf) fun D σ H ⟨io, s0, fr, R, S, q⟩ => ?_
  simp only [evS] at q
  exact ⟨io, s0, fr, R, S, OF.exq S q fun d s1 io1 H1 v p1 k1 R1 r1 q1 => q1 io1 H1 _ (List.prefix_refl _) Kp.refl R1 (RS.set (RS.mono k1 p1 S) r1)⟩
/-- x op= e, with the plain operator's rule for the in-place one -/
theorem s_aug {i : Nat} {op : Operator} {oo : O2} (hN : X.N.Nodup) (ho : OpR X (inplaceOp op) (rO T X oo)) (he : PE X e (tE T X cf W ce)) (hi : X.N[i]? = some x := by rfl) (hx : Loc X.env.scope x := by first | exact Or.inl rfl | exact Or.inr rfl) (hf : X.fn x = true ∨ X.env.scope.names.lookup x = some .local := by first | exact .inl rfl | exact .inr rfl) :
    PS X (.AugAssign (.Name x pos') op e pos) (tS T X cf W P (.aug i oo ce)) := by
  refine PS.imp (ps_aug (ti := rO T X oo) hN hi hx he ho hf) fun D σ H ⟨io, s0, fr, R, S, q⟩ => ?_
  simp only [evS] at q
  cases e1 : fr[i]? with
  | none => rw [e1] at q; exact q.elim
  | some od =>
    cases od with
    | none => rw [e1] at q; exact q.elim
    | some d =>
      simp only [e1] at q
      obtain ⟨v, hv, rv⟩ := S.2 i d e1
      refine ⟨v, hv, io, s0, fr, R, S, OF.exq S q fun d2 s1 io1 H1 v2 p1 k1 R1 r1 q1 => ?_⟩
      refine ⟨io1, s1, d, d2, R1, RV.mono k1 p1 _ _ rv, r1, ?_⟩
      cases e2 : op2 oo d d2 s1 with
      | none => rw [e2] at q1; exact q1
      | some z =>
        obtain ⟨z, s2⟩ := z
        rw [e2] at q1
        exact fun io' H' v' p' k' R' r' => q1 io' H' _ p' k' R' (RS.set (RS.mono (k1.trans k') (p1.trans p') S) r')
/-! ### o.f = e -/
theorem RF.put {K : PySem.W.Frag} {mg : Str → Option Value} {H : Hp} {io : List Addr} {f : Nat} {d : D} {v : V} (rd : RV T K mg H io d v) : ∀ {fs : List (Nat × D)} {vs : List (Str × V)}, RF T K mg H io T.nm fs vs → RF T K mg H io T.nm (putN f d fs) (putF (T.nm f) v vs)
  | [], vs, h => by
    rw [show vs = [] from h]
    exact ⟨v, [], rfl, rd, rfl⟩
  | (g, d') :: fs, vs, h => by
    obtain ⟨v', r, rfl, h1, h2⟩ := h
    by_cases hg : g = f
    · subst hg
      have e1 : putN g d ((g, d') :: fs) = (g, d) :: fs := by simp [putN]
      have e2 : putF (T.nm g) v ((T.nm g, v') :: r) = (T.nm g, v) :: r := by simp [putF]
      rw [e1, e2]
      exact ⟨v, r, rfl, rd, h2⟩
    · have hn : ¬ T.nm g = T.nm f := fun z => hg (T.inj _ _ z)
      have e1 : putN f d ((g, d') :: fs) = (g, d') :: putN f d fs := by simp [putN, hg]
      have e2 : putF (T.nm f) v ((T.nm g, v') :: r) = (T.nm g, v') :: putF (T.nm f) v r := by simp [putF, hn]
      rw [e1, e2]
      exact ⟨v', _, rfl, h1, RF.put rd h2⟩
theorem RF.length {κ κ' : Type} {g : κ → κ'} {K : PySem.W.Frag} {mg : Str → Option Value} {H : Hp} {io : List Addr} : ∀ {fs : List (κ × D)} {vs : List (κ' × V)}, RF T K mg H io g fs vs → fs.length = vs.length
  | [], vs, h => by rw [show vs = [] from h]; rfl
  | (_, _) :: fs, vs, h => by
    obtain ⟨v', r, rfl, h1, h2⟩ := h
    simp [RF.length h2]
theorem s_fset {c f : Nat} (ho : PE X o (tE T X cf W co)) (he : PE X e (tE T X cf W ce)) (hc : ∀ C, X.mg (T.nm c) = some (.ref C) → Cls X.K C ∧ NoAttr X.K C nf) (hf : T.nm f = nf := by rfl) (hs : swapsWith e (some (.Attribute o nf pos')) pos.line X.env = pure false := by rfl) :
    PS X (.Assign [.Attribute o nf pos'] e pos) (tS T X cf W P (.fset co c f ce)) := by
  subst hf
  refine PS.imp (ps_fld ho he hs) fun D σ H ⟨io, s0, fr, R, S, q⟩ => ?_
  simp only [evS] at q
  refine ⟨io, s0, fr, R, S, OF.exq S q fun d s1 io1 H1 v p1 k1 R1 r1 q1 => ?_⟩
  have S1 := RS.mono k1 p1 S
  refine ⟨io1, s1, fr, R1, S1, OF.exq S1 q1 fun y s2 io2 H2 v2 p2 k2 R2 r2 q2 => ?_⟩
  cases y with
  | ref i =>
    obtain ⟨a, ha, rfl⟩ := r2
    cases e0 : s2[i]? with
    | none => simp only [e0] at q2; exact q2.elim
    | some ob =>
      cases ob with
      | ins c' fs =>
        simp only [e0] at q2
        by_cases hcm : c' = c ∧ fs.length < 900
        · rw [if_pos hcm] at q2
          obtain ⟨ho', h1, C, dx, vs, rfl, hC, rf⟩ := R2.ob i a _ ha e0
          rw [hcm.1] at hC
          obtain ⟨c1, c2⟩ := hc C hC
          refine ⟨a, C, dx, vs, rfl, h1, c1, c2, by rw [← RF.length rf]; omega, ?_⟩
          obtain ⟨R3, k3⟩ := R2.set (o := .ins c' (putN f d fs)) (ho := .ins C dx (putF (T.nm f) v vs)) ha h1 rfl ⟨C, dx, _, rfl, by rw [hcm.1]; exact hC, RF.put (RV.mono k2 p2 _ _ r1) rf⟩
          exact q2 io2 _ σ (List.prefix_refl _) k3 R3 (RS.mono (k2.trans k3) p2 S1)
        · rw [if_neg hcm] at q2; exact q2.elim
      | _ => simp only [e0] at q2; exact q2.elim
  | _ => exact q2.elim
/-! ### targets -/
/-- the slots that a target takes -/
def tgL : Tg → List Nat
  | .n i => [i]
  | .t is => is
theorem wipe_set {i : Nat} {x : Option V} : ∀ {ws : List Nat} {σ : L2.St}, i ∈ ws → wipe (σ.set i x) ws = wipe σ ws
  | w :: ws, σ, h => by
    unfold wipe
    by_cases hi : i ∈ ws
    · rw [wipe_set hi]
    · have hw : i = w := by
        rcases List.mem_cons.mp h with e | e
        · exact e
        · exact absurd e hi
      subst hw
      have key : ∀ (ws : List Nat), i ∉ ws → wipe (σ.set i x) ws = (wipe σ ws).set i x := by
        intro ws
        induction ws with
        | nil => intro _; rfl
        | cons u us ih =>
          intro hu
          unfold wipe
          rw [ih fun z => hu (List.mem_cons_of_mem _ z), List.set_comm _ _ (fun z => hu (by rw [z]; exact List.mem_cons_self ..))]
      rw [key ws hi, List.set_set]
theorem wipe_idem {σ : L2.St} : ∀ {ws us : List Nat}, (∀ i ∈ us, i ∈ ws) → wipe (wipe σ us) ws = wipe σ ws
  | ws, [], _ => rfl
  | ws, u :: us, h => by
    rw [show wipe σ (u :: us) = (wipe σ us).set u none from rfl, wipe_set (h u (List.mem_cons_self ..))]
    exact wipe_idem fun i hi => h i (List.mem_cons_of_mem _ hi)
/-- a target of a loop, at both levels -/
def TgR (T : Nm) (X : Cx) (t : Tg) (g : TG) : Prop := ∀ (v : V) (σ : L2.St) (H : Hp) (io : List Addr) (d : D) (fr f1 : Fr) (Q : L2.St → Hp → Prop), RV T X.K X.mg H io d v → RS T X.K X.mg H io fr σ → asgT t d fr = some f1 →
  (∀ σ1, RS T X.K X.mg H io f1 σ1 → (∀ ws, (∀ i ∈ tgL t, i ∈ ws) → wipe σ1 ws = wipe σ ws) → Q σ1 H) → g v σ H Q
theorem t_name {i : Nat} : TgR T X (.n i) (gName i) := fun v σ H io d fr f1 Q r S e q => by
  cases e
  exact q _ (RS.set S r) fun ws hw => wipe_set (hw i (List.mem_cons_self ..))
theorem gs_names : ∀ (is : List Nat) (gs : TGs) (_ : gs = is.foldr (fun i r => gCons (gName i) r) gNil) (vs : List V) (σ : L2.St) (H : Hp) (io : List Addr) (ds : List D) (fr : Fr) (Q : L2.St → Hp → Prop), RVs T X.K X.mg H io ds vs → RS T X.K X.mg H io fr σ → is.length = ds.length →
    (∀ σ1, RS T X.K X.mg H io (sets fr is ds) σ1 → (∀ ws, (∀ i ∈ is, i ∈ ws) → wipe σ1 ws = wipe σ ws) → Q σ1 H) → gs vs σ H Q := by
  intro is
  induction is with
  | nil =>
    intro gs hg vs σ H io ds fr Q r S hl q
    subst hg
    cases ds with
    | nil => exact ⟨r, q σ S fun _ _ => rfl⟩
    | cons _ _ => cases hl
  | cons i is ih =>
    intro gs hg vs σ H io ds fr Q r S hl q
    subst hg
    cases ds with
    | nil => cases hl
    | cons d ds =>
      obtain ⟨v, vr, rfl, h1, h2⟩ := r
      exact ⟨v, vr, rfl, ih _ rfl vr _ H io ds _ Q h2 (RS.set S h1) (by simpa using hl) fun σ1 S1 hw => q σ1 S1 fun ws hz => (hw ws fun j hj => hz j (List.mem_cons_of_mem _ hj)).trans (wipe_set (hz i (List.mem_cons_self ..)))⟩
theorem t_tup {is : List Nat} : TgR T X (.t is) (gTup X.K is.length (is.foldr (fun i r => gCons (gName i) r) gNil)) := fun v σ H io d fr f1 Q r S e q => by
  cases d with
  | tup ds =>
    simp only [asgT] at e
    by_cases hl : is.length = ds.length
    · rw [if_pos hl] at e
      cases e
      obtain ⟨a, vs, rfl, sp, rl⟩ := r
      exact ⟨a, vs, rfl, sp, by rw [← RVs.length rl, hl], gs_names is _ rfl vs σ H io ds fr Q rl S hl q⟩
    · rw [if_neg hl] at e; cases e
  | _ => cases e
/-- a, b = a tuple -/
theorem s_sets {tg : Expr} {is : List Nat} {g : TG} (ht : TgR T X (.t is) g) (he : PE X e (tE T X cf W ce)) (hg : PG X tg g) (hs : swapsWithSole [tg] e pos.line X.env = pure false := by rfl) (hw : swappedStores [tg] e X.env = pure none := by rfl) (h1 : (assignEach [tg] X.env).map (·.2) = [assign tg X.env] := by rfl) :
    PS X (.Assign [tg] e pos) (tS T X cf W P (.sets is ce)) := by
  refine PS.imp (ps_asg he hg hs hw h1) fun D σ H ⟨io, s0, fr, R, S, q⟩ => ?_
  simp only [evS] at q
  refine ⟨io, s0, fr, R, S, OF.exq S q fun d s1 io1 H1 v p1 k1 R1 r1 q1 => ?_⟩
  cases e1 : asgT (.t is) d fr with
  | none => rw [e1] at q1; exact q1.elim
  | some f1 =>
    rw [e1] at q1
    exact ht v σ H1 io1 d fr f1 D.nx r1 (RS.mono k1 p1 S) e1 fun σ1 S1 _ => q1 io1 H1 σ1 (List.prefix_refl _) Kp.refl R1 S1
/-! ### loops -/
theorem IV.mono {K : PySem.W.Frag} {mg : Str → Option Value} {H H' : Hp} {io io' : List Addr} {v : ItV} {J : L2.It} (k : Kp H H') (p : io <+: io') (h : IV T K mg H io v J) : IV T K mg H' io' v J := by
  cases v with
  | tp l =>
    obtain ⟨a, vs, e, s, r⟩ := h
    exact ⟨a, vs, e, SqT.kp k s, RVs.mono k p _ _ r⟩
  | ls n =>
    obtain ⟨a, e, e'⟩ := h
    exact ⟨a, pre_get p e, e'⟩
  | rg lo n => exact h
  | en n =>
    obtain ⟨a, e, e'⟩ := h
    exact ⟨a, pre_get p e, e'⟩
  | zp n m =>
    obtain ⟨a, b, e1, e2, e'⟩ := h
    exact ⟨a, b, pre_get p e1, pre_get p e2, e'⟩
end
end Mi

/-! What is walked, loops, comprehensions. -/
namespace Mi
open PySem L2 PyProof.Rows

section
variable {T : Nm} {X : Cx} {P : Pg} {n : Nat} {W : WX} {cf : CallF} {K : PySem.W.Frag} {mg : Str → Option Value} {H : Hp} {io : List Addr} {st : Sto}
theorem RVs.none_of {ds : List D} {vs : List V} {i : Nat} (r : RVs T K mg H io ds vs) (e : ds[i]? = none) : vs.length ≤ i := by
  rw [← RVs.length r]
  exact List.getElem?_eq_none_iff.mp e
theorem RV.tup2 {p : Addr} {x y : V} {a b : D} (hp : H p = none) (ra : RV T K mg H io a x) (rb : RV T K mg H io b y) : RV T K mg (upd H p (.tup [x, y])) io (.tup [a, b]) (.ref p) := by
  have k2 : Kp H (upd H p (.tup [x, y])) := Kp.new hp
  exact ⟨p, [x, y], rfl, SqT.of upd_same, RVs.cons (RV.mono k2 (List.prefix_refl _) _ _ ra) (RVs.cons (RV.mono k2 (List.prefix_refl _) _ _ rb) (ds := []) (vs := []) rfl)⟩
theorem zip_get {α β : Type} : ∀ {l : List α} {k : List β} {i : Nat} {p : α × β}, (l.zip k)[i]? = some p → l[i]? = some p.1 ∧ k[i]? = some p.2
  | [], _, i, p, h => by simp at h
  | a :: l, [], i, p, h => by simp at h
  | a :: l, b :: k, 0, p, h => by simp at h; subst h; exact ⟨rfl, rfl⟩
  | a :: l, b :: k, i + 1, p, h => by
    obtain ⟨h1, h2⟩ := zip_get (l := l) (k := k) (i := i) (p := p) (by simpa using h)
    exact ⟨by simpa using h1, by simpa using h2⟩
theorem iv_go {v : ItV} {J : L2.It} {i : Nat} {d : D} (R : Rep T K mg H io st) (h : IV T K mg H io v J) (e : itm v i st = some (some d)) :
    J.go i H ∧ ∀ x H', J.yld i H x H' → Rep T K mg H' io st ∧ Kp H H' ∧ RV T K mg H' io d x := by
  cases v with
  | tp l =>
    obtain ⟨a, vs, rfl, s, r⟩ := h
    simp only [itm, Option.some.injEq] at e
    obtain ⟨x, hx, rx⟩ := RVs.get' r e
    refine ⟨⟨vs, x, s, hx⟩, fun y H' hy => ?_⟩
    obtain ⟨rfl, hy⟩ := hy
    have := hy vs s
    rw [hx] at this
    cases this
    exact ⟨R, Kp.refl, rx⟩
  | ls n =>
    obtain ⟨a, ha, rfl⟩ := h
    simp only [itm] at e
    cases e0 : isL st n with
    | none => simp [e0] at e
    | some l =>
      simp only [e0, Option.map_some, Option.some.injEq] at e
      obtain ⟨vs, s, r⟩ := R.isL ha e0
      obtain ⟨x, hx, rx⟩ := RVs.get' r e
      refine ⟨⟨vs, x, s, hx⟩, fun y H' hy => ?_⟩
      obtain ⟨rfl, hy⟩ := hy
      have := hy vs s
      rw [hx] at this
      cases this
      exact ⟨R, Kp.refl, rx⟩
  | rg lo m =>
    have ej : J = Itr lo m := h
    subst ej
    simp only [itm, Option.some.injEq] at e
    by_cases hi : i < m
    · rw [if_pos hi] at e
      cases e
      refine ⟨hi, fun y H' hy => ?_⟩
      obtain ⟨rfl, rfl⟩ := hy
      exact ⟨R, Kp.refl, rfl⟩
    · rw [if_neg hi] at e; cases e
  | en n =>
    obtain ⟨a, ha, rfl⟩ := h
    simp only [itm] at e
    cases e0 : isL st n with
    | none => simp [e0] at e
    | some l =>
      simp only [e0, Option.map_some, Option.some.injEq] at e
      cases e1 : l[i]? with
      | none => rw [e1] at e; cases e
      | some d' =>
        rw [e1] at e
        cases e
        obtain ⟨vs, s, r⟩ := R.isL ha e0
        obtain ⟨x, hx, rx⟩ := RVs.get' r e1
        refine ⟨⟨vs, x, s, hx⟩, fun y H' hy => ?_⟩
        obtain ⟨p, x', rfl, hp, rfl, hy⟩ := hy
        have := hy vs s
        rw [hx] at this
        cases this
        obtain ⟨R2, k2⟩ := R.other (o := .tup [.int (i : Nat), x]) hp
        exact ⟨R2, k2, RV.tup2 hp rfl rx⟩
  | zp n m =>
    obtain ⟨a, b, ha, hb, rfl⟩ := h
    simp only [itm] at e
    cases e0 : isL st n with
    | none => simp [e0] at e
    | some l =>
      cases e1 : isL st m with
      | none => simp [e0, e1] at e
      | some k =>
        simp only [e0, e1, Option.some.injEq] at e
        cases e2 : (l.zip k)[i]? with
        | none => rw [e2] at e; cases e
        | some pr =>
          rw [e2] at e
          cases e
          obtain ⟨g1, g2⟩ := zip_get e2
          obtain ⟨vs, s, r⟩ := R.isL ha e0
          obtain ⟨us, s', r'⟩ := R.isL hb e1
          obtain ⟨x, hx, rx⟩ := RVs.get' r g1
          obtain ⟨y, hy, ry⟩ := RVs.get' r' g2
          refine ⟨⟨vs, us, x, y, s, s', hx, hy⟩, fun z H' hz => ?_⟩
          obtain ⟨p, x', y', rfl, hp, rfl, h1, h2⟩ := hz
          have q1 := h1 vs s
          have q2 := h2 us s'
          rw [hx] at q1
          rw [hy] at q2
          cases q1; cases q2
          obtain ⟨R2, k2⟩ := R.other (o := .tup [x, y]) hp
          exact ⟨R2, k2, RV.tup2 hp rx ry⟩
theorem iv_stop {v : ItV} {J : L2.It} {i : Nat} (R : Rep T K mg H io st) (h : IV T K mg H io v J) (e : itm v i st = some none) : J.stop i H := by
  cases v with
  | tp l =>
    obtain ⟨a, vs, rfl, s, r⟩ := h
    simp only [itm, Option.some.injEq] at e
    exact ⟨vs, s, RVs.none_of r e⟩
  | ls n =>
    obtain ⟨a, ha, rfl⟩ := h
    simp only [itm] at e
    cases e0 : isL st n with
    | none => simp [e0] at e
    | some l =>
      simp only [e0, Option.map_some, Option.some.injEq] at e
      obtain ⟨vs, s, r⟩ := R.isL ha e0
      exact ⟨vs, s, RVs.none_of r e⟩
  | rg lo m =>
    have ej : J = Itr lo m := h
    subst ej
    simp only [itm, Option.some.injEq] at e
    by_cases hi : i < m
    · rw [if_pos hi] at e; cases e
    · exact Nat.le_of_not_lt hi
  | en n =>
    obtain ⟨a, ha, rfl⟩ := h
    simp only [itm] at e
    cases e0 : isL st n with
    | none => simp [e0] at e
    | some l =>
      simp only [e0, Option.map_some, Option.some.injEq] at e
      cases e1 : l[i]? with
      | some d' => rw [e1] at e; cases e
      | none =>
        obtain ⟨vs, s, r⟩ := R.isL ha e0
        exact ⟨vs, s, RVs.none_of r e1⟩
  | zp n m =>
    obtain ⟨a, b, ha, hb, rfl⟩ := h
    simp only [itm] at e
    cases e0 : isL st n with
    | none => simp [e0] at e
    | some l =>
      cases e1 : isL st m with
      | none => simp [e0, e1] at e
      | some k =>
        simp only [e0, e1, Option.some.injEq] at e
        cases e2 : (l.zip k)[i]? with
        | some pr => rw [e2] at e; cases e
        | none =>
          obtain ⟨vs, s, r⟩ := R.isL ha e0
          obtain ⟨us, s', r'⟩ := R.isL hb e1
          refine ⟨vs, us, s, s', ?_⟩
          have := List.getElem?_eq_none_iff.mp e2
          rw [List.length_zip] at this
          rw [← RVs.length r, ← RVs.length r']
          omega
end
section
variable {T : Nm} {X : Cx} {P : Pg} {n : Nat} {W : WX} {cf : CallF}
/-! ### the loop -/
theorem OF.loop {H : Hp} {io : List Addr} {D : Ends} {f : Fl} {k : Fr → Sto → Fl} {Nx : L2.St → Hp → Prop} (h : OF T X.K X.mg W H io D (lpF f k))
    (i : ∀ (e1 : Fr) (s1 : Sto) (io1 : List Addr) (H1 : Hp) (σ1 : L2.St), io <+: io1 → Kp H H1 → Rep T X.K X.mg H1 io1 s1 → RS T X.K X.mg H1 io1 e1 σ1 → OF T X.K X.mg W H1 io1 D (k e1 s1) → Nx σ1 H1) : OF T X.K X.mg W H io { nx := Nx, rt := D.rt, bk := D.nx, ct := Nx } f := by
  cases f with
  | nx e1 s1 => exact fun io' H' σ' p' k' r z => i e1 s1 io' H' σ' p' k' r z (OF.mono p' k' h)
  | ct e1 s1 => exact fun io' H' σ' p' k' r z => i e1 s1 io' H' σ' p' k' r z (OF.mono p' k' h)
  | bk e1 s1 => exact h
  | rt d s1 => exact h
  | exc x e1 s1 => exact h
  | bad => exact h
theorem s_for {tg iter : Expr} {body : List Stmt} {t : Tg} {it : It} {g : TG} {b : Sms} {pos : Pos} (hp : PassesOwn (model X.prog X.w) X.A X.env X.xe) (ht : TgR T X t g) (hi : PI X tg iter (tI T X cf W it)) (hg : PG X tg g) (hb : PSs X body (tSs T X cf W P b)) (hc : X.calm = true := by rfl)
    (hs : ∀ x, foldedSetIterable iter X.env x = pure x := by intro _; rfl) : PS X (.For tg iter body [] pos) (tS T X cf W P (.fr t it b)) := by
  refine PS.imp (ps_for hp hc hi hg hb hs) fun D σ H ⟨io, s0, fr, R, S, q⟩ => ?_
  simp only [evS] at q
  refine ⟨io, s0, fr, R, S, OF.exq S q fun v s1 io1 H1 J p1 k1 R1 iv q1 => ?_⟩
  · 
    refine ⟨fun i m σ H => ∃ io st fr, Rep T X.K X.mg H io st ∧ RS T X.K X.mg H io fr σ ∧ IV T X.K X.mg H io v J ∧ OF T X.K X.mg W H io D (forL (evSs cf P b) t v m i fr st), ⟨_, io1, s1, fr, R1, RS.mono k1 p1 S, iv, q1⟩, ?_⟩
    rintro i m σ2 H2 ⟨io2, st2, f2, R2, S2, iv2, q2⟩
    cases m with
    | zero => exact q2.elim
    | succ m =>
      simp only [forL] at q2
      cases e : itm v i st2 with
      | none => rw [e] at q2; exact q2.elim
      | some od =>
        rw [e] at q2
        cases od with
        | none => exact .inl ⟨iv_stop R2 iv2 e, q2 io2 H2 σ2 (List.prefix_refl _) Kp.refl R2 S2⟩
        | some d =>
          obtain ⟨go, yl⟩ := iv_go R2 iv2 e
          refine .inr ⟨go, fun σ' H' => ∃ io st fr, Rep T X.K X.mg H' io st ∧ RS T X.K X.mg H' io fr σ' ∧ IV T X.K X.mg H' io v J ∧ OF T X.K X.mg W H' io D (forL (evSs cf P b) t v m (i + 1) fr st), fun σ' H' w => ⟨m, Nat.lt_succ_self _, w⟩, fun x H3 hy => ?_⟩
          obtain ⟨R3, k3, rx⟩ := yl x H3 hy
          have q3 := OF.mono (List.prefix_refl _) k3 q2
          dsimp only at q3
          cases ea : asgT t d f2 with
          | none => rw [ea] at q3; exact q3.elim
          | some f3 =>
            rw [ea] at q3
            dsimp only at q3
            refine ht x σ2 H3 io2 d f2 f3 _ rx (RS.mono k3 (List.prefix_refl _) S2) ea fun σ3 S3 _ => ⟨io2, st2, f3, R3, S3, ?_⟩
            have iv3 := IV.mono k3 (List.prefix_refl _) iv2
            exact OF.loop q3 fun e4 s4 io' H' σ' p' k' R' S' q4 => ⟨io', s4, e4, R', S', IV.mono k' p' iv3, q4⟩
/-! ### what is walked -/
theorem i_list {tg l : Expr} {c : Ex} (hl : PE X l (tE T X cf W c)) : PI X tg l (tI T X cf W (.sq c)) := by
  refine ⟨fun pins s σ H R I q => ?_⟩
  obtain ⟨io, s0, fr, R0, S, q⟩ := q
  simp only [evIt] at q
  refine thn (hl.run pins s σ H (fun v H1 => (∃ a xs, v = V.ref a ∧ SqL X.K H1 a xs ∧ R (Itl X.K a) H1) ∨ ∃ a xs, v = V.ref a ∧ SqT X.K H1 a xs ∧ R (Itt X.K a) H1) I ⟨io, s0, fr, R0, S, ?_⟩) fun v s1 hx => ?_
  · refine OG.bnd q fun d st1 io1 H1 v p1 k1 R1 r1 q1 => ?_
    cases d with
    | tup l =>
      obtain ⟨a, vs, rfl, sp, rl⟩ := r1
      exact .inr ⟨a, vs, rfl, sp, q1 io1 H1 _ (List.prefix_refl _) Kp.refl R1 ⟨a, vs, rfl, sp, rl⟩⟩
    | ref i =>
      obtain ⟨a, ha, rfl⟩ := r1
      dsimp only at q1
      cases e : isL st1 i with
      | none => rw [e] at q1; exact q1.elim
      | some l =>
        rw [e] at q1
        obtain ⟨vs, sp, rl⟩ := R1.isL ha e
        exact .inl ⟨a, vs, rfl, sp, q1 io1 H1 _ (List.prefix_refl _) Kp.refl R1 ⟨a, ha, rfl⟩⟩
    | _ => exact q1.elim
  · obtain ⟨w, H1, I1, r1, q1⟩ := hx
    have one : PE X l (fun _ H' Q => H' = H1 ∧ Q w H') → True := fun _ => trivial
    rcases q1 with ⟨a, xs, rfl, hq, q1⟩ | ⟨a, xs, rfl, hq, q1⟩
    · obtain rfl : v = Value.ref a := r1
      obtain ⟨its, rv, pl, hz⟩ := I1.list hq
      refine wpAny_pyIter_list pl.isList ?_
      refine ⟨s1.heap.objs.size, [s1.heap.objs.size], _, _, H1, rfl, I1.kept (t' := s1.toks) fun b o e => Heap.get?_push_of_some _ e, turn_list a _, ⟨_, Heap.get?_push_size _ rfl, rfl, rfl⟩, fun b hb => ?_, q1⟩
      obtain rfl : b = s1.heap.objs.size := by simpa using hb
      exact I1.fpOk (Nat.le_refl _) (I1.hok.fresh (Nat.le_refl _))
    · obtain rfl : v = Value.ref a := r1
      obtain ⟨its, rv, pl, hz⟩ := I1.tuple hq
      refine wpAny_pyIter_tuple (show s1.heap.IsTuple a its.toArray from pl) ?_
      refine ⟨s1.heap.objs.size, [s1.heap.objs.size], _, _, H1, rfl, I1.kept (t' := s1.toks) fun b o e => Heap.get?_push_of_some _ e, turn_tuple a _, ⟨_, Heap.get?_push_size _ rfl, rfl, rfl⟩, fun b hb => ?_, q1⟩
      obtain rfl : b = s1.heap.objs.size := by simpa using hb
      exact I1.fpOk (Nat.le_refl _) (I1.hok.fresh (Nat.le_refl _))
theorem i_rng {tg a : Expr} {c : Ex} {p pos : Pos} (hm : X.mg "range" = none) (ha : PE X a (tE T X cf W c)) (hg : Gl X "range" := by rfl) (hs : starEach [a] X.env = [(false, eval a X.env)] := by rfl) : PI X tg (.Call (.Name "range" p) [a] [] pos) (tI T X cf W (.rng c)) := by
  refine PI.imp (pi_range1 hg hm (a_cons ha a_nil hs) hs) fun σ H R ⟨io, s0, fr, R0, S, q⟩ => ?_
  simp only [evIt] at q
  refine ⟨io, s0, fr, R0, S, ?_⟩
  simp only [evEs]
  have q2 : OG T X.K X.mg (RVs T X.K X.mg) W σ H io (fun vs H1 => ∃ j : Int, vs = [.int j] ∧ -(2 ^ 62) ≤ j ∧ j < 2 ^ 62 ∧ R (Itr 0 j.toNat) H1) ((evE cf c fr s0).bind fun x s1 => .ok [x] s1) := by
    cases e : evE cf c fr s0 with
    | bad => rw [e] at q; exact q
    | exc x s1 => rw [e] at q; exact q
    | ok d s1 =>
      rw [e] at q
      intro io1 H1 vs p1 k1 R1 r1
      obtain ⟨v, r, rfl, rv, r0⟩ := r1
      rw [show r = [] from r0]
      have q' := OG.mono p1 k1 q
      cases d with
      | int j =>
        have ev : v = V.int j := rv
        subst ev
        have q' : OG T X.K X.mg (IV T X.K X.mg) W σ H1 io1 R (if -(2 ^ 62) ≤ j ∧ j < 2 ^ 62 then .ok (.rg 0 j.toNat) s1 else .bad) := q'
        by_cases hj : -(2 ^ 62) ≤ j ∧ j < 2 ^ 62
        · rw [if_pos hj] at q'
          exact ⟨j, rfl, hj.1, hj.2, q' io1 H1 _ (List.prefix_refl _) Kp.refl R1 rfl⟩
        · rw [if_neg hj] at q'; exact q'.elim
      | _ => exact q'.elim
  exact q2
end
end Mi

/-! An own exception class called with names. -/
namespace PySem
namespace MiX
open PySem.W PySem.Calls PyProof.Rows PySem.HandSPX
section
variable {M : Model} {prog : Program} {w : World} {A : Around} {E : Value → Shared → Prop} {R : Result → Shared → Prop} {h : Heap} {g : Array GenState} {d : Drawn} {t : Nat} {os : OsState}
variable {nm q : Str} {C N : Addr} {bs bm bmB : List Value} {hdct : Bool} {sn : List Str} {sub : List Value} {ab : Bool} {col : Option Bool} {dd : Option Addr} {k0 k1 k2 k3 k5 : Option Value} {B newId initId : String}
variable {rest : List Value} {kw : List (Str × Value)}
theorem checks_new (F : ExcBaseFacts B newId initId bmB) (hT : ∀ X : String, bm.contains (.type X) = bmB.contains (.type X)) {Q : Unit → Shared → Prop}
    (hC : h.get? C = some (excClassObj nm q C N bs bm hdct sn sub ab col dd k0 k1 k2 k3 k5 newId)) (hq : Q () ⟨h, g, d, t, os⟩) : wpAny M A (checkBuiltinCall newId { pos := .ref C :: rest, kw := kw }) Q E ⟨h, g, d, t, os⟩ := by
  have c1 : (Value.ref C :: bm).contains (.type B) = true := by rw [List.contains_cons, hT, F.hasB, Bool.or_true]
  have c2 := F.noStar
  simp only [checkBuiltinCall, F.newKind, F.newSplit, F.newRow]
  repeat (first
    | wp_step
    | refine wpAny_loadPart_at hC ?_
    | (refine wpAny_isSubtype_exc hC ?_; rw [c1])
    | refine wpAny_staticBase_exc hC ?_
    | refine wpAny_madeBy_exc hC ?_
    | simp only [bne_self_eq_false, Bool.false_eq_true, if_false])
  all_goals first | exact hq | skip
theorem news (F : ExcBaseFacts B newId initId bmB) (hT : ∀ X : String, bm.contains (.type X) = bmB.contains (.type X))
    (hC : h.get? C = some (excClassObj nm q C N bs bm hdct sn sub ab col dd k0 k1 k2 k3 k5 newId)) (hrest : rest.length ≤ sizeLine)
    (hq : R (.ok (.ret (.ref (h.objs.size + 1)))) ⟨(h.push (W.kdv_tup rest)).push (excO C h.objs.size), g, d, t, os⟩) :
    codeAny (model prog w) A (.builtin newId { pos := .ref C :: rest, kw := kw }) R ⟨h, g, d, t, os⟩ := by
  have ends := F.ends
  have c1 : (Value.ref C :: bm).contains (.type B) = true := by rw [List.contains_cons, hT, F.hasB, Bool.or_true]
  have c2 : (Value.ref C :: bm).contains (.type "AttributeError") = false := by rw [List.contains_cons, hT, F.noAttr]; rfl
  have c3 : (Value.ref C :: bm).contains (.type "NameError") = false := by rw [List.contains_cons, hT, F.noName]; rfl
  refine codeAny_builtinAt F.entry ?_
  unfold Builtin.«BaseException.__new__»
  refine wpAt_bind ?_
  show wpAt _ _ _ (stack >>= _) _ _ _
  refine wpAt_bind (wpAt_stack fun _ _ => wpAt_of_wpAny ?_)
  wp_walk
  refine wpAt_of_wpAny ?_
  rw [F.owner]
  repeat (first
    | with_reducible refine wpAny_madeHere_exc F.canon hC ?_
    | with_reducible refine wpAny_loadPart_at hC ?_
    | (with_reducible refine wpAny_isSubtype_exc hC ?_; first | rw [c1] | rw [c2] | rw [c3])
    | wp_step)
  show R _ _
  rw [Heap.size_push]
  exact hq
theorem type_calls (F : ExcBaseFacts B newId initId bmB) (hT : ∀ X : String, bm.contains (.type X) = bmB.contains (.type X)) {fI : Addr} {Q : Fin → Shared → Prop}
    (hC : h.get? C = some (excClassObj nm q C N bs bm hdct sn sub ab col dd k0 k1 k2 k3 k5 newId))
    (hi : W.Looks (model prog w) h (typeLookup (.ref C) "__init__") (some (.ref fI))) (hb : ∀ self, W.Looks (model prog w) h (bindSpecial (.ref fI) self) (.ref fI, [self])) (hrest : rest.length ≤ sizeLine)
    (hq : codeAny (model prog w) A (.call (.ref fI) { pos := .ref (h.objs.size + 1) :: rest, kw := kw })
      (fun r s' => match r with | .ok (.ret v) => v = .none ∧ Q (.done (.ret (.ref (h.objs.size + 1)))) s' | .ok _ => False | .error e => E e s')
      ⟨(h.push (W.kdv_tup rest)).push (excO C h.objs.size), g, d, t, os⟩) :
    wpAny (model prog w) A (Builtin.«type.__call__» { pos := .ref C :: rest, kw := kw }) Q E ⟨h, g, d, t, os⟩ := by
  repeat (first | wp_step | with_reducible refine wpAny_loadPart_at hC ?_ | with_reducible refine wpAny_madeBy_exc hC ?_)
  refine codeAny_call_builtin_code (Code.quiet_builtin _ F.quiet) (checks_new F hT hC ?_)
  refine news F hT hC hrest ?_
  show wpAny _ _ _ _ _ _
  have k : ∀ b o, h.get? b = some o → ((h.push (W.kdv_tup rest)).push (excO C h.objs.size)).get? b = some o := fun b o e => Heap.get?_push_of_some _ (Heap.get?_push_of_some _ e)
  have hC1 := k _ _ hC
  have hx : ((h.push (W.kdv_tup rest)).push (excO C h.objs.size)).get? (h.objs.size + 1) = some (excO C h.objs.size) := by heap_get
  have cC : (Value.ref C :: bm).contains (.ref C) = true := by simp
  have i1 := hi.keeps k
  have b1 := (hb (.ref (h.objs.size + 1))).keeps k
  unfold isInstance
  repeat (first | wp_step | with_reducible refine wpAny_loadPart_at hx ?_ | (with_reducible refine wpAny_isSubtype_exc hC1 ?_; rw [cC]))
  show wpAny _ _ (typeLookup (.ref C) _) _ _ _
  refine i1.at ?_
  refine wpAny_holding (wpAny_bind (b1.at ?_))
  refine wpAny_bind (wpAny_call (codeAny_mono hq fun r s' z => ?_))
  rcases r with e | (v | _ | _ | _) <;> first | exact z | exact z.elim | skip
  obtain ⟨rfl, z⟩ := z
  first
    | exact wpAny_pure (wpAny_pure z)
    | (wp_walk; exact z)
theorem checks_type {Q : Unit → Shared → Prop} (hC : h.get? C = some (excClassObj nm q C N bs bm hdct sn sub ab col dd k0 k1 k2 k3 k5 newId)) (hq : Q () ⟨h, g, d, t, os⟩) :
    wpAny M A (checkBuiltinCall "type.__call__" { pos := .ref C :: rest, kw := kw }) Q E ⟨h, g, d, t, os⟩ := by
  have c1 := tc_sub
  have c2 : (⟨h, g, d, t, os⟩ : Shared).TypeIs (.ref C) "type" := ⟨_, hC, rfl⟩
  simp only [checkBuiltinCall, tc_kind, tc_split]
  repeat (any_goals (first | assumption | wp_step | with_reducible refine wpAny_loadPart_at hC ?_ | with_reducible refine wpAny_onRaise ?_ | with_reducible refine wpAny_map ?_))
theorem calls (F : ExcBaseFacts B newId initId bmB) (hT : ∀ X : String, bm.contains (.type X) = bmB.contains (.type X)) {fI : Addr}
    (hC : h.get? C = some (excClassObj nm q C N bs bm hdct sn sub ab col dd k0 k1 k2 k3 k5 newId))
    (hi : W.Looks (model prog w) h (typeLookup (.ref C) "__init__") (some (.ref fI))) (hb : ∀ self, W.Looks (model prog w) h (bindSpecial (.ref fI) self) (.ref fI, [self])) (hrest : rest.length ≤ sizeLine)
    (hq : codeAny (model prog w) (A.under (.builtin "type.__call__" { pos := .ref C :: rest, kw := kw })) (.call (.ref fI) { pos := .ref (h.objs.size + 1) :: rest, kw := kw }) (W.InitBack (h.objs.size + 1) R)
      ⟨(h.push (W.kdv_tup rest)).push (excO C h.objs.size), g, d, t, os⟩) :
    codeAny (model prog w) A (.call (.ref C) { pos := rest, kw := kw }) R ⟨h, g, d, t, os⟩ := by
  have f1 := tc_lookup
  have f2 := tc_bind (.ref C)
  have hTy : (⟨h, g, d, t, os⟩ : Shared).TypeIs (.ref C) "type" := ⟨_, hC, rfl⟩
  refine codeAny_of_tree ?_
  show wpAny _ _ (callAny (.ref C) _) _ _ _
  repeat (any_goals (first | assumption | with_reducible refine wpAny_loadPart_at hC ?_ | wp_step))
  refine ⟨rfl, ?_⟩
  refine codeAny_call_builtin_at (Code.quiet_builtin _ (by decide +kernel)) entry_typeCall (checks_type hC (type_calls F hT hC hi hb hrest ?_))
  refine codeAny_mono hq fun r s' z => ?_
  rcases r with e | (v | _ | _ | _) <;> exact z
end
end MiX
end PySem

/-! Exceptions held as values; f-strings. -/
namespace Mi
open PySem L2 PyProof.Rows

section
variable {T : Nm} {X : Cx} {P : Pg} {n : Nat} {W : WX} {cf : CallF}
variable {k fi cn m : Nat} {f C : Addr} {fd : FuncData} {ps ks : List Str} {x nm nf : Str} {p pos apos pos' : Pos} {e o : Expr} {es : List Expr} {kws : List Keyword} {cs zs : Exs} {co ce : Ex} {dds : List D} {dvs : List V} {ds : List Value}
theorem isX_some {st : Sto} {d : D} {n0 c : Nat} {dd : Option Nat} (e : isX st d = some (n0, c, dd)) : d = .ref n0 ∧ st[n0]? = some (.xo n0 c dd) := by
  cases d with
  | ref i =>
    simp only [isX] at e
    split at e
    · rename_i me c' d' h
      by_cases hm : me = i
      · rw [if_pos hm] at e
        cases e
        exact ⟨rfl, by rw [h, hm]⟩
      · rw [if_neg hm] at e; cases e
    · cases e
  | _ => cases e
theorem isF_some {st : Sto} {m0 : Nat} {fs : List (Nat × D)} (e : isF st m0 = some fs) : st[m0]? = some (.xd m0 fs) := by
  simp only [isF] at e
  split at e
  · rename_i me fs' h
    by_cases hm : me = m0
    · rw [if_pos hm] at e
      cases e
      rw [h, hm]
    · rw [if_neg hm] at e; cases e
  · cases e
theorem Rep.xo0 {K : PySem.W.Frag} {mg : Str → Option Value} {H : Hp} {io : List Addr} {st : Sto} {d : D} {v : V} {n0 c : Nat} (R : Rep T K mg H io st) (r : RV T K mg H io d v) (e : isX st d = some (n0, c, none)) :
    ∃ a C, v = .ref a ∧ io[n0]? = some a ∧ mg (T.nm c) = some (.ref C) ∧ H a = some (exo a C none) := by
  obtain ⟨rfl, h⟩ := isX_some e
  obtain ⟨a, ha, rfl⟩ := r
  obtain ⟨ho, h1, a', C, h2, h3, h4⟩ := R.ob n0 a _ ha h
  rw [ha] at h2
  cases h2
  subst h4
  exact ⟨a, C, rfl, ha, h3, h1⟩
theorem Rep.xo1 {K : PySem.W.Frag} {mg : Str → Option Value} {H : Hp} {io : List Addr} {st : Sto} {d : D} {v : V} {n0 c m0 : Nat} (R : Rep T K mg H io st) (r : RV T K mg H io d v) (e : isX st d = some (n0, c, some m0)) :
    ∃ a C b, v = .ref a ∧ io[n0]? = some a ∧ mg (T.nm c) = some (.ref C) ∧ io[m0]? = some b ∧ H a = some (exo a C (some b)) := by
  obtain ⟨rfl, h⟩ := isX_some e
  obtain ⟨a, ha, rfl⟩ := r
  obtain ⟨ho, h1, a', C, b, h2, h3, h5, h4⟩ := R.ob n0 a _ ha h
  rw [ha] at h2
  cases h2
  subst h4
  exact ⟨a, C, b, rfl, ha, h3, h5, h1⟩
theorem Rep.xdd {K : PySem.W.Frag} {mg : Str → Option Value} {H : Hp} {io : List Addr} {st : Sto} {b : Addr} {m0 : Nat} {fs : List (Nat × D)} (R : Rep T K mg H io st) (hb : io[m0]? = some b) (e : isF st m0 = some fs) :
    ∃ vs, H b = some (exd b vs) ∧ RF T K mg H io T.nm fs vs := by
  obtain ⟨ho, h1, a, vs, h2, rfl, h3⟩ := R.ob m0 b _ hb (isF_some e)
  rw [hb] at h2
  cases h2
  exact ⟨vs, h1, h3⟩
/-- what is known of an exception class with its own __init__ -/
structure XkF (T : Nm) (X : Cx) (P : Pg) (n k cn fi : Nat) (C f : Addr) (fd : FuncData) (ps : List Str) : Prop where
  mc : X.mg (T.nm cn) = some (.ref C)
  oc : OexC X.K C
  ini : PySem.W.findIn X.K (.ref C) "__init__" = some (some (.ref f))
  tyi : PySem.W.typeIn X.K (.ref f) = some (.type "function")
  ok : FnOk X.prog X.w X.K X.mg X.base (L2.CX X.prog X.w) k f fd ps (spF T X.K X.mg P n fi)
theorem x_run {pins : List (Addr × Obj)} {s : Shared} {σ : L2.St} {H : Hp} {Q : VK} {us us2 : List Value} {vs2 : List V} {kw : List (Str × Value)} (F0 : XkF T X P n k cn fi C f fd ps) (tk : Takes X W) (hr : Room (k + 1) X.A) (I : Inv X pins σ H s)
    (hb : ∀ s' : Shared, X.K.In s'.heap → BindsTo s' fd ⟨.ref (s.heap.objs.size + 1) :: us, kw⟩ (ps.zip us2)) (r2 : Vals vs2 us2) (hus : us.length ≤ sizeLine)
    (h : spF T X.K X.mg P n fi vs2 (upd H (s.heap.objs.size + 1) (exo (s.heap.objs.size + 1) C none)) (fun v H2 => v = .non ∧ Q (.ref (s.heap.objs.size + 1)) H2) (WE W σ)) :
    wpAny (model X.prog X.w) X.A (call (.ref C) us kw) (EP X pins σ Q) X.xe s := by
  obtain ⟨nm, q, N, bs, bm, sn, sub, ab, col, dd, k0, k1, k2, k3, k5, hC, hbm⟩ := F0.oc.cls
  obtain ⟨hp, g, dr, tk', os⟩ := s
  have hsz : hp.objs.size ≤ hp.objs.size + 1 := Nat.le_succ _
  have kk : ∀ b o, hp.get? b = some o → ((hp.push (PySem.W.kdv_tup us)).push (PySem.HandSPX.excO C hp.objs.size)).get? b = some o := fun b o e => Heap.get?_push_of_some _ (Heap.get?_push_of_some _ e)
  have hget : ((hp.push (PySem.W.kdv_tup us)).push (PySem.HandSPX.excO C hp.objs.size)).get? (hp.objs.size + 1) = some (PySem.HandSPX.excO C hp.objs.size) := by heap_get
  have I2 : Inv X pins σ (upd H (hp.objs.size + 1) (exo (hp.objs.size + 1) C none)) ⟨(hp.push (PySem.W.kdv_tup us)).push (PySem.HandSPX.excO C hp.objs.size), g, dr, tk', os⟩ :=
    I.laid (t' := tk') (a := hp.objs.size + 1) (o := exo (hp.objs.size + 1) C none) (h' := (hp.push (PySem.W.kdv_tup us)).push (PySem.HandSPX.excO C hp.objs.size)) kk hsz (exo_ok hget)
  have run := F0.ok.run _ X.stack _ _ ⟨.ref (hp.objs.size + 1) :: us, kw⟩ us2 vs2 _ (WE W σ) (hr.make C us kw) (I2.env0.make C us kw) (hb _ I2.kIn) r2 h
  refine wpAny_call (PySem.MiX.calls PySem.F.excBase_ValueError (fun Y => PySem.HandSPX.refsVE_contains Y bm hbm) (I.kIn _ _ hC) (PySem.W.looks_findIn I.kIn F0.ini) (fun self => PySem.W.bind_fn I.kIn self F0.tyi) hus
    (codeAny_mono run fun r s' hq => ?_))
  cases r with
  | error er => exact passAt tk σ pins _ _ er s' I2 hq
  | ok fl =>
    cases fl with
    | ret u =>
      obtain ⟨v, H', I3, rv, ev, q3⟩ := I2.after hq
      subst ev
      exact ⟨rv, ⟨V.ref (hp.objs.size + 1), H', I3, rfl, q3⟩⟩
    | next => exact False.elim hq
    | brk => exact False.elim hq
    | cont => exact False.elim hq
/-- __init__'s promise, from the machine's word for the making -/
theorem x_sp {a : Addr} {σ : L2.St} {H : Hp} {io : List Addr} {st : Sto} {Q : VK} {as : List D} {vs : List V} (mc : X.mg (T.nm cn) = some (.ref C)) (hp : H a = none) (R : Rep T X.K X.mg H io st)
    (r : ∀ H' io', Kp H H' → io <+: io' → RV T X.K X.mg H' io' (.ref st.length) (V.ref a) → RVs T X.K X.mg H' io' as vs)
    (q : OG T X.K X.mg (RV T X.K X.mg) W σ H io Q ((callN P n fi as (st ++ [.xo st.length cn none])).bind fun r s2 => if r.isN = true then .ok (.ref st.length) s2 else .bad)) :
    spF T X.K X.mg P n fi vs (upd H a (exo a C none)) (fun v H2 => v = .non ∧ Q (.ref a) H2) (WE W σ) := by
  have ha : (io ++ [a])[st.length]? = some a := by rw [← R.len, List.getElem?_concat_length]
  obtain ⟨R1, p1, k1⟩ := R.newX (o := .xo st.length cn none) (ho := exo a C none) hp ⟨a, C, ha, mc, rfl⟩
  have hx : RV T X.K X.mg (upd H a (exo a C none)) (io ++ [a]) (.ref st.length) (V.ref a) := ⟨a, ha, rfl⟩
  refine sp_of (σ := σ) R1 (r _ _ k1 p1 hx) (OG.bnd (OG.mono p1 k1 q) fun d s2 io2 H2 v p2 k2 R2 r2 q2 => ?_) callN_len
  by_cases hd : d.isN = true
  · rw [if_pos hd] at q2
    exact ⟨RV.is_non r2 hd, q2 io2 H2 _ (List.prefix_refl _) Kp.refl R2 (RV.mono k2 p2 _ _ hx)⟩
  · rw [if_neg hd] at q2; exact q2.elim
theorem lenS {k j : Nat} (h : k = j) (hj : j ≤ 900) : k ≤ sizeLine := by
  have : 900 ≤ sizeLine := by decide
  omega
/-- C(e, ..), an exception made -/
theorem e_xmk (F0 : XkF T X P n k cn fi C f fd ps) (tk : Takes X W) (hr : Room (k + 1) X.A) (hb : Binds X.K fd ps ds) (hd : Dfs T X dds dvs ds) (kp : PySem.W.keepIn X.K (.ref C) = true) (ha : PA X (e :: es) (tA T X (callN P n) W cs)) (hlen : lenE cs + dds.length + 1 = ps.length := by rfl) (hn : T.nm cn = x := by rfl) (h9 : lenE cs ≤ 900 := by decide)
    (hg : Gl X x := by rfl) (hdb : (x == ("__debug__" : Str)) = false := by decide) (he : starEach (e :: es) X.env = (false, eval e X.env) :: starEach es X.env := by rfl) (hpl : (backTo pos (starEach es X.env)).any (·.1) = false := by rfl) :
    PE X (.Call (.Name x p) (e :: es) [] pos) (tE T X (callN P n) W (.xmk cn fi cs dds)) := by
  subst hn
  refine ⟨fun pins s σ H Q I q => ?_⟩
  obtain ⟨io, st, fr, R, S, q⟩ := q
  simp only [evE] at q
  refine wpAny_Call_Name_kw (ld_glob I hg F0.mc ?_ hdb)
  refine PySem.W.callWith_K (h₀ := X.base) I.ok.mod.kin kp (thn (ha.run pos pins s σ H (fun vs H1 => ∃ io1 st1 as, as.length = lenE cs ∧ Rep T X.K X.mg H1 io1 st1 ∧ RVs T X.K X.mg H1 io1 as vs ∧ OG T X.K X.mg (RV T X.K X.mg) W σ H1 io1 Q ((callN P n fi (.ref st1.length :: (as ++ dds)) (st1 ++ [.xo st1.length cn none])).bind fun r s2 => if r.isN = true then .ok (.ref st1.length) s2 else .bad)) I ⟨io, st, fr, R, S, ?_⟩) fun us s1 hx => ?_) he hpl
  · exact OG.bnde q fun as st1 io1 H1 vs eA p1 k1 R1 r1 q1 => ⟨io1, st1, as, evEs_len eA, R1, r1, q1⟩
  · obtain ⟨vs, H1, I1, r, io1, st1, as, la, R1, ra, q1⟩ := hx
    refine ⟨I1.kIn, ?_⟩
    have l1 : us.length = lenE cs := by rw [← r.length, ← RVs.length ra, la]
    have l2 : dds.length = ds.length := by rw [RVs.length (hd.2 H io), hd.1.length]
    refine x_run (us2 := .ref (s1.heap.objs.size + 1) :: (us ++ ds)) (vs2 := .ref (s1.heap.objs.size + 1) :: (vs ++ dvs)) F0 tk hr I1 (fun s' hk => ?_) (.cons rfl (r.append hd.1)) (lenS l1 h9) (x_sp F0.mc (I1.hok.fresh (Nat.le_succ _)) R1 (fun H' io' k' p' rx => RVs.cons rx (RVs.append (RVs.mono k' p' _ _ ra) (hd.2 _ _))) q1)
    exact hb s' (.ref (s1.heap.objs.size + 1) :: us) hk (by simp [l1, ← l2]; omega)
/-- C() -/
theorem e_xmk0 (F0 : XkF T X P n k cn fi C f fd ps) (tk : Takes X W) (hr : Room (k + 1) X.A) (hb : Binds X.K fd ps ds) (hd : Dfs T X dds dvs ds) (kp : PySem.W.keepIn X.K (.ref C) = true) (hlen : dds.length + 1 = ps.length := by rfl) (hn : T.nm cn = x := by rfl)
    (hg : Gl X x := by rfl) (hdb : (x == ("__debug__" : Str)) = false := by decide) :
    PE X (.Call (.Name x p) [] [] pos) (tE T X (callN P n) W (.xmk cn fi .nil dds)) := by
  subst hn
  refine ⟨fun pins s σ H Q I q => ?_⟩
  obtain ⟨io, st, fr, R, S, q⟩ := q
  simp only [evE, evEs, Out.bind] at q
  refine wpAny_Call_Name_kw (ld_glob I hg F0.mc ?_ hdb)
  have l2 : dds.length = ds.length := by rw [RVs.length (hd.2 H io), hd.1.length]
  refine PySem.W.callWith_K0 I.kIn kp (x_run (us := []) (us2 := .ref (s.heap.objs.size + 1) :: ds) (vs2 := .ref (s.heap.objs.size + 1) :: dvs) F0 tk hr I (fun s' hk => ?_) (.cons rfl hd.1) (Nat.zero_le _) (x_sp F0.mc (I.hok.fresh (Nat.le_succ _)) R (fun H' io' k' p' rx => RVs.cons rx (hd.2 _ _)) q))
  exact hb s' [.ref (s.heap.objs.size + 1)] hk (by simp [← l2]; omega)
/-- C(k = v, ..) -/
theorem e_xmkk0 {g : List Value → List Value → List Value} {gV : List V → List V → List V} {sel : List D → List D → List D} (F0 : XkF T X P n k cn fi C f fd ps) (tk : Takes X W) (hr : Room (k + 1) X.A) (hb : KBn X.K fd ps 1 ks g gV) (hs : Sel T X 1 ks.length sel gV) (kp : PySem.W.keepIn X.K (.ref C) = true)
    (hkw : PK X kws (tA T X (callN P n) W zs)) (hlenk : lenE zs = ks.length := by rfl) (hn : T.nm cn = x := by rfl)
    (hall : (backToKw pos (keywordEach kws X.env)).all (·.1.isSome) = true := by rfl) (hks : (backToKw pos (keywordEach kws X.env)).filterMap (·.1) = ks := by rfl)
    (hg : Gl X x := by rfl) (hdb : (x == ("__debug__" : Str)) = false := by decide)
    (hpl : ((backTo pos (starEach [] X.env)).any (·.1) || (backToKw pos (keywordEach kws X.env)).any (·.1.isNone)) = false := by rfl) :
    PE X (.Call (.Name x p) [] kws pos) (tE T X (callN P n) W (.xmkk cn fi .nil zs sel)) := by
  subst hn
  refine ⟨fun pins s σ H Q I q => ?_⟩
  obtain ⟨io, st, fr, R, S, q⟩ := q
  simp only [evE, evEs, bind_bind] at q
  refine wpAny_Call_Name_kw (ld_glob I hg F0.mc ?_ hdb)
  refine PySem.W.callWith_KW0 (h₀ := X.base) I.ok.mod.kin kp hall ?_ hpl
  have q : OG T X.K X.mg (RV T X.K X.mg) W σ H io Q ((evEs (callN P n) zs fr st).bind fun bs s2 => (callN P n fi (sel [.ref s2.length] bs) (s2 ++ [.xo s2.length cn none])).bind fun r s3 => if r.isN = true then .ok (.ref s2.length) s3 else .bad) := q
  refine thn (hkw.run pos pins s σ H (fun bs H2 => bs.length = ks.length ∧ ∃ io2 st2 bd, Rep T X.K X.mg H2 io2 st2 ∧ RVs T X.K X.mg H2 io2 bd bs ∧ OG T X.K X.mg (RV T X.K X.mg) W σ H2 io2 Q ((callN P n fi (sel [.ref st2.length] bd) (st2 ++ [.xo st2.length cn none])).bind fun r s3 => if r.isN = true then .ok (.ref st2.length) s3 else .bad)) I ⟨io, st, fr, R, S, ?_⟩) fun ws s2 hz => ?_
  · refine OG.bnde q fun bs s2 io' H' us' eB p' k' r' rv q' => ?_
    exact ⟨by rw [← RVs.length rv, evEs_len eB]; exact hlenk, io', s2, bs, r', rv, q'⟩
  · obtain ⟨bs, H2, I2, rz, l2, io2, st2, bd, R2, rb2, q2⟩ := hz
    refine ⟨I2.kIn, ?_⟩
    rw [hks]
    have r1 : Vals [V.ref (s2.heap.objs.size + 1)] [Value.ref (s2.heap.objs.size + 1)] := .cons rfl .nil
    refine x_run (us := []) (us2 := g [.ref (s2.heap.objs.size + 1)] ws) (vs2 := gV [.ref (s2.heap.objs.size + 1)] bs) F0 tk hr I2 (fun s' hk => ?_) (hb.rel r1 rz) (Nat.zero_le _) (x_sp F0.mc (I2.hok.fresh (Nat.le_succ _)) R2 (fun H' io' k' p' rx => hs _ _ _ _ _ _ (RVs.cons rx (ds := []) (vs := []) rfl) (RVs.mono k' p' _ _ rb2) rfl l2) q2)
    exact hb.to s' [.ref (s2.heap.objs.size + 1)] ws hk rfl (by rw [← rz.length, l2])
/-! ### Base.__init__(self, ..) -/
structure XiF (X : Cx) (x : Str) (Cb : Addr) : Prop where
  mc : X.mg x = some (.ref Cb)
  ga : PySem.W.specialIn X.K (.ref Cb) "__getattribute__" = some (some (.builtin "type.__getattribute__"))
  rd : PySem.W.readsIn X.K Cb (.type "type") = true
  fi : PySem.W.findCls X.K (.ref Cb) (.type "type") "__init__" = some (.val (.builtin "ValueError.__init__"))
theorem pe_xini {Cb : Addr} {pl : Sem Bool} {ta : TA} {p1 p2 : Pos} (F0 : XiF X x Cb) (ha : PA X (e :: es) ta) (hg : Gl X x := by rfl) (hdb : (x == ("__debug__" : Str)) = false := by decide)
    (hc : eval (.Call (.Attribute (.Name x p1) "__init__" p2) (e :: es) [] pos) X.env = (do
      let ov ← eval (.Name x p1) X.env
      standAt p2.atName
      let (f, first) ← holding [ov] (getMethod ov "__init__" pl)
      callWith pos f first (backTo pos (starEach (e :: es) X.env)) (backToKw pos (keywordEach [] X.env))) := by rfl)
    (he : starEach (e :: es) X.env = (false, eval e X.env) :: starEach es X.env := by rfl) (hpl : (backTo pos (starEach es X.env)).any (·.1) = false := by rfl) :
    PE X (.Call (.Attribute (.Name x p1) "__init__" p2) (e :: es) [] pos) (tVeI X.K ta) := by
  refine ⟨fun pins s σ H Q I h => ?_⟩
  refine PySem.W.methodCall_KW (ld_glob I hg F0.mc ?_ hdb) hc
  refine PySem.W.method_cls I.kIn F0.ga (PySem.W.cls_value I.kIn F0.rd F0.fi (by decide +kernel) ?_)
  show wpAny _ _ (callWith pos (Value.builtin "ValueError.__init__") [] (backTo pos (starEach (e :: es) X.env)) []) _ _ _
  refine PyProof.Rows.callWith_method1 (thn (ha.run pos pins _ σ H _ (I.tok _) h) fun us s1 ⟨vs, H1, I1, r1, a, C, ws, ev, hl, T, ea, q⟩ => ?_) he hpl
  subst ev
  cases r1 with
  | @cons _ u0 _ ur ra rw' =>
    obtain rfl : u0 = Value.ref a := ra
    have hlen : ur.length ≤ sizeLine := by
      rw [← Paired.length rw', sizeLine_eq]
      omega
    exact oinit_ok T I1 ea hlen fun s' J => ⟨.non, H1, J, rfl, q⟩
theorem e_xini {Cb : Addr} {pl : Sem Bool} {p1 p2 : Pos} {cls : List Nat} (F0 : XiF X x Cb) (hcs : ∀ c ∈ cls, ∀ C, X.mg (T.nm c) = some (.ref C) → OexC X.K C) (ha : PA X (e :: es) (tA T X cf W cs)) (hg : Gl X x := by rfl) (hdb : (x == ("__debug__" : Str)) = false := by decide)
    (hc : eval (.Call (.Attribute (.Name x p1) "__init__" p2) (e :: es) [] pos) X.env = (do
      let ov ← eval (.Name x p1) X.env
      standAt p2.atName
      let (f, first) ← holding [ov] (getMethod ov "__init__" pl)
      callWith pos f first (backTo pos (starEach (e :: es) X.env)) (backToKw pos (keywordEach [] X.env))) := by rfl)
    (he : starEach (e :: es) X.env = (false, eval e X.env) :: starEach es X.env := by rfl) (hpl : (backTo pos (starEach es X.env)).any (·.1) = false := by rfl) :
    PE X (.Call (.Attribute (.Name x p1) "__init__" p2) (e :: es) [] pos) (tE T X cf W (.xini cls cs)) := by
  refine PE.imp (pe_xini F0 ha hg hdb hc he hpl) fun σ H Q ⟨io, st, fr, R, S, q⟩ => ?_
  simp only [evE] at q
  refine ⟨io, st, fr, R, S, OG.bnd q fun ds st1 io1 H1 vs p1 k1 R1 r1 q1 => ?_⟩
  cases ds with
  | nil => exact q1.elim
  | cons d r =>
    obtain ⟨v, vr, rfl, rv, rr⟩ := r1
    dsimp only at q1
    cases e0 : isX st1 d with
    | none => rw [e0] at q1; exact q1.elim
    | some z =>
      obtain ⟨n0, c, od⟩ := z
      rw [e0] at q1
      cases od with
      | some _ => exact q1.elim
      | none =>
        dsimp only at q1
        by_cases hk : cls.contains c = true ∧ r.length ≤ 900
        · rw [if_pos hk] at q1
          obtain ⟨a, C, rfl, ha, hC, h1⟩ := R1.xo0 rv e0
          exact ⟨a, C, vr, rfl, by rw [← RVs.length rr]; omega, hcs c (by simpa using hk.1) C hC, h1, q1 io1 H1 _ (List.prefix_refl _) Kp.refl R1 rfl⟩
        · rw [if_neg hk] at q1; exact q1.elim
/-! ### e.f, e an exception held as a value -/
theorem e_xfl {cls : List Nat} {f0 : Nat} (ho : PE X o (tE T X cf W co)) (hcs : ∀ c ∈ cls, ∀ C, X.mg (T.nm c) = some (.ref C) → XfC X.K C ∧ PySem.W.findIn X.K (.ref C) nf = some none) (hf : T.nm f0 = nf := by rfl) (hb : attributeBase o nf X.env (eval o X.env) = eval o X.env := by rfl) :
    PE X (.Attribute o nf pos) (tE T X cf W (.xfl co cls f0)) := by
  subst hf
  refine ⟨fun pins s σ H Q I q => ?_⟩
  obtain ⟨io, st, fr, R, S, q⟩ := q
  simp only [evE] at q
  refine attr_of hb (thn (ho.run pins s σ H (fun x H1 => ∃ a C b fs v, x = V.ref a ∧ XfC X.K C ∧ PySem.W.findIn X.K (.ref C) (T.nm f0) = some none ∧ H1 a = some (exo a C (some b)) ∧ H1 b = some (exd b fs) ∧ fs.lookup (T.nm f0) = some v ∧ Q v H1) I ⟨io, st, fr, R, S, ?_⟩) fun u s1 hh => ?_)
  · refine OG.bnd q fun d st1 io1 H1 v p1 k1 R1 r1 q1 => ?_
    unfold xfD at q1
    cases e0 : isX st1 d with
    | none => rw [e0] at q1; exact q1.elim
    | some z =>
      obtain ⟨n0, c, od⟩ := z
      rw [e0] at q1
      cases od with
      | none => exact q1.elim
      | some m0 =>
        dsimp only at q1
        by_cases hk : cls.contains c = true
        · rw [if_pos hk] at q1
          cases e1 : isF st1 m0 with
          | none => rw [e1] at q1; exact q1.elim
          | some fs =>
            rw [e1] at q1
            cases e2 : fs.lookup f0 with
            | none => simp [e2, OG, Out.of] at q1
            | some d' =>
              simp only [e2] at q1
              obtain ⟨a, C, b, rfl, ha, hC, hb', h1⟩ := R1.xo1 r1 e0
              obtain ⟨vs, h2, rf⟩ := R1.xdd hb' e1
              obtain ⟨w, h3, rw'⟩ := (RF.look T.inj (f := f0) rf).1 d' e2
              obtain ⟨c1, c2⟩ := hcs c (by simpa using hk) C hC
              exact ⟨a, C, b, vs, w, rfl, c1, c2, h1, h2, h3, q1 io1 H1 w (List.prefix_refl _) Kp.refl R1 rw'⟩
        · rw [if_neg hk] at q1; exact q1.elim
  · obtain ⟨x, H1, I1, rx, a, C, b, fs, v, rfl, T1, hno, h1, h2, h3, q⟩ := hh
    obtain rfl : u = Value.ref a := rx
    obtain ⟨t1, ho⟩ := exo_at I1.hok h1
    obtain ⟨mA, hns, hr⟩ := exd_at I1.hok h2
    obtain ⟨od, ho', hl⟩ := lookIn_ns hns
    obtain ⟨u, hu, ru⟩ := RelO.some_of (v := v) (o := mA (T.nm f0)) (by rw [← h3]; exact hr (T.nm f0))
    have J : PySem.W.InstAt s1.heap a _ C (some od) := ⟨ho, rfl, rfl, ho'⟩
    exact HandSPX.exc_get I1.kIn J T1.ga T1.gg T1.exC (PySem.W.findObj_own T1.hdC hno rfl (by rw [hl, hu])) (handed_of ru) ⟨v, H1, I1.tok _, ru, q⟩
/-! ### f-strings -/
theorem e_fm (he : PE X e (tE T X cf W ce)) : PE X (.FormattedValue e (-1) none pos) (tE T X cf W (.fm ce)) := by
  refine PE.imp (pe_fmt he) fun σ H Q ⟨io, st, fr, R, S, q⟩ => ?_
  simp only [evE] at q
  refine ⟨io, st, fr, R, S, OG.bnd q fun d st1 io1 H1 v p1 k1 R1 r1 q1 => ?_⟩
  cases d with
  | str y =>
    simp only [fmtD] at q1
    by_cases hy : y.length ≤ 100000
    · rw [if_pos hy] at q1
      exact .inl ⟨y, r1, lenOk hy, q1 io1 H1 _ (List.prefix_refl _) Kp.refl R1 rfl⟩
    · rw [if_neg hy] at q1; exact q1.elim
  | int i =>
    simp only [fmtD] at q1
    by_cases hy : i.natAbs.log2 < 1920
    · rw [if_pos hy] at q1
      exact .inr ⟨i, r1, hy, q1 io1 H1 _ (List.prefix_refl _) Kp.refl R1 rfl⟩
    · rw [if_neg hy] at q1; exact q1.elim
  | _ => exact q1.elim
def tEL (T : Nm) (X : Cx) (cf : CallF) (W : WX) : Exs → List TE
  | .nil => []
  | .cons c cs => tE T X cf W c :: tEL T X cf W cs
theorem j_nil : PJ X [] (tEL T X cf W .nil) := .nil
theorem j_cons (h : PE X e (tE T X cf W ce)) (r : PJ X es (tEL T X cf W cs)) : PJ X (e :: es) (tEL T X cf W (.cons ce cs)) := .cons h r
theorem js_run {σ : L2.St} {Q : Str → Hp → Prop} : ∀ (cs : Exs) (acc : Str) (H : Hp) (io : List Addr) (st : Sto) (fr : Fr), Rep T X.K X.mg H io st → RS T X.K X.mg H io fr σ → OG T X.K X.mg (fun _ _ (a b : Str) => a = b) W σ H io Q (evJ cf cs acc fr st) → tJs (tEL T X cf W cs) acc σ H Q
  | .nil, acc, H, io, st, fr, R, S, q => q io H acc (List.prefix_refl _) Kp.refl R rfl
  | .cons c cs, acc, H, io, st, fr, R, S, q => by
    simp only [evJ] at q
    refine ⟨io, st, fr, R, S, OG.bnd q fun d st1 io1 H1 v p1 k1 R1 r1 q1 => ?_⟩
    cases d with
    | str y =>
      dsimp only at q1
      by_cases hy : (acc ++ y).length ≤ 100000
      · rw [if_pos hy] at q1
        exact ⟨y, r1, lenOk hy, js_run cs _ H1 io1 st1 fr R1 (RS.mono k1 p1 S) q1⟩
      · rw [if_neg hy] at q1; exact q1.elim
    | _ => exact q1.elim
theorem e_js {v1 v2 : Expr} {rest : List Expr} (h : PJ X (v1 :: v2 :: rest) (tEL T X cf W cs)) : PE X (.JoinedStr (v1 :: v2 :: rest) pos) (tE T X cf W (.js cs)) := by
  refine PE.imp (pe_joined h) fun σ H Q ⟨io, st, fr, R, S, q⟩ => ?_
  simp only [evE] at q
  exact js_run cs _ H io st fr R S (OG.bnd q fun y st1 io1 H1 v p1 k1 R1 r1 q1 => by cases r1; exact q1 io1 H1 _ (List.prefix_refl _) Kp.refl R1 rfl)
theorem e_js1 (h : PE X e (tE T X cf W ce)) : PE X (.JoinedStr [e] pos) (tE T X cf W ce) := pe_joined1 h
end
end Mi

/-! isinstance of exceptions held as values; their fields set; while. -/
namespace PySem.W
open PySem PySem.Spec PySem.Calls PyProof.Rows
section
variable {prog : Program} {w : World} {A : Around} {E : Value → Shared → Prop} {s : Shared} {K : Frag} {x D : Addr} {ox : Obj} {od : Option Obj}
theorem mi_data {C : Addr} {name : Str} {a g : Value} (hc : (clsIn K C).isSome = true) (ha : findIn K (.ref C) name = some (some a)) (hg : specialIn K a "__get__" = some (some g)) (ht : takesIn K a = some true) : findObj K C od name = some (.bind g a) := by
  obtain ⟨cd, hc⟩ := Option.isSome_iff_exists.mp hc
  unfold findObj
  rw [hc, Option.bind_some, ha, Option.bind_some]
  cases od <;> simp [hg, ht]
theorem mi_class {Q : Option Value → Shared → Prop} (C : L2.ExcC K D) (X : K.In s.heap) (I : InstAt s.heap x ox D od) (h : Q (some (.ref D)) { s with toks := s.toks + 1 }) : wpAny (model prog w) A (getAttr? (.ref x) "__class__") Q E s := by
  obtain ⟨hga, hgt, hsub, hdct, ha, hn, htk, hm⟩ := C
  have hf : findObj K D od "__class__" = some (.bind (.builtin "getset_descriptor.__get__") (.builtin "object.__class__")) := mi_data (by obtain ⟨cd, hc, _⟩ := any_some hdct; rw [hc]; rfl) ha hn htk
  obtain ⟨hp, g, d, t, os⟩ := s
  have L0 := I.type (M := model prog w)
  have L1 := looks_findIn (M := model prog w) X hga
  have L2 := looks_findIn (M := model prog w) X hgt
  have L3 := looks_find (M := model prog w) X I hf
  have sub : Looks (model prog w) hp (isInstance (.ref x) (.type "BaseException")) true := L0.andThen (looks_subIn X hsub)
  have b0 : (false && onTheHeap (Value.builtin "BaseException.__getattribute__")) = false := rfl
  have b2 : (Value.builtin "BaseException.__getattribute__" == Value.builtin "object.__getattribute__") = false := by decide +kernel
  have b1 : (onTheHeap (Value.ref D) && Value.builtin "BaseException.__getattribute__" == Value.builtin "object.__getattribute__") = false := by rw [b2]; rfl
  unfold getAttr? getAttrBy? getAttrBy
  refine wpAny_bind (wpAny_mkText (wpAny_bind (wpAny_attempt (wpAny_holding (wpAny_bind (L0.at (wpAny_bind (L1.at ?_))))))))
  show wpAny _ _ (if (onTheHeap (Value.ref D) && Value.builtin "BaseException.__getattribute__" == Value.builtin "object.__getattribute__") = true then _ else _) _ _ _
  rw [b1, if_neg Bool.false_ne_true]
  unfold getAttrByItsOwn hookBefore
  refine wpAny_bind ?_
  rw [if_pos (show onTheHeap (Value.ref D) = true from rfl)]
  refine L2.at ?_
  refine wpAny_bind (wpAny_attempt (wpAny_holding ?_))
  unfold callGetattribute
  rw [b0, if_neg Bool.false_ne_true]
  unfold boundAndCalled
  rw [PySem.F.excAttr_ValueError.ga.bind (.ref x)]
  refine wpAny_bind (wpAny_pure ?_)
  show wpAny _ _ (call (.builtin "BaseException.__getattribute__") [.ref x, .str "__class__" t]) _ _ _
  refine wpAny_call (codeAny_call_builtin PySem.F.excAttr_ValueError.ga.plain PySem.F.entry_bexc_ga ?_)
  refine @check_slot (model prog w) _ _ ⟨hp, g, d, t + 1, os⟩ "BaseException.__getattribute__" "BaseException" "__getattribute__" (.ref x) [.str "__class__" t] [] _ (by decide +kernel) (by decide +kernel) sub (PySem.F.args_bexc_ga (.ref x) (.str "__class__" t)) ?_
  unfold Builtin.«object.__getattribute__»
  refine wpAny_bind (wpAny_of_eq (a := ((Value.ref x : Value), [Value.str "__class__" t])) (by first | rfl | (simp only [slotArgs]; rfl)) ?_)
  refine wpAny_bind (wpAny_pure (wpAny_bind (L0.at (wpAny_bind (L3.at ?_)))))
  show wpAny _ _ (holding [Value.builtin "object.__class__"] (call (.builtin "getset_descriptor.__get__") [.builtin "object.__class__", .ref x, .ref D]) >>= ret) _ _ _
  refine wpAny_bind (wpAny_holding (wpAny_call (class_get (s := ⟨hp, g, d, t + 1, os⟩) (ox := ox) (od := od) X I hm ?_)))
  refine wpAny_pure ?_
  show wpAny _ _ (handedOut (.ref D)) _ _ _
  rw [handedOut_of (v := .ref D) rfl]
  first
    | exact wpAny_pure (wpAny_pure h)
    | exact wpAny_pure h
    | exact wpAny_pure (wpAny_bind (wpAny_pure (wpAny_pure h)))
theorem mi_kit (C : L2.ExcC K D) : KitX K (.ref x) (.ref D) (fun h => InstAt h x ox D od) where
  ty := fun _ _ _ I => I.type
  it := fun _ _ X _ => by
    obtain ⟨cdD, hcD, _⟩ := any_some C.hd
    unfold clsIn at hcD
    split at hcD
    · rename_i c' d' cd' sl' ho
      intro A' Q' E' s' k q
      unfold isType loadHead
      exact wpAny_bind (wpAny_loadPart (k _ _ (X _ _ ho)) (wpAny_pure q))
    · cases hcD
  ne := fun h tp dd its n sl X htp => by
    obtain ⟨cdD, hcD, _⟩ := any_some C.hd
    refine Bool.eq_false_iff.mpr fun q => ?_
    have e : D = tp := Value.ref.inj (beq_iff_eq.mp q)
    subst e
    unfold clsIn at hcD
    split at hcD
    · rename_i c' d' cd' sl' ho
      have z := (X _ _ ho).symm.trans htp
      cases z
    · cases hcD
  ca := fun X I k => mi_class C X I k
end
end PySem.W
namespace Mi
open PySem L2 PyProof.Rows
section
variable {T : Nm} {X : Cx} {P : Pg} {n : Nat} {W : WX} {cf : CallF}
variable {k fi cn m : Nat} {f C : Addr} {x nm nf : Str} {p pos apos pos' : Pos} {e o e2 : Expr} {es : List Expr} {cs zs : Exs} {co ce c2 : Ex}
/-- isinstance(e, c): e an exception held as a value, the answer by its class -/
def rXis (T : Nm) (X : Cx) (tbl : List (Nat × Bool)) : List V → Hp → VK → Prop := fun vs H Q => ∃ io st d n0 c od b v1 v2, Rep T X.K X.mg H io st ∧ RV T X.K X.mg H io d v1 ∧ vs = [v1, v2] ∧ isX st d = some (n0, c, od) ∧ tbl.lookup c = some b ∧ xdOk st od = true ∧
  (∀ C, X.mg (T.nm c) = some (.ref C) → ExcC X.K C ∧ ∃ cv, (∀ u, RelV v2 u → u = cv) ∧ PySem.W.kitOne X.K (.ref C) cv = some b) ∧ Q (.bl b) H
theorem call_xis {tbl : List (Nat × Bool)} : CallR X (.builtin "isinstance") (rXis T X tbl) := by
  intro pins s σ H xs us Q I r h
  obtain ⟨io, st, d, n0, c, od, b, v1, v2, R, rd, rfl, e0, e1, eo, hc, q⟩ := h
  cases r with
  | cons rx rr =>
    cases rr with
    | cons rt rr =>
      cases rr
      cases od with
      | none =>
        obtain ⟨a, C, rfl, ha, hC, h1⟩ := R.xo0 rd e0
        obtain ⟨xc, cv, hcv, hk⟩ := hc C hC
        cases hcv _ rt
        obtain rfl := (show _ = Value.ref a from rx)
        obtain ⟨t1, ho⟩ := exo_at I.hok h1
        have J : PySem.W.InstAt s.heap a _ C none := ⟨ho, rfl, rfl, trivial⟩
        exact PySem.W.kia_one (PySem.W.mi_kit xc) I.kIn J hk (fun z => nomatch z) fun tk => ⟨.bl b, H, I.kept (t' := tk) fun _ _ z => z, rfl, q⟩
      | some m0 =>
        obtain ⟨a, C, b', rfl, ha, hC, hb', h1⟩ := R.xo1 rd e0
        obtain ⟨xc, cv, hcv, hk⟩ := hc C hC
        cases hcv _ rt
        obtain rfl := (show _ = Value.ref a from rx)
        cases ef : isF st m0 with
        | none => simp [xdOk, ef] at eo
        | some fs =>
          obtain ⟨vs, h2, rf⟩ := R.xdd hb' ef
          obtain ⟨t1, ho⟩ := exo_at I.hok h1
          obtain ⟨mA, hns, hr⟩ := exd_at I.hok h2
          obtain ⟨od, ho', hl⟩ := lookIn_ns hns
          have J : PySem.W.InstAt s.heap a _ C (some od) := ⟨ho, rfl, rfl, ho'⟩
          exact PySem.W.kia_one (PySem.W.mi_kit xc) I.kIn J hk (fun z => nomatch z) fun tk => ⟨.bl b, H, I.kept (t' := tk) fun _ _ z => z, rfl, q⟩
theorem e_xis {tbl : List (Nat × Bool)} {d2 : D} {pa : Pos} (hm : X.mg "isinstance" = none) (he : PE X e (tE T X cf W ce)) (h2 : PE X e2 (tE T X cf W (.lit d2))) 
    (hc : ∀ c b, tbl.lookup c = some b → ∀ C, X.mg (T.nm c) = some (.ref C) → ExcC X.K C ∧ ∃ cv, (∀ H io v u, RV T X.K X.mg H io d2 v → RelV v u → u = cv) ∧ PySem.W.kitOne X.K (.ref C) cv = some b) (hg : Gl X "isinstance" := by rfl)
    (hst : starEach [e, e2] X.env = (false, eval e X.env) :: starEach [e2] X.env := by rfl) (hst2 : starEach [e2] X.env = (false, eval e2 X.env) :: starEach [] X.env := by rfl) (hpl : (backTo pos (starEach [e2] X.env)).any (·.1) = false := by rfl) :
    PE X (.Call (.Name "isinstance" pa) [e, e2] [] pos) (tE T X cf W (.xis ce tbl)) := by
  refine PE.imp (pe_callB (call_xis (T := T) (tbl := tbl)) hg hm (by decide +kernel) (a_cons he (a_cons h2 a_nil hst2) hst) (by decide) (by decide) hst hpl) fun σ H Q ⟨io, st, fr, R, S, q⟩ => ?_
  simp only [evE] at q
  refine ⟨io, st, fr, R, S, ?_⟩
  simp only [evEs, evE, Out.bind]
  have q2 : OG T X.K X.mg (RVs T X.K X.mg) W σ H io (fun vs H1 => rXis T X tbl vs H1 Q) ((evE cf ce fr st).bind fun x s1 => .ok [x, d2] s1) := by
    cases ev : evE cf ce fr st with
    | bad => rw [ev] at q; exact q
    | exc x s1 => rw [ev] at q; exact q
    | ok d s1 =>
      rw [ev] at q
      intro io1 H1 vs p1 k1 R1 r1
      obtain ⟨v, r, rfl, rv, r0⟩ := r1
      obtain ⟨v2, r', rfl, rv2, r0⟩ := r0
      rw [show r' = [] from r0]
      have q' := OG.mono p1 k1 q
      have q' : OG T X.K X.mg (RV T X.K X.mg) W σ H1 io1 Q (match isX s1 d with
        | some (_, c, od) => match tbl.lookup c with
          | some b => if xdOk s1 od = true then .ok (.bl b) s1 else .bad
          | none => .bad
        | _ => .bad) := q'
      cases e0 : isX s1 d with
      | none => rw [e0] at q'; exact q'.elim
      | some z =>
        obtain ⟨n0, c, od⟩ := z
        rw [e0] at q'
        dsimp only at q'
        cases e1 : tbl.lookup c with
        | none => rw [e1] at q'; exact q'.elim
        | some b =>
          rw [e1] at q'
          dsimp only at q'
          by_cases eo : xdOk s1 od = true
          · rw [if_pos eo] at q'
            refine ⟨io1, s1, d, n0, c, od, b, v, v2, R1, rv, rfl, e0, e1, eo, fun C hC => ?_, q' io1 H1 _ (List.prefix_refl _) Kp.refl R1 rfl⟩
            obtain ⟨h1, cv, h2, h3⟩ := hc c b e1 C hC
            exact ⟨h1, cv, fun u => h2 H1 io1 v2 u rv2, h3⟩
          · rw [if_neg eo] at q'; exact q'.elim
  exact q2
/-! ### e.f = v, e an exception held as a value -/
theorem set_app {α : Type} {l : List α} {i : Nat} {a b : α} (h : i < l.length) : (l ++ [b]).set i a = l.set i a ++ [b] := by
  rw [List.set_append_left _ _ h]
theorem s_xset {cls : List Nat} {f0 : Nat} (ho : PE X o (tE T X cf W co)) (he : PE X e (tE T X cf W ce)) (hcs : ∀ c ∈ cls, ∀ C, X.mg (T.nm c) = some (.ref C) → OexC X.K C ∧ PySem.W.findIn X.K (.ref C) nf = some none) (hf : T.nm f0 = nf := by rfl)
    (hs : swapsWith e (some (.Attribute o nf pos')) pos.line X.env = pure false := by rfl) : PS X (.Assign [.Attribute o nf pos'] e pos) (tS T X cf W P (.xset co cls f0 ce)) := by
  subst hf
  refine PS.imp (ps_ost ho he hs) fun D σ H ⟨io, s0, fr, R, S, q⟩ => ?_
  simp only [evS] at q
  refine ⟨io, s0, fr, R, S, OF.exq S q fun d s1 io1 H1 v p1 k1 R1 r1 q1 => ?_⟩
  have S1 := RS.mono k1 p1 S
  refine ⟨io1, s1, fr, R1, S1, OF.exq S1 q1 fun y s2 io2 H2 v2 p2 k2 R2 r2 q2 => ?_⟩
  have r1' := RV.mono k2 p2 _ _ r1
  have S2 := RS.mono k2 p2 S1
  unfold xsD at q2
  cases e0 : isX s2 y with
  | none => rw [e0] at q2; exact q2.elim
  | some z =>
    obtain ⟨n0, c, od⟩ := z
    rw [e0] at q2
    cases od with
    | none =>
      dsimp only at q2
      by_cases hk : cls.contains c = true
      · rw [if_pos hk] at q2
        obtain ⟨a, C, rfl, ha, hC, h1⟩ := R2.xo0 r2 e0
        obtain ⟨c1, c2⟩ := hcs c (by simpa using hk) C hC
        refine ⟨a, C, rfl, c1, c2, .inl ⟨h1, fun dx hdx hne => ?_⟩⟩
        have hl : (io2 ++ [dx])[s2.length]? = some dx := by rw [← R2.len, List.getElem?_concat_length]
        obtain ⟨R3, p3, k3⟩ := R2.newX (o := .xd s2.length [(f0, d)]) (ho := exd dx [(T.nm f0, v)]) hdx ⟨dx, [(T.nm f0, v)], hl, rfl, ⟨v, [], rfl, RV.mono (Kp.new hdx) (List.prefix_append _ _) _ _ r1', rfl⟩⟩
        have ha3 := pre_get p3 ha
        obtain ⟨R4, k4⟩ := R3.set (o := .xo n0 c (some s2.length)) (ho := exo a C (some dx)) ha3 (by rw [upd_ne (Ne.symm hne)]; exact h1) rfl ⟨a, C, dx, ha3, hC, hl, rfl⟩
        have hn : n0 < s2.length := by rw [← R2.len]; exact (List.getElem?_eq_some_iff.mp ha).1
        rw [set_app hn] at R4
        exact q2 _ _ σ p3 (k3.trans k4) R4 (RS.mono (k3.trans k4) p3 S2)
      · rw [if_neg hk] at q2; exact q2.elim
    | some m0 =>
      dsimp only at q2
      by_cases hk : cls.contains c = true
      · rw [if_pos hk] at q2
        cases ef : isF s2 m0 with
        | none => rw [ef] at q2; exact q2.elim
        | some fs =>
          rw [ef] at q2
          dsimp only at q2
          by_cases hl : fs.length ≤ 900
          · rw [if_pos hl] at q2
            obtain ⟨a, C, b, rfl, ha, hC, hb', h1⟩ := R2.xo1 r2 e0
            obtain ⟨vs, h2, rf⟩ := R2.xdd hb' ef
            obtain ⟨c1, c2⟩ := hcs c (by simpa using hk) C hC
            refine ⟨a, C, rfl, c1, c2, .inr ⟨b, vs, h1, h2, by rw [← RF.length rf]; exact hl, ?_⟩⟩
            obtain ⟨R4, k4⟩ := R2.set (o := .xd m0 ((f0, d) :: fs)) (ho := exd b ((T.nm f0, v) :: vs)) hb' h2 rfl ⟨b, _, hb', rfl, ⟨v, vs, rfl, r1', rf⟩⟩
            exact q2 _ _ σ (List.prefix_refl _) k4 R4 (RS.mono k4 (List.prefix_refl _) S2)
          · rw [if_neg hl] at q2; exact q2.elim
      · rw [if_neg hk] at q2; exact q2.elim
/-! ### while -/
theorem s_wh {c : Expr} {cc : Ex} {body : List Stmt} {b : Sms} {mx : Nat} (hp : PassesOwn (model X.prog X.w) X.A X.env X.xe) (hc : PT X c (tT T X cf W cc)) (hb : PSs X body (tSs T X cf W P b)) : PS X (.While c body [] pos) (tS T X cf W P (.wh mx cc b)) := by
  refine PS.imp (ps_while hp hc hb) fun D σ H ⟨io, s0, fr, R, S, q⟩ => ?_
  simp only [evS] at q
  refine ⟨fun m σ H => ∃ io st fr, Rep T X.K X.mg H io st ∧ RS T X.K X.mg H io fr σ ∧ OF T X.K X.mg W H io D (whL (fun fr s => asB (evE cf cc fr s)) (evSs cf P b) m fr st), ⟨mx, io, s0, fr, R, S, q⟩, ?_⟩
  rintro m σ2 H2 ⟨io2, st2, f2, R2, S2, q2⟩
  cases m with
  | zero => exact q2.elim
  | succ m =>
    simp only [whL] at q2
    refine ⟨io2, st2, f2, R2, S2, OF.exq S2 q2 fun bb s3 io3 H3 b' p3 k3 R3 hb' q3 => ?_⟩
    cases hb'
    by_cases hbb : bb = true
    · rw [if_pos hbb] at q3 ⊢
      exact ⟨fun σ' H' => ∃ io st fr, Rep T X.K X.mg H' io st ∧ RS T X.K X.mg H' io fr σ' ∧ OF T X.K X.mg W H' io D (whL (fun fr s => asB (evE cf cc fr s)) (evSs cf P b) m fr st), fun σ' H' w => ⟨m, Nat.lt_succ_self _, w⟩,
        io3, s3, f2, R3, RS.mono k3 p3 S2, OF.loop q3 fun e4 s4 io' H' σ' p' k' R' S' q4 => ⟨io', s4, e4, R', S', q4⟩⟩
    · rw [if_neg hbb] at q3 ⊢
      exact q3 io3 H3 σ2 (List.prefix_refl _) Kp.refl R3 (RS.mono k3 p3 S2)
/-! ### what is never reached -/
theorem s_no {s : Stmt} (h : ∀ t : TS, (∀ D σ H, ¬ t D σ H) → PS X s t := by exact fun t ht => ⟨fun _ _ _ _ _ _ q => (ht _ _ _ q).elim⟩) : PS X s (tS T X cf W P .no) := h _ fun D σ H ⟨_, _, _, _, _, q⟩ => q
theorem e_no : PE X e (tE T X cf W .no) := ⟨fun _ _ _ _ _ _ ⟨_, _, _, _, _, q⟩ => by simp only [evE] at q; exact q.elim⟩
theorem t_no : PT X e (tT T X cf W .no) := ⟨fun _ _ _ _ _ _ ⟨_, _, _, _, _, q⟩ => by simp only [evE] at q; exact q.elim⟩
end
end Mi

/-! Comprehensions. -/
namespace Mi
open PySem L2 PyProof.Rows
section
variable {T : Nm} {X : Cx} {P : Pg} {n : Nat} {W : WX} {cf : CallF}
/-- none is wished -/
abbrev W0 : WX := fun _ _ _ _ => False
theorem RS.wips {K : PySem.W.Frag} {mg : Str → Option Value} {H : Hp} {io : List Addr} {fr : Fr} {σ : L2.St} (S : RS T K mg H io fr σ) : ∀ ws : List Nat, RS T K mg H io (Mi.wips fr ws) (wipe σ ws)
  | [] => S
  | w :: ws => RS.wipe1 (RS.wips S ws)
theorem OG.noX {α β γ δ : Type} {rel : Hp → List Addr → α → β → Prop} {rel' : Hp → List Addr → γ → δ → Prop} {H : Hp} {io : List Addr} {σ σ' : L2.St} {Q : δ → Hp → Prop} {x : Out α} {k : α → Sto → Out γ} {Q' : β → Hp → Prop}
    (h : OG T X.K X.mg rel' W σ H io Q ((Mi.noX x).bind k))
    (i : ∀ (a : α) (st : Sto) (io1 : List Addr) (H1 : Hp) (b : β), io <+: io1 → Kp H H1 → Rep T X.K X.mg H1 io1 st → rel H1 io1 a b → OG T X.K X.mg rel' W σ H1 io1 Q (k a st) → Q' b H1) : OG T X.K X.mg rel W0 σ' H io Q' x := by
  cases x with
  | ok a st => exact fun io' H' b p' k' r z => i a st io' H' b p' k' r z (OG.mono p' k' h)
  | exc x st => exact h.elim
  | bad => exact h.elim
theorem c_nil : PTs X [] (tT T X cf W (.lit (.bl true))) := ⟨fun pins s σ H Q I q => pts_nil.run pins s σ H Q I (by
  obtain ⟨io, st, fr, R, S, q⟩ := q
  exact q io H true (List.prefix_refl _) Kp.refl R rfl)⟩
theorem c_one {c : Expr} {cc : Ex} (h : PT X c (tT T X cf W cc)) : PTs X [c] (tT T X cf W cc) := pts_one h
theorem lc_ok {t : Tg} {g : TG} {it : It} {cc ce : Ex} {ws : List Nat} (ht : TgR T X t g) (hw : ∀ i ∈ tgL t, i ∈ ws) {σ : L2.St} {H : Hp} {Q : VK} (q : tE T X cf W (.lc t ws it cc ce) σ H Q) :
    tLc (tI T X cf W it) g (tT T X cf W0 cc) (tE T X cf W0 ce) ws σ H Q := by
  obtain ⟨io, st, fr, R, S, q⟩ := q
  simp only [evE] at q
  refine ⟨io, st, fr, R, S, OG.bnd q fun v s1 io1 H1 J p1 k1 R1 iv q1 => ?_⟩
  intro D hD
  have S1 := RS.mono k1 p1 S
  have R1' := R1
  obtain ⟨R2, p2, k2⟩ := R1.new (o := .lst []) (ho := .lst []) hD ⟨[], rfl, rfl⟩
  have hl : (io1 ++ [D])[s1.length]? = some D := by rw [← R1.len, List.getElem?_concat_length]
  refine ⟨fun i m H' => ∃ io' st', Rep T X.K X.mg H' io' st' ∧ (io1 ++ [D]) <+: io' ∧ Kp (upd H1 D (.lst [])) H' ∧ OG T X.K X.mg (RV T X.K X.mg) W σ H' io' Q (lcL (fun fr s => Mi.noX (asB (evE cf cc fr s))) (fun fr s => Mi.noX (evE cf ce fr s)) t v s1.length (Mi.wips fr ws) m i st'),
    ⟨_, _, _, R2, List.prefix_refl _, Kp.refl, OG.mono p2 k2 q1⟩, ?_⟩
  rintro i m H3 ⟨io3, st3, R3, p3, k3, q3⟩
  have iv3 := IV.mono (k2.trans k3) (p2.trans p3) iv
  have S3 := RS.wips (RS.mono (k2.trans k3) (p2.trans p3) S1) ws
  have hl3 := pre_get p3 hl
  cases m with
  | zero => exact q3.elim
  | succ m =>
    simp only [lcL] at q3
    cases e : itm v i st3 with
    | none => rw [e] at q3; exact q3.elim
    | some od =>
      rw [e] at q3
      cases od with
      | none => exact .inl ⟨iv_stop R3 iv3 e, q3 io3 H3 _ (List.prefix_refl _) Kp.refl R3 ⟨D, hl3, rfl⟩⟩
      | some d =>
        obtain ⟨go, yl⟩ := iv_go R3 iv3 e
        refine .inr ⟨go, fun H' => ∃ io' st', Rep T X.K X.mg H' io' st' ∧ (io1 ++ [D]) <+: io' ∧ Kp (upd H1 D (.lst [])) H' ∧ OG T X.K X.mg (RV T X.K X.mg) W σ H' io' Q (lcL (fun fr s => Mi.noX (asB (evE cf cc fr s))) (fun fr s => Mi.noX (evE cf ce fr s)) t v s1.length (Mi.wips fr ws) m (i + 1) st'), fun H' w => ⟨m, Nat.lt_succ_self _, w⟩, fun x H4 hy => ?_⟩
        obtain ⟨R4, k4, rx⟩ := yl x H4 hy
        have q4 := OG.mono (List.prefix_refl _) k4 q3
        dsimp only at q4
        cases ea : asgT t d (Mi.wips fr ws) with
        | none => rw [ea] at q4; exact q4.elim
        | some f3 =>
          rw [ea] at q4
          dsimp only at q4
          refine ht x _ H4 io3 d _ f3 _ rx (RS.mono k4 (List.prefix_refl _) S3) ea fun σ3 Sg hz => ⟨(hz ws hw).trans (wipe_idem fun _ h => h), io3, st3, f3, R4, Sg, OG.noX q4 fun c s5 io5 H5 b p5 k5 R5 r5 q5 => ?_⟩
          cases r5
          by_cases hc : c = true
          · rw [if_pos hc] at q5 ⊢
            refine ⟨io5, s5, f3, R5, RS.mono k5 p5 Sg, OG.noX q5 fun y s6 io6 H6 w p6 k6 R6 r6 q6 => ?_⟩
            have hl6 := pre_get (p5.trans p6) hl3
            split at q6
            · rename_i acc h6
              obtain ⟨ho, h7, vs, rfl, rl⟩ := R6.ob _ D _ hl6 h6
              by_cases hn : acc.length < 100000
              · rw [if_pos hn] at q6
                refine ⟨vs, h7, by have := lenOk (Nat.le_of_lt hn); have := RVs.length rl; have : (100000 : Nat) ≤ sizeLine := by decide
                                   omega, ?_⟩
                obtain ⟨R8, k8⟩ := R6.set (o := .lst (acc ++ [y])) (ho := .lst (vs ++ [w])) hl6 h7 rfl ⟨_, rfl, RVs.append rl (RVs.cons r6 (ds := []) (vs := []) rfl)⟩
                exact ⟨io6, _, R8, p3.trans (p5.trans p6), k3.trans (k4.trans (k5.trans (k6.trans k8))), OG.mono (List.prefix_refl _) k8 q6⟩
              · rw [if_neg hn] at q6; exact q6.elim
            · exact q6.elim
          · rw [if_neg hc] at q5 ⊢
            exact ⟨io5, s5, R5, p3.trans p5, k3.trans (k4.trans k5), q5⟩
theorem e_lc {elt tg iter : Expr} {ifs : List Expr} {scope : Scope} {own : List (Str × Nat)} {pos : Pos} {t : Tg} {g : TG} {it : It} {cc ce : Ex} (hN : X.N.Nodup) (ht : TgR T X t g) (hi : PI X tg iter (tI T X cf W it)) (ok : BlkOk X.N X.env.scope scope own)
    (hg : ∀ (s : Shared) (H : Hp) (C : Addr) (cl : List (Str × Addr)) (fp : List Addr), PG (X.blk s H scope (compEnvC scope cl C X.env) fp) tg g)
    (hc : ∀ (s : Shared) (H : Hp) (C : Addr) (cl : List (Str × Addr)) (fp : List Addr), PTs (X.blk s H scope (compEnvC scope cl C X.env) fp) ifs (tT T (X.blk s H scope (compEnvC scope cl C X.env) fp) cf W0 cc))
    (he : ∀ (s : Shared) (H : Hp) (C : Addr) (cl : List (Str × Addr)) (fp : List Addr), PE (X.blk s H scope (compEnvC scope cl C X.env) fp) elt (tE T (X.blk s H scope (compEnvC scope cl C X.env) fp) cf W0 ce))
    (hw : ∀ i ∈ tgL t, i ∈ own.map (·.2) := by decide) (hk : X.calm = true := by rfl) (hs : ∀ x, foldedSetIterable iter X.env x = pure x := by intro _; rfl) :
    PE X (.ListComp elt [⟨tg, iter, ifs, 0⟩] scope pos) (tE T X cf W (.lc t (own.map (·.2)) it cc ce)) :=
  PE.imp (pe_lc hk hN hi ok hg hc he hs) fun _ _ _ q => lc_ok ht hw q
/-- name = [..] on one line -/
theorem s_setlc {i : Nat} {y : Str} {py : Pos} {elt tg iter : Expr} {ifs : List Expr} {scope : Scope} {own : List (Str × Nat)} {pos spos : Pos} {t : Tg} {g : TG} {it : It} {cc ce : Ex} (hN : X.N.Nodup) (ht : TgR T X t g) (hi : PI X tg iter (tI T X cf W it)) (ok : BlkOk X.N X.env.scope scope own)
    (hg : ∀ (s : Shared) (H : Hp) (C : Addr) (cl : List (Str × Addr)) (fp : List Addr), PG (X.blk s H scope (compEnvC scope cl C X.env) fp) tg g)
    (hc : ∀ (s : Shared) (H : Hp) (C : Addr) (cl : List (Str × Addr)) (fp : List Addr), PTs (X.blk s H scope (compEnvC scope cl C X.env) fp) ifs (tT T (X.blk s H scope (compEnvC scope cl C X.env) fp) cf W0 cc))
    (he : ∀ (s : Shared) (H : Hp) (C : Addr) (cl : List (Str × Addr)) (fp : List Addr), PE (X.blk s H scope (compEnvC scope cl C X.env) fp) elt (tE T (X.blk s H scope (compEnvC scope cl C X.env) fp) cf W0 ce))
    (hsw : swapsWith (.ListComp elt [⟨tg, iter, ifs, 0⟩] scope pos) (some (.Name y py)) spos.line X.env = pure true) (hy : X.N[i]? = some y := by rfl) (hyl : X.env.scope.names.lookup y = some .local := by rfl)
    (hw : ∀ i ∈ tgL t, i ∈ own.map (·.2) := by decide) (hk : X.calm = true := by rfl) (hs : ∀ x, foldedSetIterable iter X.env x = pure x := by intro _; rfl) :
    PS X (.Assign [.Name y py] (.ListComp elt [⟨tg, iter, ifs, 0⟩] scope pos) spos) (tS T X cf W P (.set i (.lc t (own.map (·.2)) it cc ce))) := by
  refine PS.imp (ps_setLc (tt := tT T X cf W0 cc) (te := tE T X cf W0 ce) hk hN hy hyl hsw hi ok hg hc he hs) fun D σ H ⟨io, st, fr, R, S, q⟩ => ?_
  simp only [evS] at q
  refine lc_ok (W := W) ht hw ⟨io, st, fr, R, S, OF.exq S q fun d s1 io1 H1 v p1 k1 R1 r1 q1 => ?_⟩
  exact q1 io1 H1 _ (List.prefix_refl _) Kp.refl R1 (RS.set (RS.mono k1 p1 S) r1)
end
end Mi

/-! A def by its body's reading; the law's own. -/
namespace Mi
open PySem L2 PyProof.Rows
section
variable {T : Nm} {Pr : Program} {w : World} {K : PySem.W.Frag} {mg : Str → Option Value} {base : Heap} {P : Pg} {n : Nat}
variable {x qual : Str} {params : Arguments} {body : List Stmt} {scope : Scope} {dvs : List V} {kws : List (Str × V)} {f : Addr} {fd : FuncData} {N ps : List Str} {k i : Nat} {b : Sms}
theorem RS.start {H : Hp} {io : List Addr} {ds : List D} {vs : List V} (r : RVs T K mg H io ds vs) : RS T K mg H io (frame0 N.length ds) (start N vs) := by
  unfold frame0 L2.start
  rw [← RVs.length r]
  refine ⟨by simp [RVs.length r], fun j d e => ?_⟩
  by_cases hj : j < ds.length
  · rw [List.getElem?_append_left (by simpa using hj)] at e
    rw [List.getElem?_append_left (by simpa [← RVs.length r] using hj)]
    rw [List.getElem?_map] at e ⊢
    cases h : ds[j]? with
    | none => rw [h] at e; cases e
    | some d' =>
      rw [h] at e
      simp only [Option.map_some, Option.some.injEq] at e
      subst e
      obtain ⟨v, hv, rv⟩ := RVs.get' r h
      exact ⟨v, by rw [hv]; rfl, rv⟩
  · rw [List.getElem?_append_right (by simpa using hj), List.getElem?_replicate] at e
    split at e <;> cases e
/-- a def keeps what the machine says of it -/
theorem fn_ok (F : FunD K x qual params body scope dvs kws f fd) (S : FnScope N ps scope) (hb : P.bd i = some b) (hp : P.np i = ps.length) (hn : P.ns i = N.length)
    (hbody : ∀ (cdv : Value) (A : Around) (outer : List Env) (s : Shared) (H : Hp) (E : XK), Room k (A.deeper (envOfC qual scope s.heap.objs.size f cdv)) →
      PSs (cxOf (L2.CX Pr w) Pr w K mg base N qual scope f cdv A outer s H E) body (tSs T (cxOf (L2.CX Pr w) Pr w K mg base N qual scope f cdv A outer s H E) (callN P n) (fun c d _ H => E c d H) P b)) :
    FnOk Pr w K mg base (L2.CX Pr w) (k + 1) f fd ps (spF T K mg P (n + 1) i) := by
  refine F.ok S (fun vs H Q E h => ?_) fun cdv A outer s H vs Q E hr h => ⟨_, hbody cdv A outer s H E hr, ?_⟩
  · obtain ⟨io, st, ds, R, r, hl, _⟩ := h
    rw [← RVs.length r, hl, hp]
  · obtain ⟨io, st, ds, R, r, hl, q⟩ := h
    refine ⟨io, st, frame0 (P.ns i) ds, R, by rw [hn]; exact RS.start r, ?_⟩
    unfold callN at q
    rw [hb] at q
    dsimp only at q
    rw [if_pos hl] at q
    show OF T K mg (fun c d _ H => E c d H) H io { nx := fun _ H' => Q .non H', rt := Q } (evSs (callN P n) P b (frame0 (P.ns i) ds) st)
    generalize evSs (callN P n) P b (frame0 (P.ns i) ds) st = fl at q ⊢
    cases fl with
    | nx e1 s1 => exact fun io' H' σ p' k' R' S' => q io' H' .non p' k' R' rfl
    | rt d s1 => exact fun io' H' v p' k' R' r' => q io' H' v p' k' R' r'
    | exc y e1 s1 => exact fun io' H' σ c dd p' k' R' S' z => q io' H' c dd p' k' R' z
    | bk e1 s1 => exact q.elim
    | ct e1 s1 => exact q.elim
    | bad => exact q.elim
/-- nothing is promised at depth 0 -/
theorem fn_zero (hp : P.np i = ps.length) : FnOk Pr w K mg base (L2.CX Pr w) k f fd ps (spF T K mg P 0 i) := by
  refine ⟨fun vs H Q E h => ?_, fun A outer s H args us vs Q E _ _ _ _ h => ?_⟩
  · obtain ⟨io, st, ds, R, r, hl, _⟩ := h
    rw [← RVs.length r, hl, hp]
  · obtain ⟨io, st, ds, R, r, hl, q⟩ := h
    exact q.elim
/-- what the law's promise comes to -/
theorem ints_rv {H : Hp} {io : List Addr} : ∀ ns : List Int, RVs T K mg H io (ns.map D.int) (ns.map V.int)
  | [] => rfl
  | n :: ns => ⟨.int n, ns.map V.int, rfl, rfl, ints_rv ns⟩
/-- the law's promise: from the machine's True, the script a list or a list of the module -/
theorem law_sp {i : Nat} (hp : P.np i = 1) (h1 : ∀ (o : Ob) (l : List Int), (o = .lst (l.map .int) ∨ o = .lock (.lst (l.map .int))) → l.length ≤ 63 → ∃ st, callN P n i [.ref 0] [o] = .ok (.bl true) st)
    (h2 : ∀ l : List Int, l.length ≤ 63 → ∃ st, callN P n i [.kl (l.map .int)] [] = .ok (.bl true) st) (H : Hp) (a : Addr) (l : List Int) (hl : l.length ≤ 63) (hS : SqL K H a (l.map V.int)) :
    spF T K mg P n i [.ref a] H (fun v _ => v = .bl true) (fun _ _ _ => False) := by
  have one : ∀ (o : Ob) (ho : HO), H a = some ho → RO T K mg H [a] o ho → (o = .lst (l.map .int) ∨ o = .lock (.lst (l.map .int))) → spF T K mg P n i [.ref a] H (fun v _ => v = .bl true) (fun _ _ _ => False) := fun o ho ha r e => by
    obtain ⟨st, hs⟩ := h1 o l e hl
    refine ⟨[a], [o], [.ref 0], ⟨rfl, by simp, fun m b o' e1 e2 => ?_⟩, ⟨_, _, rfl, ⟨a, rfl, rfl⟩, rfl⟩, hp.symm, ?_⟩
    · cases m with
      | zero => cases e1; cases e2; exact ⟨ho, ha, r⟩
      | succ m => simp at e1
    · rw [hs]
      intro io' H' v _ _ _ rv
      exact rv
  rcases hS with (hS | ⟨o, hS⟩) | hS
  · exact one (.lst (l.map .int)) _ hS ⟨_, rfl, ints_rv l⟩ (.inl rfl)
  · exact one (.lock (.lst (l.map .int))) _ hS ⟨o, _, rfl, _, rfl, ints_rv l⟩ (.inr rfl)
  · obtain ⟨st, hs⟩ := h2 l hl
    refine ⟨[], [], [.kl (l.map .int)], ⟨rfl, by simp, fun m b o' e1 e2 => by simp at e1⟩, ⟨_, _, rfl, ⟨a, _, rfl, hS, ints_rv l⟩, rfl⟩, hp.symm, ?_⟩
    rw [hs]
    intro io' H' v _ _ _ rv
    exact rv
end
end Mi

/-! Calls of any form: positional values, keywords, defaults picked into the parameters' order. -/
namespace Mi
open PySem L2 PyProof.Rows
/-- where a parameter's value comes from: a positional value, a default, a keyword-only default, a keyword's value -/
inductive Src where
  | p (i : Nat) | t (i : Nat) | m (i : Nat) | k (i : Nat)
  deriving DecidableEq
def Src.of {α : Type} (us its mv ws : List α) : Src → Option α
  | .p i => us[i]?
  | .t i => its[i]?
  | .m i => mv[i]?
  | .k i => ws[i]?
def pick {α : Type} (l : List Src) (us its mv ws : List α) : List α := l.filterMap (Src.of us its mv ws)
def Src.own : Src → Bool
  | .t _ => true
  | .m _ => true
  | _ => false
theorem Paired.at {α β : Type} {R : α → β → Prop} : ∀ {xs : List α} {us : List β} (i : Nat), Paired R xs us → (xs[i]? = none ∧ us[i]? = none) ∨ ∃ x u, xs[i]? = some x ∧ us[i]? = some u ∧ R x u
  | _, _, i, .nil => .inl ⟨rfl, rfl⟩
  | _, _, 0, .cons r _ => .inr ⟨_, _, rfl, rfl, r⟩
  | _, _, i + 1, .cons _ t => by simpa using Paired.at i t
theorem Src.rel {vs ds mz zs : List V} {us its mv ws : List Value} (a : Vals vs us) (b : Vals ds its) (c : Vals mz mv) (d : Vals zs ws) (s : Src) :
    (Src.of vs ds mz zs s = none ∧ Src.of us its mv ws s = none) ∨ ∃ x u, Src.of vs ds mz zs s = some x ∧ Src.of us its mv ws s = some u ∧ RelV x u := by
  cases s with
  | p i => exact Paired.at i a
  | t i => exact Paired.at i b
  | m i => exact Paired.at i c
  | k i => exact Paired.at i d
theorem pick_vals {vs ds mz zs : List V} {us its mv ws : List Value} (a : Vals vs us) (b : Vals ds its) (c : Vals mz mv) (d : Vals zs ws) : ∀ l : List Src, Vals (pick l vs ds mz zs) (pick l us its mv ws)
  | [] => .nil
  | s :: l => by
    unfold pick
    rcases Src.rel a b c d s with ⟨e1, e2⟩ | ⟨x, u, e1, e2, r⟩
    · rw [List.filterMap_cons_none e1, List.filterMap_cons_none e2]; exact pick_vals a b c d l
    · rw [List.filterMap_cons_some e1, List.filterMap_cons_some e2]; exact .cons r (pick_vals a b c d l)
section
variable {T : Nm} {K : PySem.W.Frag} {mg : Str → Option Value} {H : Hp} {io : List Addr}
theorem RVs.at {ds : List D} {vs : List V} (i : Nat) (r : RVs T K mg H io ds vs) : (ds[i]? = none ∧ vs[i]? = none) ∨ ∃ d v, ds[i]? = some d ∧ vs[i]? = some v ∧ RV T K mg H io d v := by
  cases e : ds[i]? with
  | none => exact .inl ⟨rfl, List.getElem?_eq_none_iff.mpr (by rw [← RVs.length r]; exact List.getElem?_eq_none_iff.mp e)⟩
  | some d =>
    obtain ⟨v, h1, h2⟩ := RVs.get' r e
    exact .inr ⟨d, v, rfl, h1, h2⟩
theorem pick_rvs {as ds ms bs : List D} {vs dv mz us : List V} (a : RVs T K mg H io as vs) (b : RVs T K mg H io ds dv) (c : RVs T K mg H io ms mz) (d : RVs T K mg H io bs us) : ∀ l : List Src, RVs T K mg H io (pick l as ds ms bs) (pick l vs dv mz us)
  | [] => rfl
  | s :: l => by
    unfold pick
    have h : (Src.of as ds ms bs s = none ∧ Src.of vs dv mz us s = none) ∨ ∃ x u, Src.of as ds ms bs s = some x ∧ Src.of vs dv mz us s = some u ∧ RV T K mg H io x u := by
      cases s with
      | p i => exact RVs.at i a
      | t i => exact RVs.at i b
      | m i => exact RVs.at i c
      | k i => exact RVs.at i d
    rcases h with ⟨e1, e2⟩ | ⟨x, u, e1, e2, r⟩
    · rw [List.filterMap_cons_none e1, List.filterMap_cons_none e2]; exact pick_rvs a b c d l
    · rw [List.filterMap_cons_some e1, List.filterMap_cons_some e2]; exact RVs.cons r (pick_rvs a b c d l)
end
/-- how a call of this form binds -/
def KB (K : PySem.W.Frag) (fd : FuncData) (ps : List Str) (n : Nat) (ks : List Str) (l : List Src) (dvs mvs : List V) : Prop :=
  ∃ its mv : List Value, Vals dvs its ∧ Vals mvs mv ∧ KBn K fd ps n ks (fun us ws => pick l us its mv ws) (fun vs zs => pick l vs dvs mvs zs)
section
variable {K : PySem.W.Frag} {x qual : Str} {params : Arguments} {body : List Stmt} {scope : Scope} {dvs : List V} {kws : List (Str × V)} {f : Addr} {fd : FuncData} {ps : List Str}
theorem kb00 (F : FunD K x qual params body scope [] kws f fd) (n : Nat) (ks : List Str) (l : List Src)
    (h : ∀ (kV doc pm : Value) (an : Option Addr) (cdv ct : Value) (us ws : List Value), us.length = n → ws.length = ks.length → bindArgs (PySem.W.fnOf x qual params body scope .none kV doc pm an cdv ct) ⟨us, ks.zip ws⟩ = pure (ps.zip (pick l us [] [] ws))) :
    KB K fd ps n ks l [] [] := by
  obtain ⟨oc, od, dV, kV, doc, pm, an, cdv, ct, osl, rfl, lk, hcd, hD, hK⟩ := F.ex
  rcases hD with ⟨_, rfl⟩ | ⟨e, _⟩
  · exact ⟨[], [], .nil, .nil, fun s us ws X l1 l2 => BindsTo.of_eq (h kV doc pm an cdv ct us ws l1 l2), fun r1 r2 => pick_vals r1 .nil .nil r2 l⟩
  · exact absurd rfl e
theorem kb10 (F : FunD K x qual params body scope dvs kws f fd) (n : Nat) (ks : List Str) (l : List Src) (hd : dvs ≠ [])
    (h : ∀ (A : Addr) (kV doc pm : Value) (an : Option Addr) (cdv ct : Value) (us its ws : List Value), us.length = n → its.length = dvs.length → ws.length = ks.length →
      ∃ k, bindArgs (PySem.W.fnOf x qual params body scope (.ref A) kV doc pm an cdv ct) ⟨us, ks.zip ws⟩ = seqItems? (.ref A) >>= k ∧ k (some its.toArray) = pure (ps.zip (pick l us its [] ws))) :
    KB K fd ps n ks l dvs [] := by
  obtain ⟨oc, od, dV, kV, doc, pm, an, cdv, ct, osl, rfl, lk, hcd, hD, hK⟩ := F.ex
  rcases hD with ⟨e, _⟩ | ⟨_, A, o, its, m, rfl, lT, oT, rT⟩
  · exact absurd e hd
  · refine ⟨its, [], rT, .nil, fun s us ws X l1 l2 => ?_, fun r1 r2 => pick_vals r1 rT .nil r2 l⟩
    obtain ⟨k, e1, e2⟩ := h A kV doc pm an cdv ct us its ws l1 rT.length.symm l2
    refine BindsTo.of_looks fun M => ?_
    rw [e1]
    exact looks_items X lT oT (PySem.W.Looks.of_pure e2)
theorem kb01 (F : FunD K x qual params body scope [] kws f fd) (n : Nat) (ks : List Str) (ms : List (Str × V)) (l : List Src) (hk : kws ≠ []) (hms : ∀ q ∈ ms, q ∈ kws)
    (h : ∀ (A : Addr) (doc pm : Value) (an : Option Addr) (cdv ct : Value) (us mv ws : List Value), us.length = n → mv.length = ms.length → ws.length = ks.length →
      KwChain A ((ms.map (·.1)).zip mv) (bindArgs (PySem.W.fnOf x qual params body scope .none (.ref A) doc pm an cdv ct) ⟨us, ks.zip ws⟩) (ps.zip (pick l us [] mv ws))) :
    KB K fd ps n ks l [] (ms.map (·.2)) := by
  obtain ⟨oc, od, dV, kV, doc, pm, an, cdv, ct, osl, rfl, lk, hcd, hD, hK⟩ := F.ex
  rcases hD with ⟨_, rfl⟩ | ⟨e, _⟩
  · rcases hK with e | ⟨A, rfl, hq⟩
    · exact absurd e hk
    · obtain ⟨mv, hl, rk, hks⟩ := kwd_vals (ms := ms) fun q hm => hq q (hms q hm)
      exact ⟨[], mv, .nil, rk, fun s us ws X l1 l2 => BindsTo.of_looks fun M => KwChain.looks X hks (h A doc pm an cdv ct us mv ws l1 hl l2), fun r1 r2 => pick_vals r1 .nil rk r2 l⟩
  · exact absurd rfl e
theorem kb11 (F : FunD K x qual params body scope dvs kws f fd) (n : Nat) (ks : List Str) (ms : List (Str × V)) (l : List Src) (hd : dvs ≠ []) (hk : kws ≠ []) (hms : ∀ q ∈ ms, q ∈ kws)
    (h : ∀ (A B : Addr) (doc pm : Value) (an : Option Addr) (cdv ct : Value) (us its mv ws : List Value), us.length = n → its.length = dvs.length → mv.length = ms.length → ws.length = ks.length →
      ∃ k, bindArgs (PySem.W.fnOf x qual params body scope (.ref A) (.ref B) doc pm an cdv ct) ⟨us, ks.zip ws⟩ = seqItems? (.ref A) >>= k ∧ KwChain B ((ms.map (·.1)).zip mv) (k (some its.toArray)) (ps.zip (pick l us its mv ws))) :
    KB K fd ps n ks l dvs (ms.map (·.2)) := by
  obtain ⟨oc, od, dV, kV, doc, pm, an, cdv, ct, osl, rfl, lk, hcd, hD, hK⟩ := F.ex
  rcases hD with ⟨e, _⟩ | ⟨_, A, o, its, m, rfl, lT, oT, rT⟩
  · exact absurd e hd
  · rcases hK with e | ⟨B, rfl, hq⟩
    · exact absurd e hk
    · obtain ⟨mv, hl, rk, hks⟩ := kwd_vals (ms := ms) fun q hm => hq q (hms q hm)
      refine ⟨its, mv, rT, rk, fun s us ws X l1 l2 => ?_, fun r1 r2 => pick_vals r1 rT rk r2 l⟩
      obtain ⟨k, e1, e2⟩ := h A B doc pm an cdv ct us its mv ws l1 rT.length.symm hl l2
      refine BindsTo.of_looks fun M => ?_
      rw [e1]
      exact looks_items X lT oT (KwChain.looks X hks e2)
theorem pick_app {α : Type} {l l' : List Src} {us its mv ws : List α} : pick (l ++ l') us its mv ws = pick l us its mv ws ++ pick l' us its mv ws := List.filterMap_append
theorem pick_own {α : Type} {us its mv ws : List α} : ∀ {l : List Src}, l.all Src.own = true → pick l us its mv ws = pick l [] its mv []
  | [], _ => rfl
  | s :: l, h => by
    simp only [List.all_cons, Bool.and_eq_true] at h
    have e : Src.of us its mv ws s = Src.of [] its mv [] s := by cases s <;> first | rfl | cases h.1
    have ih := pick_own (us := us) (its := its) (mv := mv) (ws := ws) h.2
    unfold pick at ih ⊢
    cases e1 : Src.of [] its mv [] s with
    | none => rw [List.filterMap_cons_none (e.trans e1), List.filterMap_cons_none e1]; exact ih
    | some y => rw [List.filterMap_cons_some (e.trans e1), List.filterMap_cons_some e1, ih]
theorem pick_range {α : Type} {its mv ws : List α} (us : List α) : pick ((List.range us.length).map .p) us its mv ws = us := by
  unfold pick
  rw [List.filterMap_map]
  have key : ∀ (us : List α), (List.range us.length).filterMap (fun i => us[i]?) = us := by
    intro us
    induction us with
    | nil => rfl
    | cons u us ih =>
      rw [List.length_cons, List.range_succ_eq_map, List.filterMap_cons_some (f := fun i => (u :: us)[i]?) (a := 0) (b := u) rfl, List.filterMap_map]
      exact congrArg (u :: ·) ih
  exact key us
/-- no keywords: the written values, then defaults -/
theorem KB.binds {n : Nat} {r : List Src} {mvs : List V} (h : KB K fd ps n [] ((List.range n).map .p ++ r) dvs mvs) (hr : r.all Src.own = true) (hn : ∀ (its mv : List Value), its.length = dvs.length → mv.length = mvs.length → n + (pick r [] its mv []).length = ps.length) :
    ∃ ds, Vals (pick r [] dvs mvs []) ds ∧ Binds K fd ps ds := by
  obtain ⟨its, mv, v1, v2, kb⟩ := h
  refine ⟨pick r [] its mv [], pick_vals .nil v1 v2 .nil r, fun s us X hl => ?_⟩
  have e1 : us.length = n := by
    have := hn its mv v1.length.symm v2.length.symm
    rw [List.length_append] at hl
    omega
  have b := kb.to s us [] X e1 rfl
  rw [pick_app, ← e1, pick_range, pick_own hr] at b
  exact b
end
section
variable {T : Nm} {X : Cx} {P : Pg} {n : Nat} {W : WX}
variable {k fi cn m j : Nat} {f C : Addr} {fd : FuncData} {ps ks : List Str} {x nm : Str} {p pos apos : Pos} {e o : Expr} {es : List Expr} {kws : List Keyword} {cs zs : Exs} {co : Ex} {l r : List Src} {ds ms : List D} {dvs mvs : List V}
/-- defaults told deep -/
def Df (T : Nm) (X : Cx) (ds : List D) (dvs : List V) : Prop := ∀ H io, RVs T X.K X.mg H io ds dvs
theorem Sel.pick (h1 : Df T X ds dvs) (h2 : Df T X ms mvs) (n m : Nat) : Sel T X n m (fun as bs => pick l as ds ms bs) (fun vs zs => pick l vs dvs mvs zs) := fun H io as bs vs us ra rb _ _ => pick_rvs ra (h1 H io) (h2 H io) rb l
theorem Dfs.pick {vs : List Value} (h1 : Df T X ds dvs) (h2 : Df T X ms mvs) (v : Vals (Mi.pick r [] dvs mvs []) vs) : Dfs T X (Mi.pick r [] ds ms []) (Mi.pick r [] dvs mvs []) vs := ⟨v, fun H io => pick_rvs (as := []) (bs := []) (vs := []) (us := []) rfl (h1 H io) (h2 H io) rfl r⟩
/-- f(e, .., k = v, ..) -/
theorem c_fn (F : FnOk X.prog X.w X.K X.mg X.base (L2.CX X.prog X.w) k f fd ps (spF T X.K X.mg P n fi)) (tk : Takes X W) (hr : Room k X.A) (hm : X.mg x = some (.ref f)) (hk : PySem.W.keepIn X.K (.ref f) = true)
    (hb : KB X.K fd ps j ks l dvs mvs) (h1 : Df T X ds dvs) (h2 : Df T X ms mvs) (ha : PA X (e :: es) (tA T X (callN P n) W cs)) (hkw : PK X kws (tA T X (callN P n) W zs)) (hlen : lenE cs = j := by rfl) (hlenk : lenE zs = ks.length := by rfl)
    (hall : (backToKw pos (keywordEach kws X.env)).all (·.1.isSome) = true := by rfl) (hks : (backToKw pos (keywordEach kws X.env)).filterMap (·.1) = ks := by rfl)
    (hg : Gl X x := by rfl) (hdb : (x == ("__debug__" : Str)) = false := by decide) (he : starEach (e :: es) X.env = (false, eval e X.env) :: starEach es X.env := by rfl)
    (hpl : ((backTo pos (starEach (e :: es) X.env)).any (·.1) || (backToKw pos (keywordEach kws X.env)).any (·.1.isNone)) = false := by rfl) :
    PE X (.Call (.Name x p) (e :: es) kws pos) (tE T X (callN P n) W (.callk fi cs zs (fun as bs => pick l as ds ms bs))) := by
  obtain ⟨its, mv, v1, v2, kb⟩ := hb
  exact e_callk F tk hr hm hk kb (Sel.pick h1 h2 _ _) ha hkw hlen hlenk hall hks hg hdb he hpl
/-- f() -/
theorem c_fn0 (F : FnOk X.prog X.w X.K X.mg X.base (L2.CX X.prog X.w) k f fd ps (spF T X.K X.mg P n fi)) (tk : Takes X W) (hr : Room k X.A) (hm : X.mg x = some (.ref f)) (hk : PySem.W.keepIn X.K (.ref f) = true)
    (hb : ∃ vs, Vals (pick r [] dvs mvs []) vs ∧ Binds X.K fd ps vs) (h1 : Df T X ds dvs) (h2 : Df T X ms mvs) (hg : Gl X x := by rfl) (hdb : (x == ("__debug__" : Str)) = false := by decide) :
    PE X (.Call (.Name x p) [] [] pos) (tE T X (callN P n) W (.call fi .nil (pick r [] ds ms []))) := by
  obtain ⟨vs, v, b⟩ := hb
  exact e_call0 F tk hr hm hk b (Dfs.pick h1 h2 v) hg hdb
/-- C(k = v, ..), an exception made -/
theorem c_xk0 (F0 : XkF T X P n k cn fi C f fd ps) (tk : Takes X W) (hr : Room (k + 1) X.A) (kp : PySem.W.keepIn X.K (.ref C) = true) (hb : KB X.K fd ps 1 ks l dvs mvs) (h1 : Df T X ds dvs) (h2 : Df T X ms mvs) (hkw : PK X kws (tA T X (callN P n) W zs)) (hlenk : lenE zs = ks.length := by rfl) (hn : T.nm cn = x := by rfl)
    (hall : (backToKw pos (keywordEach kws X.env)).all (·.1.isSome) = true := by rfl) (hks : (backToKw pos (keywordEach kws X.env)).filterMap (·.1) = ks := by rfl)
    (hg : Gl X x := by rfl) (hdb : (x == ("__debug__" : Str)) = false := by decide)
    (hpl : ((backTo pos (starEach [] X.env)).any (·.1) || (backToKw pos (keywordEach kws X.env)).any (·.1.isNone)) = false := by rfl) :
    PE X (.Call (.Name x p) [] kws pos) (tE T X (callN P n) W (.xmkk cn fi .nil zs (fun as bs => pick l as ds ms bs))) := by
  obtain ⟨its, mv, v1, v2, kb⟩ := hb
  exact e_xmkk0 F0 tk hr kb (Sel.pick h1 h2 _ _) kp hkw hlenk hn hall hks hg hdb hpl
/-- C(e, ..), an exception made -/
theorem c_x (F0 : XkF T X P n k cn fi C f fd ps) (tk : Takes X W) (hr : Room (k + 1) X.A) (kp : PySem.W.keepIn X.K (.ref C) = true) (hb : ∃ vs, Vals (pick r [] dvs mvs []) vs ∧ Binds X.K fd ps vs) (h1 : Df T X ds dvs) (h2 : Df T X ms mvs) (ha : PA X (e :: es) (tA T X (callN P n) W cs)) (hlen : lenE cs + (pick r [] ds ms []).length + 1 = ps.length := by rfl) (hn : T.nm cn = x := by rfl) (h9 : lenE cs ≤ 900 := by decide)
    (hg : Gl X x := by rfl) (hdb : (x == ("__debug__" : Str)) = false := by decide) (he : starEach (e :: es) X.env = (false, eval e X.env) :: starEach es X.env := by rfl) (hpl : (backTo pos (starEach es X.env)).any (·.1) = false := by rfl) :
    PE X (.Call (.Name x p) (e :: es) [] pos) (tE T X (callN P n) W (.xmk cn fi cs (pick r [] ds ms []))) := by
  obtain ⟨vs, v, b⟩ := hb
  exact e_xmk F0 tk hr b (Dfs.pick h1 h2 v) kp ha hlen hn h9 hg hdb he hpl
/-- C() -/
theorem c_x0 (F0 : XkF T X P n k cn fi C f fd ps) (tk : Takes X W) (hr : Room (k + 1) X.A) (kp : PySem.W.keepIn X.K (.ref C) = true) (hb : ∃ vs, Vals (pick r [] dvs mvs []) vs ∧ Binds X.K fd ps vs) (h1 : Df T X ds dvs) (h2 : Df T X ms mvs) (hlen : (pick r [] ds ms []).length + 1 = ps.length := by rfl) (hn : T.nm cn = x := by rfl)
    (hg : Gl X x := by rfl) (hdb : (x == ("__debug__" : Str)) = false := by decide) :
    PE X (.Call (.Name x p) [] [] pos) (tE T X (callN P n) W (.xmk cn fi .nil (pick r [] ds ms []))) := by
  obtain ⟨vs, v, b⟩ := hb
  exact e_xmk0 F0 tk hr b (Dfs.pick h1 h2 v) kp hlen hn hg hdb
end
end Mi

/-! What a def's body is given. -/
namespace Mi
open PySem L2 PyProof.Rows
/-- the names' table -/
def nmAt (l : List Str) (i : Nat) : Str := match l[i]? with
  | some s => s
  | none => ⟨Array.replicate (1000 + i) 0⟩
def nmOf (l : List Str) (h1 : l.Nodup) (h2 : ∀ s ∈ l, s.cps.size < 1000) : Nm where
  nm := nmAt l
  inj := fun i j e => by
    unfold nmAt at e
    cases hi : l[i]? with
    | some s =>
      cases hj : l[j]? with
      | some t =>
        rw [hi, hj] at e
        dsimp only at e
        obtain ⟨a1, b1⟩ := List.getElem?_eq_some_iff.mp hi
        obtain ⟨a2, b2⟩ := List.getElem?_eq_some_iff.mp hj
        exact (List.getElem_inj h1).mp (b1.trans (e.trans b2.symm))
      | none =>
        rw [hi, hj] at e
        dsimp only at e
        have := h2 s (List.mem_of_getElem? hi)
        rw [e] at this
        simp at this
        omega
    | none =>
      cases hj : l[j]? with
      | some t =>
        rw [hi, hj] at e
        dsimp only at e
        have := h2 t (List.mem_of_getElem? hj)
        rw [← e] at this
        simp at this
        omega
      | none =>
        rw [hi, hj] at e
        dsimp only at e
        have := congrArg (fun s : Str => s.cps.size) e
        simp at this
        exact this
structure Kit (X : Cx) (W : WX) (k : Nat) : Prop where
  tk : Takes X W
  hp : PassesOwn (model X.prog X.w) X.A X.env X.xe
  hr : Room k X.A
theorem Kit.u4 {X : Cx} {W : WX} {k : Nat} (h : Kit X W k) : X.A.units + 64 < cLine := h.hr.units
theorem Kit.u5 {X : Cx} {W : WX} {k : Nat} (h : Kit X W k) : X.A.units + 65 < cLine := by
  have := h.hr.un
  omega
theorem Kit.dn {X : Cx} {W : WX} {k : Nat} (h : Kit X W (k + 1)) : Room k X.A := h.hr.mono (Nat.le_succ _)
theorem Kit.blk {X : Cx} {W : WX} {k : Nat} (h : Kit X W k) (s : Shared) (H : Hp) (scope : Scope) (cenv : Env) (fp : List Addr) : Kit (X.blk s H scope cenv fp) W0 k :=
  ⟨fun u s' ⟨_, _, _, _, _, _, _, _, _, _, _, _, _, _, _, _, w⟩ => w.elim, PassesOwn.never, h.hr⟩
section
variable {T : Nm} {Pr : Program} {w : World} {K : PySem.W.Frag} {mg : Str → Option Value} {base : Heap} {P : Pg} {n : Nat}
variable {x qual : Str} {params : Arguments} {body : List Stmt} {scope : Scope} {dvs : List V} {kws : List (Str × V)} {f : Addr} {fd : FuncData} {N ps : List Str} {k i : Nat} {b : Sms}
theorem kit_of {cd : Value} {A : Around} {outer : List Env} {s : Shared} {H : Hp} {E : XK} (hr : Room k (A.deeper (envOfC qual scope s.heap.objs.size f cd))) :
    Kit (cxOf (L2.CX Pr w) Pr w K mg base N qual scope f cd A outer s H E) (fun c d _ H => E c d H) k := ⟨takes_of rfl rfl rfl rfl, passes_of rfl, hr⟩
/-- a def keeps what the machine says of it -/
theorem df_ok (F : FunD K x qual params body scope dvs kws f fd) (S : FnScope N ps scope) (hb : P.bd i = some b) (hp : P.np i = ps.length) (hn : P.ns i = N.length)
    (hbody : ∀ (cdv : Value) (A : Around) (outer : List Env) (s : Shared) (H : Hp) (E : XK), Kit (cxOf (L2.CX Pr w) Pr w K mg base N qual scope f cdv A outer s H E) (fun c d _ H => E c d H) (2 * n + 1) →
      PSs (cxOf (L2.CX Pr w) Pr w K mg base N qual scope f cdv A outer s H E) body (tSs T (cxOf (L2.CX Pr w) Pr w K mg base N qual scope f cdv A outer s H E) (callN P n) (fun c d _ H => E c d H) P b)) :
    FnOk Pr w K mg base (L2.CX Pr w) (2 * (n + 1)) f fd ps (spF T K mg P (n + 1) i) :=
  fn_ok F S hb hp hn fun cdv A outer s H E hr => hbody cdv A outer s H E (kit_of hr)
end
end Mi

/-! What the top has left, by one Bool; the end. -/
namespace Mi
open PySem L2 PyProof.Rows He
theorem look_mem {β : Type} {c : Nat} {b : β} : ∀ {l : List (Nat × β)}, l.lookup c = some b → (c, b) ∈ l
  | [], h => by cases h
  | (d, e) :: l, h => by
    by_cases q : c = d
    · subst q
      rw [List.lookup_cons_self] at h
      cases h
      exact List.mem_cons_self ..
    · rw [List.lookup_cons, show (c == d) = false by simpa using q] at h
      exact List.mem_cons_of_mem _ (look_mem h)
/-! ### the hook -/
def asM (g : Addr → Option Obj) (n : Nat) : List Addr := asD g n ++ [cStatics]
abbrev AlM : Type := AlD × Bool
def obsM (n : Nat) (fa : List Fa) (fn : List DefD) (ex : PySem.W.Frag → Bool) (g : Addr → Option Obj) : AlM := (obsD fa fn (frG g (asM g n)), ex (frG g (asM g n)))
structure SaysM (fa : List Fa) (fn : List DefD) (ex : PySem.W.Frag → Bool) (K : PySem.W.Frag) : Prop where
  d : SaysD fa fn K
  more : ex K = true
def hookM (n : Nat) (fa : List Fa) (fn : List DefD) (ex : PySem.W.Frag → Bool) : PySem.W.Hook where
  α := AlM
  obs := fun s => obsM n fa fn ex s.heap.get?
  val := fun _ => (He.valD fn, true)
  says := fun _ h => ∃ K : PySem.W.Frag, K.In h ∧ SaysM fa fn ex K
  of := fun _ _ e => ⟨_, frG_in, ⟨congrArg (fun z : AlM => z.1) e, congrArg (fun z : AlM => z.2) e⟩⟩
  keeps := fun _ _ _ ⟨K, hK, c⟩ k => ⟨K, PySem.W.Frag.In.keeps hK k, c⟩
theorem obsM_eq {n : Nat} {fa : List Fa} {fn : List DefD} {ex : PySem.W.Frag → Bool} {g : Addr → Option Obj} {s : Shared} (h : ∀ a, g a = s.heap.get? a) : obsM n fa fn ex g = (hookM n fa fn ex).obs s := by
  have e : g = s.heap.get? := funext h
  rw [e] <;> rfl
/-! ### facts -/
def oexB (K : PySem.W.Frag) (C : Addr) : Bool := match K.lookup C with
  | some ⟨.type "type", _, .cls cd, sl⟩ => (match cd.mro, sl.toList with
    | .ref C' :: bm, [_, _, _, _, some (.builtin n), _] => C' == C && n == "ValueError.__new__" && !cd.hasDel && cd.hasDict && PySem.HandSPX.refsVE bm
    | _, _ => false)
  | _ => false
theorem oexB_ok {K : PySem.W.Frag} {C : Addr} (q : oexB K C = true) : ∃ nm q N bs bm sn sub ab col dd k0 k1 k2 k3 k5, K.lookup C = some (excClassObj nm q C N bs bm true sn sub ab col dd k0 k1 k2 k3 k5 "ValueError.__new__") ∧ PySem.HandSPX.refsVE bm = true := by
  unfold oexB at q
  split at q
  · rename_i dd cd sl ho
    split at q
    · rename_i C' bm k0 k1 k2 k3 n k5 hm hs
      simp only [Bool.and_eq_true, beq_iff_eq, Bool.not_eq_true'] at q
      obtain ⟨⟨⟨⟨rfl, rfl⟩, hdel⟩, hd⟩, hr⟩ := q
      obtain ⟨nm, bs, mro, ns, qn, hd', sn, sub, ab, col, del⟩ := cd
      dsimp only at hm hdel hd
      subst hm hdel hd
      have hsl : sl = #[k0, k1, k2, k3, some (.builtin "ValueError.__new__"), k5] := by
        obtain ⟨l⟩ := sl
        simp only at hs
        rw [hs]
      subst hsl
      exact ⟨nm, qn, ns, bs, bm, sn, sub, ab, col, dd, k0, k1, k2, k3, k5, ho, hr⟩
    · cases q
  · cases q
/-- an exception class, its instances made and held -/
def xcB (K : PySem.W.Frag) (C : Addr) : Bool := oexB K C && (eqO (PySem.W.findIn K (.ref C) "__setattr__") (some (some (.builtin "object.__setattr__"))) && (decide (PySem.W.subIn K (.ref C) (.type "BaseException") = some true) && (decide (PySem.W.typeIn K (.ref C) = some (.type "type")) && PySem.W.keepIn K (.ref C))))
theorem xcB_ok {K : PySem.W.Frag} {C : Addr} (q : xcB K C = true) : OexC K C := by
  obtain ⟨h1, q⟩ := ba q
  obtain ⟨h2, q⟩ := ba q
  obtain ⟨h3, q⟩ := ba q
  obtain ⟨h4, h5⟩ := ba q
  exact ⟨oexB_ok h1, eqO_ok h2, of_decide_eq_true h3, of_decide_eq_true h4, h5⟩
/-- its instances asked by isinstance -/
def icB (K : PySem.W.Frag) (D : Addr) : Bool := xfB K D && (eqO (PySem.W.findIn K (.ref D) "__class__") (some (some (.builtin "object.__class__"))) && (eqO (PySem.W.specialIn K (.builtin "object.__class__") "__get__") (some (some (.builtin "getset_descriptor.__get__"))) &&
  (decide (PySem.W.takesIn K (.builtin "object.__class__") = some true) && decide (PySem.W.mroIn K D (.type "object") = some true))))
theorem icB_ok {K : PySem.W.Frag} {C : Addr} (q : icB K C = true) : ExcC K C := by
  obtain ⟨h1, q⟩ := ba q
  obtain ⟨h2, q⟩ := ba q
  obtain ⟨h3, q⟩ := ba q
  obtain ⟨h4, h5⟩ := ba q
  have x := xfB_ok h1
  exact ⟨x.ga, x.gg, x.exC, x.hdC, eqO_ok h2, eqO_ok h3, of_decide_eq_true h4, of_decide_eq_true h5⟩
/-- the class's inherited __init__ read off it -/
def xiB (K : PySem.W.Frag) (C : Addr) : Bool := eqO (PySem.W.specialIn K (.ref C) "__getattribute__") (some (some (.builtin "type.__getattribute__"))) && (PySem.W.readsIn K C (.type "type") && (match PySem.W.findCls K (.ref C) (.type "type") "__init__" with
  | some (.val (.builtin n)) => n == "ValueError.__init__"
  | _ => false))
theorem xiB_ok {X : Cx} {x : Str} {C : Addr} (m : X.mg x = some (.ref C)) (q : xiB X.K C = true) : XiF X x C := by
  obtain ⟨h1, q⟩ := ba q
  obtain ⟨h2, h3⟩ := ba q
  refine ⟨m, eqO_ok h1, h2, ?_⟩
  split at h3
  · rename_i n e
    rw [e, beq_iff_eq.mp h3]
  · cases h3
theorem relV_ref {v : V} {a : Addr} {u : Value} (h : RelV v (.ref a)) (h2 : RelV v u) : u = .ref a := by
  cases v with
  | ref b =>
    have e : Value.ref a = Value.ref b := h
    have e2 : u = Value.ref b := h2
    rw [e2, e]
  | non => exact absurd (show Value.ref a = Value.none from h) (fun z => nomatch z)
  | bl b => exact absurd (show Value.ref a = Value.bool b from h) (fun z => nomatch z)
  | ty b => exact absurd (show Value.ref a = Value.type b from h) (fun z => nomatch z)
  | int i => obtain ⟨_, h⟩ := h; exact absurd h (fun z => nomatch z)
  | str i => obtain ⟨_, h⟩ := h; exact absurd h (fun z => nomatch z)
  | byt i => obtain ⟨_, h⟩ := h; exact absurd h (fun z => nomatch z)
  | flt i => obtain ⟨_, h⟩ := h; exact absurd h (fun z => nomatch z)
theorem gl_ref {T : Nm} {K : PySem.W.Frag} {mg : Str → Option Value} {i : Nat} {a : Addr} (m : mg (T.nm i) = some (.ref a)) : ∃ u v, mg (T.nm i) = some u ∧ RelV v u ∧ ∀ H io, RV T K mg H io (.gl i) v := ⟨.ref a, .ref a, m, rfl, fun _ _ => ⟨_, m, rfl⟩⟩
theorem gl_only {T : Nm} {K : PySem.W.Frag} {mg : Str → Option Value} {H : Hp} {io : List Addr} {i : Nat} {a : Addr} {v : V} {u : Value} (m : mg (T.nm i) = some (.ref a)) (h : RV T K mg H io (.gl i) v) (h2 : RelV v u) : u = .ref a := by
  obtain ⟨u', m', r⟩ := h
  rw [m] at m'
  cases m'
  exact relV_ref r h2
end Mi

/-! k66: the words of its defs, printed by a program. -/
namespace K66
open PySem L2 Mi
def nmL : List Str := ["PourError", "FormError", "DeedError", "BadName", "Taken", "NoTable", "NoColumn", "Twice", "Ring", "BadText", "Tie", "Clash", "Lost", "Overtaken", "NoDealing", "name", "at", "other", "one", "table", "cells", "row", "number"]
def T : Nm := nmOf nmL (by decide +kernel) (by decide +kernel)
def b0 : Sms := (.cons (.ex (.xini [3] (.cons (.var 0) (.cons (.js (.cons (.lit (.str "no name: ")) (.cons (.fm (.var 1)) .nil))) .nil)))) (.cons (.xset (.var 0) [3] 15 (.var 1)) .nil))
def b1 : Sms := (.cons (.ex (.xini [4] (.cons (.var 0) (.cons (.js (.cons (.lit (.str "it is there: ")) (.cons (.fm (.var 1)) .nil))) .nil)))) (.cons (.xset (.var 0) [4] 15 (.var 1)) .nil))
def b2 : Sms := (.cons (.ex (.xini [5] (.cons (.var 0) (.cons (.js (.cons (.lit (.str "no such table: ")) (.cons (.fm (.var 1)) .nil))) .nil)))) (.cons (.xset (.var 0) [5] 15 (.var 1)) .nil))
def b3 : Sms := (.cons (.ex (.xini [6] (.cons (.var 0) (.cons (.js (.cons (.lit (.str "no such column: ")) (.cons (.fm (.var 1)) .nil))) .nil)))) (.cons (.xset (.var 0) [6] 15 (.var 1)) .nil))
def b4 : Sms := (.cons (.ex (.xini [7] (.cons (.var 0) (.cons (.js (.cons (.lit (.str "set twice: ")) (.cons (.fm (.var 1)) .nil))) .nil)))) (.cons (.xset (.var 0) [7] 15 (.var 1)) .nil))
def b5 : Sms := (.cons (.ex (.xini [8] (.cons (.var 0) (.cons (.js (.cons (.lit (.str "not upward: ")) (.cons (.fm (.var 1)) .nil))) .nil)))) (.cons (.xset (.var 0) [8] 15 (.var 1)) .nil))
def b6 : Sms := (.cons (.ex (.xini [9] (.cons (.var 0) (.cons (.js (.cons (.lit (.str "not so written: ")) (.cons (.fm (.var 1)) .nil))) .nil)))) (.cons (.xset (.var 0) [9] 16 (.var 1)) .nil))
def b7 : Sms := (.cons (.ex (.xini [10] (.cons (.var 0) (.cons (.js (.cons (.lit (.str "they tie: ")) (.cons (.fm (.var 2)) (.cons (.lit (.str ", ")) (.cons (.fm (.var 3)) .nil))))) .nil)))) (.cons (.xset (.var 0) [10] 19 (.var 1)) (.cons (.xset (.var 0) [10] 18 (.var 2)) (.cons (.xset (.var 0) [10] 17 (.var 3)) .nil))))
def b8 : Sms := (.cons (.ex (.xini [11] (.cons (.var 0) (.cons (.js (.cons (.lit (.str "they clash: ")) (.cons (.fm (.var 1)) .nil))) .nil)))) (.cons (.xset (.var 0) [11] 19 (.var 1)) (.cons (.xset (.var 0) [11] 20 (.var 2)) .nil)))
def b9 : Sms := (.cons (.ex (.xini [12] (.cons (.var 0) (.cons (.js (.cons (.lit (.str "it is lost: ")) (.cons (.fm (.var 1)) .nil))) .nil)))) (.cons (.xset (.var 0) [12] 19 (.var 1)) (.cons (.xset (.var 0) [12] 21 (.var 2)) .nil)))
def b10 : Sms := (.cons (.ex (.xini [13] (.cons (.var 0) (.cons (.js (.cons (.lit (.str "others were sooner: ")) (.cons (.fm (.var 1)) .nil))) .nil)))) (.cons (.xset (.var 0) [13] 22 (.var 1)) .nil))
def b11 : Sms := (.cons (.ex (.xini [14] (.cons (.var 0) (.cons (.js (.cons (.lit (.str "not open: ")) (.cons (.fm (.var 1)) .nil))) .nil)))) (.cons (.xset (.var 0) [14] 22 (.var 1)) .nil))
def b12 : Sms := (.cons (.set 4 (.xmkk 10 7 .nil (.cons (.op .add (.var 3) (.lit (.int 1))) (.cons (.var 0) (.cons (.var 3) .nil))) (fun as bs => pick [.p 0, .k 1, .k 2, .k 0] as [] [] bs))) (.cons (.set 5 (.xmkk 11 8 .nil (.cons (.var 2) (.cons (.var 1) .nil)) (fun as bs => pick [.p 0, .k 1, .k 0] as [] [] bs))) (.cons (.set 6 (.xmkk 12 9 .nil (.cons (.var 2) (.cons (.var 0) .nil)) (fun as bs => pick [.p 0, .k 1, .k 0] as [] [] bs))) (.cons (.set 7 (.lst (.cons (.xfl (.var 4) [10, 11, 12] 19) (.cons (.xfl (.var 4) [10] 18) (.cons (.xfl (.var 4) [10] 17) (.cons (.xfl (.var 5) [10, 11, 12] 19) (.cons (.xfl (.var 5) [11] 20) (.cons (.xfl (.var 6) [10, 11, 12] 19) (.cons (.xfl (.var 6) [12] 21) .nil))))))))) (.cons (.set 8 (.lst (.cons (.xmk 3 0 (.cons (.var 0) .nil) (pick [] [] [] [] [])) (.cons (.xmkk 4 1 .nil (.cons (.var 1) .nil) (fun as bs => pick [.p 0, .k 0] as [] [] bs)) (.cons (.xmk 5 2 (.cons (.var 0) .nil) (pick [] [] [] [] [])) (.cons (.xmkk 6 3 .nil (.cons (.var 1) .nil) (fun as bs => pick [.p 0, .k 0] as [] [] bs)) (.cons (.xmk 7 4 (.cons (.var 0) .nil) (pick [] [] [] [] [])) (.cons (.xmkk 8 5 .nil (.cons (.var 1) .nil) (fun as bs => pick [.p 0, .k 0] as [] [] bs)) .nil)))))))) (.cons (.set 7 (.op .add (.var 7) (.lc (.n 9) [9] (.sq (.var 8)) (.lit (.bl true)) (.xfl (.var 9) [3, 4, 5, 6, 7, 8] 15)))) (.cons (.set 7 (.op .add (.var 7) (.lst (.cons (.xfl (.xmk 9 6 .nil (pick [.t 0] [] [(.int 0)] [] [])) [9] 16) (.cons (.xfl (.xmk 9 6 (.cons (.var 3) .nil) (pick [] [] [(.int 0)] [] [])) [9] 16) (.cons (.xfl (.xmkk 9 6 .nil (.cons (.op .add (.var 3) (.lit (.int 2))) .nil) (fun as bs => pick [.p 0, .k 0] as [(.int 0)] [] bs)) [9] 16) .nil)))))) (.cons (.set 7 (.op .add (.var 7) (.lst (.cons (.xfl (.xmk 13 10 .nil (pick [.t 0] [] [(.int 0)] [] [])) [13, 14] 22) (.cons (.xfl (.xmk 13 10 (.cons (.var 3) .nil) (pick [] [] [(.int 0)] [] [])) [13, 14] 22) (.cons (.xfl (.xmkk 13 10 .nil (.cons (.op .add (.var 3) (.lit (.int 3))) .nil) (fun as bs => pick [.p 0, .k 0] as [(.int 0)] [] bs)) [13, 14] 22) .nil)))))) (.cons (.rt (.op .add (.var 7) (.lst (.cons (.xfl (.xmk 14 11 (.cons (.var 3) .nil) (pick [] [] [] [] [])) [13, 14] 22) (.cons (.xfl (.xmkk 14 11 .nil (.cons (.op .add (.var 3) (.lit (.int 4))) .nil) (fun as bs => pick [.p 0, .k 0] as [] [] bs)) [13, 14] 22) .nil))))) .nil)))))))))
def b13_f1 : Sms := (.cons (.set 1 (.op .mod (.op .add (.op .mul (.var 1) (.lit (.int 48271))) (.lit (.int 11))) (.lit (.int 2147483647)))) (.cons (.set 5 (.ix (.var 3) (.op .mod (.op .fdiv (.var 1) (.lit (.int 7))) (.lit (.int 26))))) (.cons (.set 6 (.op .add (.lit (.str "row")) (.ix (.var 3) (.op .mod (.op .fdiv (.var 1) (.lit (.int 401))) (.lit (.int 26)))))) (.cons (.set 7 (.op .mod (.op .fdiv (.var 1) (.lit (.int 16))) (.ix (.lst (.cons (.lit (.int 5)) (.cons (.op .pow (.lit (.int 10)) (.lit (.int 9))) .nil))) (.op .mod (.var 4) (.lit (.int 2)))))) (.cons (.set 8 (.sl0 (.tup (.cons (.var 7) (.cons (.lit .non) (.cons (.op .sub (.lit (.int 0)) (.var 7)) .nil)))) (.op .add (.lit (.int 1)) (.op .mod (.op .fdiv (.var 1) (.lit (.int 4096))) (.lit (.int 3)))))) (.cons (.set 9 (.lst (.cons (.var 5) (.cons (.var 7) (.cons (.op .add (.var 7) (.lit (.int 1))) (.cons (.var 6) (.cons (.var 8) (.cons (.var 5) (.cons (.var 8) (.cons (.var 5) (.cons (.var 6) (.cons (.var 5) (.cons (.var 6) (.cons (.var 5) (.cons (.var 6) (.cons (.lit (.int 0)) (.cons (.var 7) (.cons (.op .add (.var 7) (.lit (.int 2))) (.cons (.lit (.int 0)) (.cons (.var 7) (.cons (.op .add (.var 7) (.lit (.int 3))) (.cons (.var 7) (.cons (.op .add (.var 7) (.lit (.int 4))) .nil))))))))))))))))))))))) (.cons (.set 10 (.xmkk 10 7 .nil (.cons (.var 5) (.cons (.var 7) (.cons (.var 7) .nil))) (fun as bs => pick [.p 0, .k 0, .k 1, .k 2] as [] [] bs))) (.cons (.set 11 (.xmkk 10 7 .nil (.cons (.var 6) (.cons (.lit (.int 0)) (.cons (.op .add (.var 7) (.lit (.int 9))) .nil))) (fun as bs => pick [.p 0, .k 0, .k 1, .k 2] as [] [] bs))) (.cons (.iff (.op .ne (.callk 12 (.cons (.var 5) (.cons (.var 6) (.cons (.var 8) (.cons (.var 7) .nil)))) .nil (fun as bs => pick [.p 0, .p 1, .p 2, .p 3] as [] [] bs)) (.var 9)) (.cons (.rt (.lit (.bl false))) .nil) .nil) (.cons (.iff (.op .ne (.lst (.cons (.xfl (.var 10) [10, 11, 12] 19) (.cons (.xfl (.var 10) [10] 17) (.cons (.xfl (.var 11) [10, 11, 12] 19) (.cons (.xfl (.var 11) [10] 17) .nil))))) (.lst (.cons (.var 5) (.cons (.var 7) (.cons (.var 6) (.cons (.op .add (.var 7) (.lit (.int 9))) .nil)))))) (.cons (.rt (.lit (.bl false))) .nil) .nil) (.cons (.set 12 (.lst (.cons (.xis (.var 10) [(9, false), (10, true)]) (.cons (.xis (.var 10) [(9, true), (10, false)]) (.cons (.xis (.xmk 9 6 .nil (pick [.t 0] [] [(.int 0)] [] [])) [(9, true), (10, false)]) .nil))))) (.cons (.iff (.orr (.op .ne (.var 12) (.lst (.cons (.lit (.bl true)) (.cons (.lit (.bl false)) (.cons (.lit (.bl true)) .nil))))) (.nt (.xis (.var 11) [(9, true), (10, true)]))) (.cons (.rt (.lit (.bl false))) .nil) .nil) .nil))))))))))))
def b13_f2 : Sms := (.cons (.set 1 (.op .mod (.op .add (.op .add (.op .mul (.var 1) (.lit (.int 48271))) (.op .mod (.var 2) (.lit (.int 1000003)))) (.lit (.int 11))) (.lit (.int 2147483647)))) .nil)
def b13 : Sms := (.cons (.set 1 (.lit (.int 7))) (.cons (.fr (.n 2) (.sq (.sl0 (.var 0) (.lit (.int 63)))) b13_f2) (.cons (.set 3 (.lit (.str "abcdefghijklmnopqrstuvwxyz"))) (.cons (.fr (.n 4) (.rng (.lit (.int 4))) b13_f1) (.cons (.rt (.lit (.bl true))) .nil)))))
def P : Pg := { np := fun i => [2, 2, 2, 2, 2, 2, 2, 4, 3, 3, 2, 2, 4, 1].getD i 0, ns := fun i => [2, 2, 2, 2, 2, 2, 2, 4, 3, 3, 2, 2, 10, 13].getD i 0, bd := fun i => [b0, b1, b2, b3, b4, b5, b6, b7, b8, b9, b10, b11, b12, b13][i]?, xf := fun _ _ => none }
end K66

/-! k66: the derivations, printed by a program. -/
namespace K66
open PySem L2 Mi PyProof.Rows
def top (i : Nat) : Stmt := PySem.Challenge.pw_onepour_k66_refusals_made_by_hand.main.body.getD i (.Pass ⟨0, 0, 0, 0⟩)
abbrev s0 : Stmt := inClass (top 4) 0
theorem sc0 : FnScope ["self", "name"] ["self", "name"] (defScope s0) := ⟨rfl, rfl, rfl, by decide +kernel, rfl, by decide +kernel, by decide +kernel⟩
def d0 : He.DefD := ⟨("BadName", some "__init__"), "__init__", "BadName.__init__", defArgs s0, defBody s0, defScope s0, [], []⟩
abbrev s1 : Stmt := inClass (top 5) 0
theorem sc1 : FnScope ["self", "name"] ["self", "name"] (defScope s1) := ⟨rfl, rfl, rfl, by decide +kernel, rfl, by decide +kernel, by decide +kernel⟩
def d1 : He.DefD := ⟨("Taken", some "__init__"), "__init__", "Taken.__init__", defArgs s1, defBody s1, defScope s1, [], []⟩
abbrev s2 : Stmt := inClass (top 6) 0
theorem sc2 : FnScope ["self", "name"] ["self", "name"] (defScope s2) := ⟨rfl, rfl, rfl, by decide +kernel, rfl, by decide +kernel, by decide +kernel⟩
def d2 : He.DefD := ⟨("NoTable", some "__init__"), "__init__", "NoTable.__init__", defArgs s2, defBody s2, defScope s2, [], []⟩
abbrev s3 : Stmt := inClass (top 7) 0
theorem sc3 : FnScope ["self", "name"] ["self", "name"] (defScope s3) := ⟨rfl, rfl, rfl, by decide +kernel, rfl, by decide +kernel, by decide +kernel⟩
def d3 : He.DefD := ⟨("NoColumn", some "__init__"), "__init__", "NoColumn.__init__", defArgs s3, defBody s3, defScope s3, [], []⟩
abbrev s4 : Stmt := inClass (top 8) 0
theorem sc4 : FnScope ["self", "name"] ["self", "name"] (defScope s4) := ⟨rfl, rfl, rfl, by decide +kernel, rfl, by decide +kernel, by decide +kernel⟩
def d4 : He.DefD := ⟨("Twice", some "__init__"), "__init__", "Twice.__init__", defArgs s4, defBody s4, defScope s4, [], []⟩
abbrev s5 : Stmt := inClass (top 9) 0
theorem sc5 : FnScope ["self", "name"] ["self", "name"] (defScope s5) := ⟨rfl, rfl, rfl, by decide +kernel, rfl, by decide +kernel, by decide +kernel⟩
def d5 : He.DefD := ⟨("Ring", some "__init__"), "__init__", "Ring.__init__", defArgs s5, defBody s5, defScope s5, [], []⟩
abbrev s6 : Stmt := inClass (top 10) 0
theorem sc6 : FnScope ["self", "at"] ["self", "at"] (defScope s6) := ⟨rfl, rfl, rfl, by decide +kernel, rfl, by decide +kernel, by decide +kernel⟩
def d6 : He.DefD := ⟨("BadText", some "__init__"), "__init__", "BadText.__init__", defArgs s6, defBody s6, defScope s6, [(.int 0)], []⟩
abbrev s7 : Stmt := inClass (top 11) 0
theorem sc7 : FnScope ["self", "table", "one", "other"] ["self", "table", "one", "other"] (defScope s7) := ⟨rfl, rfl, rfl, by decide +kernel, rfl, by decide +kernel, by decide +kernel⟩
def d7 : He.DefD := ⟨("Tie", some "__init__"), "__init__", "Tie.__init__", defArgs s7, defBody s7, defScope s7, [], []⟩
abbrev s8 : Stmt := inClass (top 12) 0
theorem sc8 : FnScope ["self", "table", "cells"] ["self", "table", "cells"] (defScope s8) := ⟨rfl, rfl, rfl, by decide +kernel, rfl, by decide +kernel, by decide +kernel⟩
def d8 : He.DefD := ⟨("Clash", some "__init__"), "__init__", "Clash.__init__", defArgs s8, defBody s8, defScope s8, [], []⟩
abbrev s9 : Stmt := inClass (top 13) 0
theorem sc9 : FnScope ["self", "table", "row"] ["self", "table", "row"] (defScope s9) := ⟨rfl, rfl, rfl, by decide +kernel, rfl, by decide +kernel, by decide +kernel⟩
def d9 : He.DefD := ⟨("Lost", some "__init__"), "__init__", "Lost.__init__", defArgs s9, defBody s9, defScope s9, [], []⟩
abbrev s10 : Stmt := inClass (top 14) 0
theorem sc10 : FnScope ["self", "number"] ["self", "number"] (defScope s10) := ⟨rfl, rfl, rfl, by decide +kernel, rfl, by decide +kernel, by decide +kernel⟩
def d10 : He.DefD := ⟨("Overtaken", some "__init__"), "__init__", "Overtaken.__init__", defArgs s10, defBody s10, defScope s10, [(.int 0)], []⟩
abbrev s11 : Stmt := inClass (top 15) 0
theorem sc11 : FnScope ["self", "number"] ["self", "number"] (defScope s11) := ⟨rfl, rfl, rfl, by decide +kernel, rfl, by decide +kernel, by decide +kernel⟩
def d11 : He.DefD := ⟨("NoDealing", some "__init__"), "__init__", "NoDealing.__init__", defArgs s11, defBody s11, defScope s11, [], []⟩
abbrev s12 : Stmt := top 17
theorem sc12 : FnScope ["_law_a", "_law_b", "_law_line", "_law_n", "_law_tie", "_law_clash", "_law_gone", "_law_found", "_law_names", "_law_bad"] ["_law_a", "_law_b", "_law_line", "_law_n"] (defScope s12) := ⟨rfl, rfl, rfl, by decide +kernel, rfl, by decide +kernel, by decide +kernel⟩
def d12 : He.DefD := ⟨("_law_bear", none), "_law_bear", "_law_bear", defArgs s12, defBody s12, defScope s12, [], []⟩
abbrev s13 : Stmt := top 18
theorem sc13 : FnScope ["_law_script", "_law_seed", "_law_cell", "_law_letters", "_law_turn", "_law_a", "_law_b", "_law_n", "_law_line", "_law_due", "_law_first", "_law_second", "_law_kinds"] ["_law_script"] (defScope s13) := ⟨rfl, rfl, rfl, by decide +kernel, rfl, by decide +kernel, by decide +kernel⟩
def d13 : He.DefD := ⟨("law", none), "law", "law", defArgs s13, defBody s13, defScope s13, [], []⟩
def fn : List He.DefD := [d0, d1, d2, d3, d4, d5, d6, d7, d8, d9, d10, d11, d12, d13]
def fa : List He.Fa := [.glo "BadName", .glo "BadText", .glo "Clash", .glo "DeedError", .glo "FormError", .glo "Lost", .glo "NoColumn", .glo "NoDealing", .glo "NoTable", .glo "Overtaken", .glo "PourError", .glo "Ring", .glo "Taken", .glo "Tie", .glo "Twice", .glo "_law_bear", .glo "law", .free "range", .free "isinstance"]
def exl (K : PySem.W.Frag) : List Bool := [
  xcB K (He.ga K "BadName"), 
  xfB K (He.ga K "BadName"), 
  He.eqO (PySem.W.findIn K (.ref (He.ga K "BadName")) "__init__") (some (some (.ref (He.fAd K ("BadName", some "__init__"))))), 
  decide (PySem.W.typeIn K (.ref (He.fAd K ("BadName", some "__init__"))) = some (.type "function")), 
  xcB K (He.ga K "BadText"), 
  xfB K (He.ga K "BadText"), 
  He.eqO (PySem.W.findIn K (.ref (He.ga K "BadText")) "__init__") (some (some (.ref (He.fAd K ("BadText", some "__init__"))))), 
  decide (PySem.W.typeIn K (.ref (He.fAd K ("BadText", some "__init__"))) = some (.type "function")), 
  xcB K (He.ga K "Clash"), 
  xfB K (He.ga K "Clash"), 
  He.eqO (PySem.W.findIn K (.ref (He.ga K "Clash")) "__init__") (some (some (.ref (He.fAd K ("Clash", some "__init__"))))), 
  decide (PySem.W.typeIn K (.ref (He.fAd K ("Clash", some "__init__"))) = some (.type "function")), 
  xcB K (He.ga K "Lost"), 
  xfB K (He.ga K "Lost"), 
  He.eqO (PySem.W.findIn K (.ref (He.ga K "Lost")) "__init__") (some (some (.ref (He.fAd K ("Lost", some "__init__"))))), 
  decide (PySem.W.typeIn K (.ref (He.fAd K ("Lost", some "__init__"))) = some (.type "function")), 
  xcB K (He.ga K "NoColumn"), 
  xfB K (He.ga K "NoColumn"), 
  He.eqO (PySem.W.findIn K (.ref (He.ga K "NoColumn")) "__init__") (some (some (.ref (He.fAd K ("NoColumn", some "__init__"))))), 
  decide (PySem.W.typeIn K (.ref (He.fAd K ("NoColumn", some "__init__"))) = some (.type "function")), 
  xcB K (He.ga K "NoDealing"), 
  xfB K (He.ga K "NoDealing"), 
  He.eqO (PySem.W.findIn K (.ref (He.ga K "NoDealing")) "__init__") (some (some (.ref (He.fAd K ("NoDealing", some "__init__"))))), 
  decide (PySem.W.typeIn K (.ref (He.fAd K ("NoDealing", some "__init__"))) = some (.type "function")), 
  xcB K (He.ga K "NoTable"), 
  xfB K (He.ga K "NoTable"), 
  He.eqO (PySem.W.findIn K (.ref (He.ga K "NoTable")) "__init__") (some (some (.ref (He.fAd K ("NoTable", some "__init__"))))), 
  decide (PySem.W.typeIn K (.ref (He.fAd K ("NoTable", some "__init__"))) = some (.type "function")), 
  xcB K (He.ga K "Overtaken"), 
  xfB K (He.ga K "Overtaken"), 
  He.eqO (PySem.W.findIn K (.ref (He.ga K "Overtaken")) "__init__") (some (some (.ref (He.fAd K ("Overtaken", some "__init__"))))), 
  decide (PySem.W.typeIn K (.ref (He.fAd K ("Overtaken", some "__init__"))) = some (.type "function")), 
  xcB K (He.ga K "Ring"), 
  xfB K (He.ga K "Ring"), 
  He.eqO (PySem.W.findIn K (.ref (He.ga K "Ring")) "__init__") (some (some (.ref (He.fAd K ("Ring", some "__init__"))))), 
  decide (PySem.W.typeIn K (.ref (He.fAd K ("Ring", some "__init__"))) = some (.type "function")), 
  xcB K (He.ga K "Taken"), 
  xfB K (He.ga K "Taken"), 
  He.eqO (PySem.W.findIn K (.ref (He.ga K "Taken")) "__init__") (some (some (.ref (He.fAd K ("Taken", some "__init__"))))), 
  decide (PySem.W.typeIn K (.ref (He.fAd K ("Taken", some "__init__"))) = some (.type "function")), 
  xcB K (He.ga K "Tie"), 
  xfB K (He.ga K "Tie"), 
  He.eqO (PySem.W.findIn K (.ref (He.ga K "Tie")) "__init__") (some (some (.ref (He.fAd K ("Tie", some "__init__"))))), 
  decide (PySem.W.typeIn K (.ref (He.fAd K ("Tie", some "__init__"))) = some (.type "function")), 
  xcB K (He.ga K "Twice"), 
  xfB K (He.ga K "Twice"), 
  He.eqO (PySem.W.findIn K (.ref (He.ga K "Twice")) "__init__") (some (some (.ref (He.fAd K ("Twice", some "__init__"))))), 
  decide (PySem.W.typeIn K (.ref (He.fAd K ("Twice", some "__init__"))) = some (.type "function")), 
  He.eqO (PySem.W.findIn K (.ref (He.ga K "BadText")) "at") (some none), 
  He.eqO (PySem.W.findIn K (.ref (He.ga K "Clash")) "cells") (some none), 
  He.eqO (PySem.W.findIn K (.ref (He.ga K "BadName")) "name") (some none), 
  He.eqO (PySem.W.findIn K (.ref (He.ga K "Taken")) "name") (some none), 
  He.eqO (PySem.W.findIn K (.ref (He.ga K "NoTable")) "name") (some none), 
  He.eqO (PySem.W.findIn K (.ref (He.ga K "NoColumn")) "name") (some none), 
  He.eqO (PySem.W.findIn K (.ref (He.ga K "Twice")) "name") (some none), 
  He.eqO (PySem.W.findIn K (.ref (He.ga K "Ring")) "name") (some none), 
  He.eqO (PySem.W.findIn K (.ref (He.ga K "Overtaken")) "number") (some none), 
  He.eqO (PySem.W.findIn K (.ref (He.ga K "NoDealing")) "number") (some none), 
  He.eqO (PySem.W.findIn K (.ref (He.ga K "Tie")) "one") (some none), 
  He.eqO (PySem.W.findIn K (.ref (He.ga K "Tie")) "other") (some none), 
  He.eqO (PySem.W.findIn K (.ref (He.ga K "Lost")) "row") (some none), 
  He.eqO (PySem.W.findIn K (.ref (He.ga K "Tie")) "table") (some none), 
  He.eqO (PySem.W.findIn K (.ref (He.ga K "Clash")) "table") (some none), 
  He.eqO (PySem.W.findIn K (.ref (He.ga K "Lost")) "table") (some none), 
  xiB K (He.ga K "DeedError"), 
  xiB K (He.ga K "FormError"), 
  icB K (He.ga K "Tie"), 
  decide (PySem.W.kitOne K (.ref (He.ga K "Tie")) (.ref (He.ga K "DeedError")) = some true), 
  decide (PySem.W.kitOne K (.ref (He.ga K "Tie")) (.ref (He.ga K "FormError")) = some false), 
  decide (PySem.W.kitOne K (.ref (He.ga K "Tie")) (.ref (He.ga K "PourError")) = some true), 
  icB K (He.ga K "BadText"), 
  decide (PySem.W.kitOne K (.ref (He.ga K "BadText")) (.ref (He.ga K "DeedError")) = some false), 
  decide (PySem.W.kitOne K (.ref (He.ga K "BadText")) (.ref (He.ga K "FormError")) = some true), 
  decide (PySem.W.kitOne K (.ref (He.ga K "BadText")) (.ref (He.ga K "PourError")) = some true)]
def ex (K : PySem.W.Frag) : Bool := (exl K).all id
structure Txt (K : PySem.W.Frag) (mg : Str → Option Value) (fd : Nat → FuncData) : Prop where
  ex : ∀ (i : Nat) (b : Bool), (exl K)[i]? = some b → b = true
  a_BadName : mg "BadName" = some (.ref (He.ga K "BadName"))
  a_BadText : mg "BadText" = some (.ref (He.ga K "BadText"))
  a_Clash : mg "Clash" = some (.ref (He.ga K "Clash"))
  a_DeedError : mg "DeedError" = some (.ref (He.ga K "DeedError"))
  a_FormError : mg "FormError" = some (.ref (He.ga K "FormError"))
  a_Lost : mg "Lost" = some (.ref (He.ga K "Lost"))
  a_NoColumn : mg "NoColumn" = some (.ref (He.ga K "NoColumn"))
  a_NoDealing : mg "NoDealing" = some (.ref (He.ga K "NoDealing"))
  a_NoTable : mg "NoTable" = some (.ref (He.ga K "NoTable"))
  a_Overtaken : mg "Overtaken" = some (.ref (He.ga K "Overtaken"))
  a_PourError : mg "PourError" = some (.ref (He.ga K "PourError"))
  a_Ring : mg "Ring" = some (.ref (He.ga K "Ring"))
  a_Taken : mg "Taken" = some (.ref (He.ga K "Taken"))
  a_Tie : mg "Tie" = some (.ref (He.ga K "Tie"))
  a_Twice : mg "Twice" = some (.ref (He.ga K "Twice"))
  a12 : mg "_law_bear" = some (.ref (He.ga K "_law_bear"))
  a13 : mg "law" = some (.ref (He.ga K "law"))
  no_range : mg "range" = none
  no_isinstance : mg "isinstance" = none
  F0 : FunD K "__init__" "BadName.__init__" (defArgs s0) (defBody s0) (defScope s0) [] [] (He.fAd K ("BadName", some "__init__")) (fd 0)
  F1 : FunD K "__init__" "Taken.__init__" (defArgs s1) (defBody s1) (defScope s1) [] [] (He.fAd K ("Taken", some "__init__")) (fd 1)
  F2 : FunD K "__init__" "NoTable.__init__" (defArgs s2) (defBody s2) (defScope s2) [] [] (He.fAd K ("NoTable", some "__init__")) (fd 2)
  F3 : FunD K "__init__" "NoColumn.__init__" (defArgs s3) (defBody s3) (defScope s3) [] [] (He.fAd K ("NoColumn", some "__init__")) (fd 3)
  F4 : FunD K "__init__" "Twice.__init__" (defArgs s4) (defBody s4) (defScope s4) [] [] (He.fAd K ("Twice", some "__init__")) (fd 4)
  F5 : FunD K "__init__" "Ring.__init__" (defArgs s5) (defBody s5) (defScope s5) [] [] (He.fAd K ("Ring", some "__init__")) (fd 5)
  F6 : FunD K "__init__" "BadText.__init__" (defArgs s6) (defBody s6) (defScope s6) [(.int 0)] [] (He.fAd K ("BadText", some "__init__")) (fd 6)
  F7 : FunD K "__init__" "Tie.__init__" (defArgs s7) (defBody s7) (defScope s7) [] [] (He.fAd K ("Tie", some "__init__")) (fd 7)
  F8 : FunD K "__init__" "Clash.__init__" (defArgs s8) (defBody s8) (defScope s8) [] [] (He.fAd K ("Clash", some "__init__")) (fd 8)
  F9 : FunD K "__init__" "Lost.__init__" (defArgs s9) (defBody s9) (defScope s9) [] [] (He.fAd K ("Lost", some "__init__")) (fd 9)
  F10 : FunD K "__init__" "Overtaken.__init__" (defArgs s10) (defBody s10) (defScope s10) [(.int 0)] [] (He.fAd K ("Overtaken", some "__init__")) (fd 10)
  F11 : FunD K "__init__" "NoDealing.__init__" (defArgs s11) (defBody s11) (defScope s11) [] [] (He.fAd K ("NoDealing", some "__init__")) (fd 11)
  F12 : FunD K "_law_bear" "_law_bear" (defArgs s12) (defBody s12) (defScope s12) [] [] (He.fAd K ("_law_bear", none)) (fd 12)
  F13 : FunD K "law" "law" (defArgs s13) (defBody s13) (defScope s13) [] [] (He.fAd K ("law", none)) (fd 13)
section
variable {K : PySem.W.Frag} {mg : Str → Option Value} {fd : Nat → FuncData} (X : Txt K mg fd)
include X
theorem Txt.gl_DeedError : ∃ u v, mg "DeedError" = some u ∧ RelV v u ∧ ∀ H io, RV T K mg H io (.gl 2) v := gl_ref (T := T) (i := 2) X.a_DeedError
theorem Txt.gl_FormError : ∃ u v, mg "FormError" = some u ∧ RelV v u ∧ ∀ H io, RV T K mg H io (.gl 1) v := gl_ref (T := T) (i := 1) X.a_FormError
theorem Txt.gl_PourError : ∃ u v, mg "PourError" = some u ∧ RelV v u ∧ ∀ H io, RV T K mg H io (.gl 0) v := gl_ref (T := T) (i := 0) X.a_PourError
theorem Txt.o_BadName : OexC K (He.ga K "BadName") := xcB_ok (X.ex 0 _ rfl)
theorem Txt.o_BadText : OexC K (He.ga K "BadText") := xcB_ok (X.ex 4 _ rfl)
theorem Txt.o_Clash : OexC K (He.ga K "Clash") := xcB_ok (X.ex 8 _ rfl)
theorem Txt.o_Lost : OexC K (He.ga K "Lost") := xcB_ok (X.ex 12 _ rfl)
theorem Txt.o_NoColumn : OexC K (He.ga K "NoColumn") := xcB_ok (X.ex 16 _ rfl)
theorem Txt.o_NoDealing : OexC K (He.ga K "NoDealing") := xcB_ok (X.ex 20 _ rfl)
theorem Txt.o_NoTable : OexC K (He.ga K "NoTable") := xcB_ok (X.ex 24 _ rfl)
theorem Txt.o_Overtaken : OexC K (He.ga K "Overtaken") := xcB_ok (X.ex 28 _ rfl)
theorem Txt.o_Ring : OexC K (He.ga K "Ring") := xcB_ok (X.ex 32 _ rfl)
theorem Txt.o_Taken : OexC K (He.ga K "Taken") := xcB_ok (X.ex 36 _ rfl)
theorem Txt.o_Tie : OexC K (He.ga K "Tie") := xcB_ok (X.ex 40 _ rfl)
theorem Txt.o_Twice : OexC K (He.ga K "Twice") := xcB_ok (X.ex 44 _ rfl)
theorem Txt.oc_BadName : ∀ c ∈ [3], ∀ C, mg (T.nm c) = some (.ref C) → OexC K C := by
  intro c hc C hC
  have hc : c = 3 := by simpa using hc
  subst hc
  · cases X.a_BadName.symm.trans hC; exact X.o_BadName
theorem Txt.oc_BadText : ∀ c ∈ [9], ∀ C, mg (T.nm c) = some (.ref C) → OexC K C := by
  intro c hc C hC
  have hc : c = 9 := by simpa using hc
  subst hc
  · cases X.a_BadText.symm.trans hC; exact X.o_BadText
theorem Txt.oc_Clash : ∀ c ∈ [11], ∀ C, mg (T.nm c) = some (.ref C) → OexC K C := by
  intro c hc C hC
  have hc : c = 11 := by simpa using hc
  subst hc
  · cases X.a_Clash.symm.trans hC; exact X.o_Clash
theorem Txt.oc_Lost : ∀ c ∈ [12], ∀ C, mg (T.nm c) = some (.ref C) → OexC K C := by
  intro c hc C hC
  have hc : c = 12 := by simpa using hc
  subst hc
  · cases X.a_Lost.symm.trans hC; exact X.o_Lost
theorem Txt.oc_NoColumn : ∀ c ∈ [6], ∀ C, mg (T.nm c) = some (.ref C) → OexC K C := by
  intro c hc C hC
  have hc : c = 6 := by simpa using hc
  subst hc
  · cases X.a_NoColumn.symm.trans hC; exact X.o_NoColumn
theorem Txt.oc_NoDealing : ∀ c ∈ [14], ∀ C, mg (T.nm c) = some (.ref C) → OexC K C := by
  intro c hc C hC
  have hc : c = 14 := by simpa using hc
  subst hc
  · cases X.a_NoDealing.symm.trans hC; exact X.o_NoDealing
theorem Txt.oc_NoTable : ∀ c ∈ [5], ∀ C, mg (T.nm c) = some (.ref C) → OexC K C := by
  intro c hc C hC
  have hc : c = 5 := by simpa using hc
  subst hc
  · cases X.a_NoTable.symm.trans hC; exact X.o_NoTable
theorem Txt.oc_Overtaken : ∀ c ∈ [13], ∀ C, mg (T.nm c) = some (.ref C) → OexC K C := by
  intro c hc C hC
  have hc : c = 13 := by simpa using hc
  subst hc
  · cases X.a_Overtaken.symm.trans hC; exact X.o_Overtaken
theorem Txt.oc_Ring : ∀ c ∈ [8], ∀ C, mg (T.nm c) = some (.ref C) → OexC K C := by
  intro c hc C hC
  have hc : c = 8 := by simpa using hc
  subst hc
  · cases X.a_Ring.symm.trans hC; exact X.o_Ring
theorem Txt.oc_Taken : ∀ c ∈ [4], ∀ C, mg (T.nm c) = some (.ref C) → OexC K C := by
  intro c hc C hC
  have hc : c = 4 := by simpa using hc
  subst hc
  · cases X.a_Taken.symm.trans hC; exact X.o_Taken
theorem Txt.oc_Tie : ∀ c ∈ [10], ∀ C, mg (T.nm c) = some (.ref C) → OexC K C := by
  intro c hc C hC
  have hc : c = 10 := by simpa using hc
  subst hc
  · cases X.a_Tie.symm.trans hC; exact X.o_Tie
theorem Txt.oc_Twice : ∀ c ∈ [7], ∀ C, mg (T.nm c) = some (.ref C) → OexC K C := by
  intro c hc C hC
  have hc : c = 7 := by simpa using hc
  subst hc
  · cases X.a_Twice.symm.trans hC; exact X.o_Twice
theorem Txt.st_BadName_name : ∀ c ∈ [3], ∀ C, mg (T.nm c) = some (.ref C) → OexC K C ∧ PySem.W.findIn K (.ref C) "name" = some none := by
  intro c hc C hC
  have hc : c = 3 := by simpa using hc
  subst hc
  · cases X.a_BadName.symm.trans hC; exact ⟨X.o_BadName, He.eqO_ok (X.ex 50 _ rfl)⟩
theorem Txt.st_BadText_at : ∀ c ∈ [9], ∀ C, mg (T.nm c) = some (.ref C) → OexC K C ∧ PySem.W.findIn K (.ref C) "at" = some none := by
  intro c hc C hC
  have hc : c = 9 := by simpa using hc
  subst hc
  · cases X.a_BadText.symm.trans hC; exact ⟨X.o_BadText, He.eqO_ok (X.ex 48 _ rfl)⟩
theorem Txt.st_Clash_cells : ∀ c ∈ [11], ∀ C, mg (T.nm c) = some (.ref C) → OexC K C ∧ PySem.W.findIn K (.ref C) "cells" = some none := by
  intro c hc C hC
  have hc : c = 11 := by simpa using hc
  subst hc
  · cases X.a_Clash.symm.trans hC; exact ⟨X.o_Clash, He.eqO_ok (X.ex 49 _ rfl)⟩
theorem Txt.st_Clash_table : ∀ c ∈ [11], ∀ C, mg (T.nm c) = some (.ref C) → OexC K C ∧ PySem.W.findIn K (.ref C) "table" = some none := by
  intro c hc C hC
  have hc : c = 11 := by simpa using hc
  subst hc
  · cases X.a_Clash.symm.trans hC; exact ⟨X.o_Clash, He.eqO_ok (X.ex 62 _ rfl)⟩
theorem Txt.st_Lost_row : ∀ c ∈ [12], ∀ C, mg (T.nm c) = some (.ref C) → OexC K C ∧ PySem.W.findIn K (.ref C) "row" = some none := by
  intro c hc C hC
  have hc : c = 12 := by simpa using hc
  subst hc
  · cases X.a_Lost.symm.trans hC; exact ⟨X.o_Lost, He.eqO_ok (X.ex 60 _ rfl)⟩
theorem Txt.st_Lost_table : ∀ c ∈ [12], ∀ C, mg (T.nm c) = some (.ref C) → OexC K C ∧ PySem.W.findIn K (.ref C) "table" = some none := by
  intro c hc C hC
  have hc : c = 12 := by simpa using hc
  subst hc
  · cases X.a_Lost.symm.trans hC; exact ⟨X.o_Lost, He.eqO_ok (X.ex 63 _ rfl)⟩
theorem Txt.st_NoColumn_name : ∀ c ∈ [6], ∀ C, mg (T.nm c) = some (.ref C) → OexC K C ∧ PySem.W.findIn K (.ref C) "name" = some none := by
  intro c hc C hC
  have hc : c = 6 := by simpa using hc
  subst hc
  · cases X.a_NoColumn.symm.trans hC; exact ⟨X.o_NoColumn, He.eqO_ok (X.ex 53 _ rfl)⟩
theorem Txt.st_NoDealing_number : ∀ c ∈ [14], ∀ C, mg (T.nm c) = some (.ref C) → OexC K C ∧ PySem.W.findIn K (.ref C) "number" = some none := by
  intro c hc C hC
  have hc : c = 14 := by simpa using hc
  subst hc
  · cases X.a_NoDealing.symm.trans hC; exact ⟨X.o_NoDealing, He.eqO_ok (X.ex 57 _ rfl)⟩
theorem Txt.st_NoTable_name : ∀ c ∈ [5], ∀ C, mg (T.nm c) = some (.ref C) → OexC K C ∧ PySem.W.findIn K (.ref C) "name" = some none := by
  intro c hc C hC
  have hc : c = 5 := by simpa using hc
  subst hc
  · cases X.a_NoTable.symm.trans hC; exact ⟨X.o_NoTable, He.eqO_ok (X.ex 52 _ rfl)⟩
theorem Txt.st_Overtaken_number : ∀ c ∈ [13], ∀ C, mg (T.nm c) = some (.ref C) → OexC K C ∧ PySem.W.findIn K (.ref C) "number" = some none := by
  intro c hc C hC
  have hc : c = 13 := by simpa using hc
  subst hc
  · cases X.a_Overtaken.symm.trans hC; exact ⟨X.o_Overtaken, He.eqO_ok (X.ex 56 _ rfl)⟩
theorem Txt.st_Ring_name : ∀ c ∈ [8], ∀ C, mg (T.nm c) = some (.ref C) → OexC K C ∧ PySem.W.findIn K (.ref C) "name" = some none := by
  intro c hc C hC
  have hc : c = 8 := by simpa using hc
  subst hc
  · cases X.a_Ring.symm.trans hC; exact ⟨X.o_Ring, He.eqO_ok (X.ex 55 _ rfl)⟩
theorem Txt.st_Taken_name : ∀ c ∈ [4], ∀ C, mg (T.nm c) = some (.ref C) → OexC K C ∧ PySem.W.findIn K (.ref C) "name" = some none := by
  intro c hc C hC
  have hc : c = 4 := by simpa using hc
  subst hc
  · cases X.a_Taken.symm.trans hC; exact ⟨X.o_Taken, He.eqO_ok (X.ex 51 _ rfl)⟩
theorem Txt.st_Tie_one : ∀ c ∈ [10], ∀ C, mg (T.nm c) = some (.ref C) → OexC K C ∧ PySem.W.findIn K (.ref C) "one" = some none := by
  intro c hc C hC
  have hc : c = 10 := by simpa using hc
  subst hc
  · cases X.a_Tie.symm.trans hC; exact ⟨X.o_Tie, He.eqO_ok (X.ex 58 _ rfl)⟩
theorem Txt.st_Tie_other : ∀ c ∈ [10], ∀ C, mg (T.nm c) = some (.ref C) → OexC K C ∧ PySem.W.findIn K (.ref C) "other" = some none := by
  intro c hc C hC
  have hc : c = 10 := by simpa using hc
  subst hc
  · cases X.a_Tie.symm.trans hC; exact ⟨X.o_Tie, He.eqO_ok (X.ex 59 _ rfl)⟩
theorem Txt.st_Tie_table : ∀ c ∈ [10], ∀ C, mg (T.nm c) = some (.ref C) → OexC K C ∧ PySem.W.findIn K (.ref C) "table" = some none := by
  intro c hc C hC
  have hc : c = 10 := by simpa using hc
  subst hc
  · cases X.a_Tie.symm.trans hC; exact ⟨X.o_Tie, He.eqO_ok (X.ex 61 _ rfl)⟩
theorem Txt.st_Twice_name : ∀ c ∈ [7], ∀ C, mg (T.nm c) = some (.ref C) → OexC K C ∧ PySem.W.findIn K (.ref C) "name" = some none := by
  intro c hc C hC
  have hc : c = 7 := by simpa using hc
  subst hc
  · cases X.a_Twice.symm.trans hC; exact ⟨X.o_Twice, He.eqO_ok (X.ex 54 _ rfl)⟩
theorem Txt.xf_at : ∀ c ∈ [9], ∀ C, mg (T.nm c) = some (.ref C) → XfC K C ∧ PySem.W.findIn K (.ref C) "at" = some none := by
  intro c hc C hC
  have hc : c = 9 := by simpa using hc
  subst hc
  · cases X.a_BadText.symm.trans hC; exact ⟨xfB_ok (X.ex 5 _ rfl), He.eqO_ok (X.ex 48 _ rfl)⟩
theorem Txt.xf_cells : ∀ c ∈ [11], ∀ C, mg (T.nm c) = some (.ref C) → XfC K C ∧ PySem.W.findIn K (.ref C) "cells" = some none := by
  intro c hc C hC
  have hc : c = 11 := by simpa using hc
  subst hc
  · cases X.a_Clash.symm.trans hC; exact ⟨xfB_ok (X.ex 9 _ rfl), He.eqO_ok (X.ex 49 _ rfl)⟩
theorem Txt.xf_name : ∀ c ∈ [3, 4, 5, 6, 7, 8], ∀ C, mg (T.nm c) = some (.ref C) → XfC K C ∧ PySem.W.findIn K (.ref C) "name" = some none := by
  intro c hc C hC
  have hc : c = 3 ∨ c = 4 ∨ c = 5 ∨ c = 6 ∨ c = 7 ∨ c = 8 := by simpa using hc
  rcases hc with rfl | rfl | rfl | rfl | rfl | rfl
  · cases X.a_BadName.symm.trans hC; exact ⟨xfB_ok (X.ex 1 _ rfl), He.eqO_ok (X.ex 50 _ rfl)⟩
  · cases X.a_Taken.symm.trans hC; exact ⟨xfB_ok (X.ex 37 _ rfl), He.eqO_ok (X.ex 51 _ rfl)⟩
  · cases X.a_NoTable.symm.trans hC; exact ⟨xfB_ok (X.ex 25 _ rfl), He.eqO_ok (X.ex 52 _ rfl)⟩
  · cases X.a_NoColumn.symm.trans hC; exact ⟨xfB_ok (X.ex 17 _ rfl), He.eqO_ok (X.ex 53 _ rfl)⟩
  · cases X.a_Twice.symm.trans hC; exact ⟨xfB_ok (X.ex 45 _ rfl), He.eqO_ok (X.ex 54 _ rfl)⟩
  · cases X.a_Ring.symm.trans hC; exact ⟨xfB_ok (X.ex 33 _ rfl), He.eqO_ok (X.ex 55 _ rfl)⟩
theorem Txt.xf_number : ∀ c ∈ [13, 14], ∀ C, mg (T.nm c) = some (.ref C) → XfC K C ∧ PySem.W.findIn K (.ref C) "number" = some none := by
  intro c hc C hC
  have hc : c = 13 ∨ c = 14 := by simpa using hc
  rcases hc with rfl | rfl
  · cases X.a_Overtaken.symm.trans hC; exact ⟨xfB_ok (X.ex 29 _ rfl), He.eqO_ok (X.ex 56 _ rfl)⟩
  · cases X.a_NoDealing.symm.trans hC; exact ⟨xfB_ok (X.ex 21 _ rfl), He.eqO_ok (X.ex 57 _ rfl)⟩
theorem Txt.xf_one : ∀ c ∈ [10], ∀ C, mg (T.nm c) = some (.ref C) → XfC K C ∧ PySem.W.findIn K (.ref C) "one" = some none := by
  intro c hc C hC
  have hc : c = 10 := by simpa using hc
  subst hc
  · cases X.a_Tie.symm.trans hC; exact ⟨xfB_ok (X.ex 41 _ rfl), He.eqO_ok (X.ex 58 _ rfl)⟩
theorem Txt.xf_other : ∀ c ∈ [10], ∀ C, mg (T.nm c) = some (.ref C) → XfC K C ∧ PySem.W.findIn K (.ref C) "other" = some none := by
  intro c hc C hC
  have hc : c = 10 := by simpa using hc
  subst hc
  · cases X.a_Tie.symm.trans hC; exact ⟨xfB_ok (X.ex 41 _ rfl), He.eqO_ok (X.ex 59 _ rfl)⟩
theorem Txt.xf_row : ∀ c ∈ [12], ∀ C, mg (T.nm c) = some (.ref C) → XfC K C ∧ PySem.W.findIn K (.ref C) "row" = some none := by
  intro c hc C hC
  have hc : c = 12 := by simpa using hc
  subst hc
  · cases X.a_Lost.symm.trans hC; exact ⟨xfB_ok (X.ex 13 _ rfl), He.eqO_ok (X.ex 60 _ rfl)⟩
theorem Txt.xf_table : ∀ c ∈ [10, 11, 12], ∀ C, mg (T.nm c) = some (.ref C) → XfC K C ∧ PySem.W.findIn K (.ref C) "table" = some none := by
  intro c hc C hC
  have hc : c = 10 ∨ c = 11 ∨ c = 12 := by simpa using hc
  rcases hc with rfl | rfl | rfl
  · cases X.a_Tie.symm.trans hC; exact ⟨xfB_ok (X.ex 41 _ rfl), He.eqO_ok (X.ex 61 _ rfl)⟩
  · cases X.a_Clash.symm.trans hC; exact ⟨xfB_ok (X.ex 9 _ rfl), He.eqO_ok (X.ex 62 _ rfl)⟩
  · cases X.a_Lost.symm.trans hC; exact ⟨xfB_ok (X.ex 13 _ rfl), He.eqO_ok (X.ex 63 _ rfl)⟩
theorem Txt.is_DeedError : ∀ c b, [(9, false), (10, true)].lookup c = some b → ∀ C, mg (T.nm c) = some (.ref C) → ExcC K C ∧ ∃ cv, (∀ H io v u, RV T K mg H io (.gl 2) v → RelV v u → u = cv) ∧ PySem.W.kitOne K (.ref C) cv = some b := by
  intro c b hc C hC
  have hc : (c = 9 ∧ b = false) ∨ (c = 10 ∧ b = true) := by simpa using look_mem hc
  rcases hc with ⟨rfl, rfl⟩ | ⟨rfl, rfl⟩
  · cases X.a_BadText.symm.trans hC; exact ⟨icB_ok (X.ex 70 _ rfl), _, fun H io v u h1 h2 => gl_only (T := T) X.a_DeedError h1 h2, of_decide_eq_true (X.ex 71 _ rfl)⟩
  · cases X.a_Tie.symm.trans hC; exact ⟨icB_ok (X.ex 66 _ rfl), _, fun H io v u h1 h2 => gl_only (T := T) X.a_DeedError h1 h2, of_decide_eq_true (X.ex 67 _ rfl)⟩
theorem Txt.is_FormError : ∀ c b, [(9, true), (10, false)].lookup c = some b → ∀ C, mg (T.nm c) = some (.ref C) → ExcC K C ∧ ∃ cv, (∀ H io v u, RV T K mg H io (.gl 1) v → RelV v u → u = cv) ∧ PySem.W.kitOne K (.ref C) cv = some b := by
  intro c b hc C hC
  have hc : (c = 9 ∧ b = true) ∨ (c = 10 ∧ b = false) := by simpa using look_mem hc
  rcases hc with ⟨rfl, rfl⟩ | ⟨rfl, rfl⟩
  · cases X.a_BadText.symm.trans hC; exact ⟨icB_ok (X.ex 70 _ rfl), _, fun H io v u h1 h2 => gl_only (T := T) X.a_FormError h1 h2, of_decide_eq_true (X.ex 72 _ rfl)⟩
  · cases X.a_Tie.symm.trans hC; exact ⟨icB_ok (X.ex 66 _ rfl), _, fun H io v u h1 h2 => gl_only (T := T) X.a_FormError h1 h2, of_decide_eq_true (X.ex 68 _ rfl)⟩
theorem Txt.is_PourError : ∀ c b, [(9, true), (10, true)].lookup c = some b → ∀ C, mg (T.nm c) = some (.ref C) → ExcC K C ∧ ∃ cv, (∀ H io v u, RV T K mg H io (.gl 0) v → RelV v u → u = cv) ∧ PySem.W.kitOne K (.ref C) cv = some b := by
  intro c b hc C hC
  have hc : (c = 9 ∧ b = true) ∨ (c = 10 ∧ b = true) := by simpa using look_mem hc
  rcases hc with ⟨rfl, rfl⟩ | ⟨rfl, rfl⟩
  · cases X.a_BadText.symm.trans hC; exact ⟨icB_ok (X.ex 70 _ rfl), _, fun H io v u h1 h2 => gl_only (T := T) X.a_PourError h1 h2, of_decide_eq_true (X.ex 73 _ rfl)⟩
  · cases X.a_Tie.symm.trans hC; exact ⟨icB_ok (X.ex 66 _ rfl), _, fun H io v u h1 h2 => gl_only (T := T) X.a_PourError h1 h2, of_decide_eq_true (X.ex 69 _ rfl)⟩
theorem Txt.kb11_1_number : KB K (fd 11) ["self", "number"] 1 ["number"] [.p 0, .k 0] [] [] := kb00 X.F11 1 ["number"] _ fun _ _ _ _ _ _ us ws h1 h2 => match us, h1, ws, h2 with | [_], _, [_], _ => rfl
theorem Txt.kb11_2 : KB K (fd 11) ["self", "number"] 2 [] [.p 0, .p 1] [] [] := kb00 X.F11 2 [] _ fun _ _ _ _ _ _ us ws h1 h2 => match us, h1, ws, h2 with | [_, _], _, [], _ => rfl
theorem Txt.kb10_1_number : KB K (fd 10) ["self", "number"] 1 ["number"] [.p 0, .k 0] [(.int 0)] [] := kb10 X.F10 1 ["number"] _ (by decide) fun _ _ _ _ _ _ _ us its ws h1 h2 h3 => match us, h1, its, h2, ws, h3 with | [_], _, [_], _, [_], _ => ⟨_, rfl, rfl⟩
theorem Txt.kb10_2 : KB K (fd 10) ["self", "number"] 2 [] [.p 0, .p 1] [(.int 0)] [] := kb10 X.F10 2 [] _ (by decide) fun _ _ _ _ _ _ _ us its ws h1 h2 h3 => match us, h1, its, h2, ws, h3 with | [_, _], _, [_], _, [], _ => ⟨_, rfl, rfl⟩
theorem Txt.kb10_1 : KB K (fd 10) ["self", "number"] 1 [] [.p 0, .t 0] [(.int 0)] [] := kb10 X.F10 1 [] _ (by decide) fun _ _ _ _ _ _ _ us its ws h1 h2 h3 => match us, h1, its, h2, ws, h3 with | [_], _, [_], _, [], _ => ⟨_, rfl, rfl⟩
theorem Txt.kb6_1_at : KB K (fd 6) ["self", "at"] 1 ["at"] [.p 0, .k 0] [(.int 0)] [] := kb10 X.F6 1 ["at"] _ (by decide) fun _ _ _ _ _ _ _ us its ws h1 h2 h3 => match us, h1, its, h2, ws, h3 with | [_], _, [_], _, [_], _ => ⟨_, rfl, rfl⟩
theorem Txt.kb6_2 : KB K (fd 6) ["self", "at"] 2 [] [.p 0, .p 1] [(.int 0)] [] := kb10 X.F6 2 [] _ (by decide) fun _ _ _ _ _ _ _ us its ws h1 h2 h3 => match us, h1, its, h2, ws, h3 with | [_, _], _, [_], _, [], _ => ⟨_, rfl, rfl⟩
theorem Txt.kb6_1 : KB K (fd 6) ["self", "at"] 1 [] [.p 0, .t 0] [(.int 0)] [] := kb10 X.F6 1 [] _ (by decide) fun _ _ _ _ _ _ _ us its ws h1 h2 h3 => match us, h1, its, h2, ws, h3 with | [_], _, [_], _, [], _ => ⟨_, rfl, rfl⟩
theorem Txt.kb5_1_name : KB K (fd 5) ["self", "name"] 1 ["name"] [.p 0, .k 0] [] [] := kb00 X.F5 1 ["name"] _ fun _ _ _ _ _ _ us ws h1 h2 => match us, h1, ws, h2 with | [_], _, [_], _ => rfl
theorem Txt.kb4_2 : KB K (fd 4) ["self", "name"] 2 [] [.p 0, .p 1] [] [] := kb00 X.F4 2 [] _ fun _ _ _ _ _ _ us ws h1 h2 => match us, h1, ws, h2 with | [_, _], _, [], _ => rfl
theorem Txt.kb3_1_name : KB K (fd 3) ["self", "name"] 1 ["name"] [.p 0, .k 0] [] [] := kb00 X.F3 1 ["name"] _ fun _ _ _ _ _ _ us ws h1 h2 => match us, h1, ws, h2 with | [_], _, [_], _ => rfl
theorem Txt.kb2_2 : KB K (fd 2) ["self", "name"] 2 [] [.p 0, .p 1] [] [] := kb00 X.F2 2 [] _ fun _ _ _ _ _ _ us ws h1 h2 => match us, h1, ws, h2 with | [_, _], _, [], _ => rfl
theorem Txt.kb1_1_name : KB K (fd 1) ["self", "name"] 1 ["name"] [.p 0, .k 0] [] [] := kb00 X.F1 1 ["name"] _ fun _ _ _ _ _ _ us ws h1 h2 => match us, h1, ws, h2 with | [_], _, [_], _ => rfl
theorem Txt.kb0_2 : KB K (fd 0) ["self", "name"] 2 [] [.p 0, .p 1] [] [] := kb00 X.F0 2 [] _ fun _ _ _ _ _ _ us ws h1 h2 => match us, h1, ws, h2 with | [_, _], _, [], _ => rfl
theorem Txt.kb9_1_row_table : KB K (fd 9) ["self", "table", "row"] 1 ["row", "table"] [.p 0, .k 1, .k 0] [] [] := kb00 X.F9 1 ["row", "table"] _ fun _ _ _ _ _ _ us ws h1 h2 => match us, h1, ws, h2 with | [_], _, [_, _], _ => rfl
theorem Txt.kb8_1_cells_table : KB K (fd 8) ["self", "table", "cells"] 1 ["cells", "table"] [.p 0, .k 1, .k 0] [] [] := kb00 X.F8 1 ["cells", "table"] _ fun _ _ _ _ _ _ us ws h1 h2 => match us, h1, ws, h2 with | [_], _, [_, _], _ => rfl
theorem Txt.kb7_1_other_table_one : KB K (fd 7) ["self", "table", "one", "other"] 1 ["other", "table", "one"] [.p 0, .k 1, .k 2, .k 0] [] [] := kb00 X.F7 1 ["other", "table", "one"] _ fun _ _ _ _ _ _ us ws h1 h2 => match us, h1, ws, h2 with | [_], _, [_, _, _], _ => rfl
theorem Txt.kb12_4 : KB K (fd 12) ["_law_a", "_law_b", "_law_line", "_law_n"] 4 [] [.p 0, .p 1, .p 2, .p 3] [] [] := kb00 X.F12 4 [] _ fun _ _ _ _ _ _ us ws h1 h2 => match us, h1, ws, h2 with | [_, _, _, _], _, [], _ => rfl
theorem Txt.kb7_1_table_one_other : KB K (fd 7) ["self", "table", "one", "other"] 1 ["table", "one", "other"] [.p 0, .k 0, .k 1, .k 2] [] [] := kb00 X.F7 1 ["table", "one", "other"] _ fun _ _ _ _ _ _ us ws h1 h2 => match us, h1, ws, h2 with | [_], _, [_, _, _], _ => rfl
end
structure Oks (Pr : Program) (w : World) (K : PySem.W.Frag) (mg : Str → Option Value) (base : Heap) (fd : Nat → FuncData) (n : Nat) : Prop where
  k0 : FnOk Pr w K mg base (L2.CX Pr w) (2 * n) (He.fAd K ("BadName", some "__init__")) (fd 0) ["self", "name"] (spF T K mg P n 0)
  k1 : FnOk Pr w K mg base (L2.CX Pr w) (2 * n) (He.fAd K ("Taken", some "__init__")) (fd 1) ["self", "name"] (spF T K mg P n 1)
  k2 : FnOk Pr w K mg base (L2.CX Pr w) (2 * n) (He.fAd K ("NoTable", some "__init__")) (fd 2) ["self", "name"] (spF T K mg P n 2)
  k3 : FnOk Pr w K mg base (L2.CX Pr w) (2 * n) (He.fAd K ("NoColumn", some "__init__")) (fd 3) ["self", "name"] (spF T K mg P n 3)
  k4 : FnOk Pr w K mg base (L2.CX Pr w) (2 * n) (He.fAd K ("Twice", some "__init__")) (fd 4) ["self", "name"] (spF T K mg P n 4)
  k5 : FnOk Pr w K mg base (L2.CX Pr w) (2 * n) (He.fAd K ("Ring", some "__init__")) (fd 5) ["self", "name"] (spF T K mg P n 5)
  k6 : FnOk Pr w K mg base (L2.CX Pr w) (2 * n) (He.fAd K ("BadText", some "__init__")) (fd 6) ["self", "at"] (spF T K mg P n 6)
  k7 : FnOk Pr w K mg base (L2.CX Pr w) (2 * n) (He.fAd K ("Tie", some "__init__")) (fd 7) ["self", "table", "one", "other"] (spF T K mg P n 7)
  k8 : FnOk Pr w K mg base (L2.CX Pr w) (2 * n) (He.fAd K ("Clash", some "__init__")) (fd 8) ["self", "table", "cells"] (spF T K mg P n 8)
  k9 : FnOk Pr w K mg base (L2.CX Pr w) (2 * n) (He.fAd K ("Lost", some "__init__")) (fd 9) ["self", "table", "row"] (spF T K mg P n 9)
  k10 : FnOk Pr w K mg base (L2.CX Pr w) (2 * n) (He.fAd K ("Overtaken", some "__init__")) (fd 10) ["self", "number"] (spF T K mg P n 10)
  k11 : FnOk Pr w K mg base (L2.CX Pr w) (2 * n) (He.fAd K ("NoDealing", some "__init__")) (fd 11) ["self", "number"] (spF T K mg P n 11)
  k12 : FnOk Pr w K mg base (L2.CX Pr w) (2 * n) (He.fAd K ("_law_bear", none)) (fd 12) ["_law_a", "_law_b", "_law_line", "_law_n"] (spF T K mg P n 12)
  k13 : FnOk Pr w K mg base (L2.CX Pr w) (2 * n) (He.fAd K ("law", none)) (fd 13) ["_law_script"] (spF T K mg P n 13)
section
variable {Pr : Program} {w : World} {K : PySem.W.Frag} {mg : Str → Option Value} {base : Heap} {fd : Nat → FuncData} {n : Nat}
theorem ok0 (X : Txt K mg fd) (O : Oks Pr w K mg base fd n) : FnOk Pr w K mg base (L2.CX Pr w) (2 * (n + 1)) (He.fAd K ("BadName", some "__init__")) (fd 0) ["self", "name"] (spF T K mg P (n + 1) 0) :=
  df_ok (b := b0) X.F0 sc0 rfl rfl rfl fun cdv A outer s H E kt =>
  (ss_cons (s_ex (e_xini (xiB_ok X.a_FormError (X.ex 65 _ rfl)) X.oc_BadName (a_cons (e_var (pv 0)) (a_cons (e_js (j_cons e_str (j_cons (e_fm (e_var (pv 1))) j_nil))) a_nil)))) (ss_cons (s_xset (e_var (pv 0)) (e_var (pv 1)) X.st_BadName_name) ss_nil))
theorem ok1 (X : Txt K mg fd) (O : Oks Pr w K mg base fd n) : FnOk Pr w K mg base (L2.CX Pr w) (2 * (n + 1)) (He.fAd K ("Taken", some "__init__")) (fd 1) ["self", "name"] (spF T K mg P (n + 1) 1) :=
  df_ok (b := b1) X.F1 sc1 rfl rfl rfl fun cdv A outer s H E kt =>
  (ss_cons (s_ex (e_xini (xiB_ok X.a_FormError (X.ex 65 _ rfl)) X.oc_Taken (a_cons (e_var (pv 0)) (a_cons (e_js (j_cons e_str (j_cons (e_fm (e_var (pv 1))) j_nil))) a_nil)))) (ss_cons (s_xset (e_var (pv 0)) (e_var (pv 1)) X.st_Taken_name) ss_nil))
theorem ok2 (X : Txt K mg fd) (O : Oks Pr w K mg base fd n) : FnOk Pr w K mg base (L2.CX Pr w) (2 * (n + 1)) (He.fAd K ("NoTable", some "__init__")) (fd 2) ["self", "name"] (spF T K mg P (n + 1) 2) :=
  df_ok (b := b2) X.F2 sc2 rfl rfl rfl fun cdv A outer s H E kt =>
  (ss_cons (s_ex (e_xini (xiB_ok X.a_FormError (X.ex 65 _ rfl)) X.oc_NoTable (a_cons (e_var (pv 0)) (a_cons (e_js (j_cons e_str (j_cons (e_fm (e_var (pv 1))) j_nil))) a_nil)))) (ss_cons (s_xset (e_var (pv 0)) (e_var (pv 1)) X.st_NoTable_name) ss_nil))
theorem ok3 (X : Txt K mg fd) (O : Oks Pr w K mg base fd n) : FnOk Pr w K mg base (L2.CX Pr w) (2 * (n + 1)) (He.fAd K ("NoColumn", some "__init__")) (fd 3) ["self", "name"] (spF T K mg P (n + 1) 3) :=
  df_ok (b := b3) X.F3 sc3 rfl rfl rfl fun cdv A outer s H E kt =>
  (ss_cons (s_ex (e_xini (xiB_ok X.a_FormError (X.ex 65 _ rfl)) X.oc_NoColumn (a_cons (e_var (pv 0)) (a_cons (e_js (j_cons e_str (j_cons (e_fm (e_var (pv 1))) j_nil))) a_nil)))) (ss_cons (s_xset (e_var (pv 0)) (e_var (pv 1)) X.st_NoColumn_name) ss_nil))
theorem ok4 (X : Txt K mg fd) (O : Oks Pr w K mg base fd n) : FnOk Pr w K mg base (L2.CX Pr w) (2 * (n + 1)) (He.fAd K ("Twice", some "__init__")) (fd 4) ["self", "name"] (spF T K mg P (n + 1) 4) :=
  df_ok (b := b4) X.F4 sc4 rfl rfl rfl fun cdv A outer s H E kt =>
  (ss_cons (s_ex (e_xini (xiB_ok X.a_FormError (X.ex 65 _ rfl)) X.oc_Twice (a_cons (e_var (pv 0)) (a_cons (e_js (j_cons e_str (j_cons (e_fm (e_var (pv 1))) j_nil))) a_nil)))) (ss_cons (s_xset (e_var (pv 0)) (e_var (pv 1)) X.st_Twice_name) ss_nil))
theorem ok5 (X : Txt K mg fd) (O : Oks Pr w K mg base fd n) : FnOk Pr w K mg base (L2.CX Pr w) (2 * (n + 1)) (He.fAd K ("Ring", some "__init__")) (fd 5) ["self", "name"] (spF T K mg P (n + 1) 5) :=
  df_ok (b := b5) X.F5 sc5 rfl rfl rfl fun cdv A outer s H E kt =>
  (ss_cons (s_ex (e_xini (xiB_ok X.a_FormError (X.ex 65 _ rfl)) X.oc_Ring (a_cons (e_var (pv 0)) (a_cons (e_js (j_cons e_str (j_cons (e_fm (e_var (pv 1))) j_nil))) a_nil)))) (ss_cons (s_xset (e_var (pv 0)) (e_var (pv 1)) X.st_Ring_name) ss_nil))
theorem ok6 (X : Txt K mg fd) (O : Oks Pr w K mg base fd n) : FnOk Pr w K mg base (L2.CX Pr w) (2 * (n + 1)) (He.fAd K ("BadText", some "__init__")) (fd 6) ["self", "at"] (spF T K mg P (n + 1) 6) :=
  df_ok (b := b6) X.F6 sc6 rfl rfl rfl fun cdv A outer s H E kt =>
  (ss_cons (s_ex (e_xini (xiB_ok X.a_FormError (X.ex 65 _ rfl)) X.oc_BadText (a_cons (e_var (pv 0)) (a_cons (e_js (j_cons e_str (j_cons (e_fm (e_var (pv 1))) j_nil))) a_nil)))) (ss_cons (s_xset (e_var (pv 0)) (e_var (pv 1)) X.st_BadText_at) ss_nil))
theorem ok7 (X : Txt K mg fd) (O : Oks Pr w K mg base fd n) : FnOk Pr w K mg base (L2.CX Pr w) (2 * (n + 1)) (He.fAd K ("Tie", some "__init__")) (fd 7) ["self", "table", "one", "other"] (spF T K mg P (n + 1) 7) :=
  df_ok (b := b7) X.F7 sc7 rfl rfl rfl fun cdv A outer s H E kt =>
  (ss_cons (s_ex (e_xini (xiB_ok X.a_DeedError (X.ex 64 _ rfl)) X.oc_Tie (a_cons (e_var (pv 0)) (a_cons (e_js (j_cons e_str (j_cons (e_fm (e_var (pv 2))) (j_cons e_str (j_cons (e_fm (e_var (pv 3))) j_nil))))) a_nil)))) (ss_cons (s_xset (e_var (pv 0)) (e_var (pv 1)) X.st_Tie_table) (ss_cons (s_xset (e_var (pv 0)) (e_var (pv 2)) X.st_Tie_one) (ss_cons (s_xset (e_var (pv 0)) (e_var (pv 3)) X.st_Tie_other) ss_nil))))
theorem ok8 (X : Txt K mg fd) (O : Oks Pr w K mg base fd n) : FnOk Pr w K mg base (L2.CX Pr w) (2 * (n + 1)) (He.fAd K ("Clash", some "__init__")) (fd 8) ["self", "table", "cells"] (spF T K mg P (n + 1) 8) :=
  df_ok (b := b8) X.F8 sc8 rfl rfl rfl fun cdv A outer s H E kt =>
  (ss_cons (s_ex (e_xini (xiB_ok X.a_DeedError (X.ex 64 _ rfl)) X.oc_Clash (a_cons (e_var (pv 0)) (a_cons (e_js (j_cons e_str (j_cons (e_fm (e_var (pv 1))) j_nil))) a_nil)))) (ss_cons (s_xset (e_var (pv 0)) (e_var (pv 1)) X.st_Clash_table) (ss_cons (s_xset (e_var (pv 0)) (e_var (pv 2)) X.st_Clash_cells) ss_nil)))
theorem ok9 (X : Txt K mg fd) (O : Oks Pr w K mg base fd n) : FnOk Pr w K mg base (L2.CX Pr w) (2 * (n + 1)) (He.fAd K ("Lost", some "__init__")) (fd 9) ["self", "table", "row"] (spF T K mg P (n + 1) 9) :=
  df_ok (b := b9) X.F9 sc9 rfl rfl rfl fun cdv A outer s H E kt =>
  (ss_cons (s_ex (e_xini (xiB_ok X.a_DeedError (X.ex 64 _ rfl)) X.oc_Lost (a_cons (e_var (pv 0)) (a_cons (e_js (j_cons e_str (j_cons (e_fm (e_var (pv 1))) j_nil))) a_nil)))) (ss_cons (s_xset (e_var (pv 0)) (e_var (pv 1)) X.st_Lost_table) (ss_cons (s_xset (e_var (pv 0)) (e_var (pv 2)) X.st_Lost_row) ss_nil)))
theorem ok10 (X : Txt K mg fd) (O : Oks Pr w K mg base fd n) : FnOk Pr w K mg base (L2.CX Pr w) (2 * (n + 1)) (He.fAd K ("Overtaken", some "__init__")) (fd 10) ["self", "number"] (spF T K mg P (n + 1) 10) :=
  df_ok (b := b10) X.F10 sc10 rfl rfl rfl fun cdv A outer s H E kt =>
  (ss_cons (s_ex (e_xini (xiB_ok X.a_DeedError (X.ex 64 _ rfl)) X.oc_Overtaken (a_cons (e_var (pv 0)) (a_cons (e_js (j_cons e_str (j_cons (e_fm (e_var (pv 1))) j_nil))) a_nil)))) (ss_cons (s_xset (e_var (pv 0)) (e_var (pv 1)) X.st_Overtaken_number) ss_nil))
theorem ok11 (X : Txt K mg fd) (O : Oks Pr w K mg base fd n) : FnOk Pr w K mg base (L2.CX Pr w) (2 * (n + 1)) (He.fAd K ("NoDealing", some "__init__")) (fd 11) ["self", "number"] (spF T K mg P (n + 1) 11) :=
  df_ok (b := b11) X.F11 sc11 rfl rfl rfl fun cdv A outer s H E kt =>
  (ss_cons (s_ex (e_xini (xiB_ok X.a_DeedError (X.ex 64 _ rfl)) X.oc_NoDealing (a_cons (e_var (pv 0)) (a_cons (e_js (j_cons e_str (j_cons (e_fm (e_var (pv 1))) j_nil))) a_nil)))) (ss_cons (s_xset (e_var (pv 0)) (e_var (pv 1)) X.st_NoDealing_number) ss_nil))
theorem ok12 (X : Txt K mg fd) (O : Oks Pr w K mg base fd n) : FnOk Pr w K mg base (L2.CX Pr w) (2 * (n + 1)) (He.fAd K ("_law_bear", none)) (fd 12) ["_law_a", "_law_b", "_law_line", "_law_n"] (spF T K mg P (n + 1) 12) :=
  df_ok (b := b12) X.F12 sc12 rfl rfl rfl fun cdv A outer s H E kt =>
  (ss_cons (s_set (i := 4) sc12.nd (c_xk0 ⟨X.a_Tie, X.o_Tie, He.eqO_ok (X.ex 42 _ rfl), of_decide_eq_true (X.ex 43 _ rfl), O.k7⟩ kt.tk kt.hr X.o_Tie.kC X.kb7_1_other_table_one (fun _ _ => rfl) (fun _ _ => rfl) (k_cons (e_bin o_add (e_var (pv 3)) e_int) (k_cons (e_var (pv 0)) (k_cons (e_var (pv 3)) k_nil))))) (ss_cons (s_set (i := 5) sc12.nd (c_xk0 ⟨X.a_Clash, X.o_Clash, He.eqO_ok (X.ex 10 _ rfl), of_decide_eq_true (X.ex 11 _ rfl), O.k8⟩ kt.tk kt.hr X.o_Clash.kC X.kb8_1_cells_table (fun _ _ => rfl) (fun _ _ => rfl) (k_cons (e_var (pv 2)) (k_cons (e_var (pv 1)) k_nil)))) (ss_cons (s_set (i := 6) sc12.nd (c_xk0 ⟨X.a_Lost, X.o_Lost, He.eqO_ok (X.ex 14 _ rfl), of_decide_eq_true (X.ex 15 _ rfl), O.k9⟩ kt.tk kt.hr X.o_Lost.kC X.kb9_1_row_table (fun _ _ => rfl) (fun _ _ => rfl) (k_cons (e_var (pv 2)) (k_cons (e_var (pv 0)) k_nil)))) (ss_cons (s_set (i := 7) sc12.nd (e_lst (a_cons (e_xfl (e_var (pv 4)) X.xf_table) (a_cons (e_xfl (e_var (pv 4)) X.xf_one) (a_cons (e_xfl (e_var (pv 4)) X.xf_other) (a_cons (e_xfl (e_var (pv 5)) X.xf_table) (a_cons (e_xfl (e_var (pv 5)) X.xf_cells) (a_cons (e_xfl (e_var (pv 6)) X.xf_table) (a_cons (e_xfl (e_var (pv 6)) X.xf_row) a_nil))))))))) (ss_cons (s_set (i := 8) sc12.nd (e_lst (a_cons (c_x ⟨X.a_BadName, X.o_BadName, He.eqO_ok (X.ex 2 _ rfl), of_decide_eq_true (X.ex 3 _ rfl), O.k0⟩ kt.tk kt.hr X.o_BadName.kC (KB.binds (r := []) (n := 2) X.kb0_2 rfl (fun its mv h1 h2 => match its, h1, mv, h2 with | [], _, [], _ => rfl)) (fun _ _ => rfl) (fun _ _ => rfl) (a_cons (e_var (pv 0)) a_nil)) (a_cons (c_xk0 ⟨X.a_Taken, X.o_Taken, He.eqO_ok (X.ex 38 _ rfl), of_decide_eq_true (X.ex 39 _ rfl), O.k1⟩ kt.tk kt.hr X.o_Taken.kC X.kb1_1_name (fun _ _ => rfl) (fun _ _ => rfl) (k_cons (e_var (pv 1)) k_nil)) (a_cons (c_x ⟨X.a_NoTable, X.o_NoTable, He.eqO_ok (X.ex 26 _ rfl), of_decide_eq_true (X.ex 27 _ rfl), O.k2⟩ kt.tk kt.hr X.o_NoTable.kC (KB.binds (r := []) (n := 2) X.kb2_2 rfl (fun its mv h1 h2 => match its, h1, mv, h2 with | [], _, [], _ => rfl)) (fun _ _ => rfl) (fun _ _ => rfl) (a_cons (e_var (pv 0)) a_nil)) (a_cons (c_xk0 ⟨X.a_NoColumn, X.o_NoColumn, He.eqO_ok (X.ex 18 _ rfl), of_decide_eq_true (X.ex 19 _ rfl), O.k3⟩ kt.tk kt.hr X.o_NoColumn.kC X.kb3_1_name (fun _ _ => rfl) (fun _ _ => rfl) (k_cons (e_var (pv 1)) k_nil)) (a_cons (c_x ⟨X.a_Twice, X.o_Twice, He.eqO_ok (X.ex 46 _ rfl), of_decide_eq_true (X.ex 47 _ rfl), O.k4⟩ kt.tk kt.hr X.o_Twice.kC (KB.binds (r := []) (n := 2) X.kb4_2 rfl (fun its mv h1 h2 => match its, h1, mv, h2 with | [], _, [], _ => rfl)) (fun _ _ => rfl) (fun _ _ => rfl) (a_cons (e_var (pv 0)) a_nil)) (a_cons (c_xk0 ⟨X.a_Ring, X.o_Ring, He.eqO_ok (X.ex 34 _ rfl), of_decide_eq_true (X.ex 35 _ rfl), O.k5⟩ kt.tk kt.hr X.o_Ring.kC X.kb5_1_name (fun _ _ => rfl) (fun _ _ => rfl) (k_cons (e_var (pv 1)) k_nil)) a_nil)))))))) (ss_cons (s_set (i := 7) sc12.nd (e_bin o_add (e_var (pv 7)) (e_lc (own := [("_law_bad", 9)]) sc12.nd t_name (i_list (e_var (pv 8))) (blkOk_by (N := ["_law_a", "_law_b", "_law_line", "_law_n", "_law_tie", "_law_clash", "_law_gone", "_law_found", "_law_names", "_law_bad"]) (sc := defScope s12) (by decide +kernel)) (fun s H C cl fp => pg_name (i := 9) sc12.nd rfl (by first | exact Or.inl rfl | exact Or.inr rfl)) (fun s1 H1 C1 cl1 fp1 => c_nil) (fun s1 H1 C1 cl1 fp1 => (e_xfl (e_var (pv 9)) X.xf_name))))) (ss_cons (s_set (i := 7) sc12.nd (e_bin o_add (e_var (pv 7)) (e_lst (a_cons (e_xfl (c_x0 ⟨X.a_BadText, X.o_BadText, He.eqO_ok (X.ex 6 _ rfl), of_decide_eq_true (X.ex 7 _ rfl), O.k6⟩ kt.tk kt.hr X.o_BadText.kC (KB.binds (r := [.t 0]) (n := 1) X.kb6_1 rfl (fun its mv h1 h2 => match its, h1, mv, h2 with | [_], _, [], _ => rfl)) (fun _ _ => ⟨_, _, rfl, rfl, rfl⟩) (fun _ _ => rfl)) X.xf_at) (a_cons (e_xfl (c_x ⟨X.a_BadText, X.o_BadText, He.eqO_ok (X.ex 6 _ rfl), of_decide_eq_true (X.ex 7 _ rfl), O.k6⟩ kt.tk kt.hr X.o_BadText.kC (KB.binds (r := []) (n := 2) X.kb6_2 rfl (fun its mv h1 h2 => match its, h1, mv, h2 with | [_], _, [], _ => rfl)) (fun _ _ => ⟨_, _, rfl, rfl, rfl⟩) (fun _ _ => rfl) (a_cons (e_var (pv 3)) a_nil)) X.xf_at) (a_cons (e_xfl (c_xk0 ⟨X.a_BadText, X.o_BadText, He.eqO_ok (X.ex 6 _ rfl), of_decide_eq_true (X.ex 7 _ rfl), O.k6⟩ kt.tk kt.hr X.o_BadText.kC X.kb6_1_at (fun _ _ => ⟨_, _, rfl, rfl, rfl⟩) (fun _ _ => rfl) (k_cons (e_bin o_add (e_var (pv 3)) e_int) k_nil)) X.xf_at) a_nil)))))) (ss_cons (s_set (i := 7) sc12.nd (e_bin o_add (e_var (pv 7)) (e_lst (a_cons (e_xfl (c_x0 ⟨X.a_Overtaken, X.o_Overtaken, He.eqO_ok (X.ex 30 _ rfl), of_decide_eq_true (X.ex 31 _ rfl), O.k10⟩ kt.tk kt.hr X.o_Overtaken.kC (KB.binds (r := [.t 0]) (n := 1) X.kb10_1 rfl (fun its mv h1 h2 => match its, h1, mv, h2 with | [_], _, [], _ => rfl)) (fun _ _ => ⟨_, _, rfl, rfl, rfl⟩) (fun _ _ => rfl)) X.xf_number) (a_cons (e_xfl (c_x ⟨X.a_Overtaken, X.o_Overtaken, He.eqO_ok (X.ex 30 _ rfl), of_decide_eq_true (X.ex 31 _ rfl), O.k10⟩ kt.tk kt.hr X.o_Overtaken.kC (KB.binds (r := []) (n := 2) X.kb10_2 rfl (fun its mv h1 h2 => match its, h1, mv, h2 with | [_], _, [], _ => rfl)) (fun _ _ => ⟨_, _, rfl, rfl, rfl⟩) (fun _ _ => rfl) (a_cons (e_var (pv 3)) a_nil)) X.xf_number) (a_cons (e_xfl (c_xk0 ⟨X.a_Overtaken, X.o_Overtaken, He.eqO_ok (X.ex 30 _ rfl), of_decide_eq_true (X.ex 31 _ rfl), O.k10⟩ kt.tk kt.hr X.o_Overtaken.kC X.kb10_1_number (fun _ _ => ⟨_, _, rfl, rfl, rfl⟩) (fun _ _ => rfl) (k_cons (e_bin o_add (e_var (pv 3)) e_int) k_nil)) X.xf_number) a_nil)))))) (ss_cons (s_rt (e_bin o_add (e_var (pv 7)) (e_lst (a_cons (e_xfl (c_x ⟨X.a_NoDealing, X.o_NoDealing, He.eqO_ok (X.ex 22 _ rfl), of_decide_eq_true (X.ex 23 _ rfl), O.k11⟩ kt.tk kt.hr X.o_NoDealing.kC (KB.binds (r := []) (n := 2) X.kb11_2 rfl (fun its mv h1 h2 => match its, h1, mv, h2 with | [], _, [], _ => rfl)) (fun _ _ => rfl) (fun _ _ => rfl) (a_cons (e_var (pv 3)) a_nil)) X.xf_number) (a_cons (e_xfl (c_xk0 ⟨X.a_NoDealing, X.o_NoDealing, He.eqO_ok (X.ex 22 _ rfl), of_decide_eq_true (X.ex 23 _ rfl), O.k11⟩ kt.tk kt.hr X.o_NoDealing.kC X.kb11_1_number (fun _ _ => rfl) (fun _ _ => rfl) (k_cons (e_bin o_add (e_var (pv 3)) e_int) k_nil)) X.xf_number) a_nil))))) ss_nil)))))))))
theorem ok13 (X : Txt K mg fd) (O : Oks Pr w K mg base fd n) : FnOk Pr w K mg base (L2.CX Pr w) (2 * (n + 1)) (He.fAd K ("law", none)) (fd 13) ["_law_script"] (spF T K mg P (n + 1) 13) :=
  df_ok (b := b13) X.F13 sc13 rfl rfl rfl fun cdv A outer s H E kt =>
  (ss_cons (s_set (i := 1) sc13.nd e_int) (ss_cons (s_for kt.hp t_name (i_list (e_sl0 (e_var (pv 0)) e_int)) (pg_name (i := 2) sc13.nd rfl (by first | exact Or.inl rfl | exact Or.inr rfl)) (ss_cons (s_set (i := 1) sc13.nd (e_bin o_mod (e_bin o_add (e_bin o_add (e_bin o_mul (e_var (pv 1)) e_int) (e_bin o_mod (e_var (pv 2)) e_int)) e_int) e_int)) ss_nil)) (ss_cons (s_set (i := 3) sc13.nd e_str) (ss_cons (s_for kt.hp t_name (i_rng X.no_range e_int) (pg_name (i := 4) sc13.nd rfl (by first | exact Or.inl rfl | exact Or.inr rfl)) (ss_cons (s_set (i := 1) sc13.nd (e_bin o_mod (e_bin o_add (e_bin o_mul (e_var (pv 1)) e_int) e_int) e_int)) (ss_cons (s_set (i := 5) sc13.nd (e_ix (ix_all kt.u5) (e_var (pv 3)) (e_bin o_mod (e_bin o_fdiv (e_var (pv 1)) e_int) e_int))) (ss_cons (s_set (i := 6) sc13.nd (e_bin o_add e_str (e_ix (ix_all kt.u5) (e_var (pv 3)) (e_bin o_mod (e_bin o_fdiv (e_var (pv 1)) e_int) e_int)))) (ss_cons (s_set (i := 7) sc13.nd (e_bin o_mod (e_bin o_fdiv (e_var (pv 1)) e_int) (e_ix (ix_all kt.u5) (e_lst (a_cons e_int (a_cons (e_bin o_pow e_int e_int) a_nil))) (e_bin o_mod (e_var (pv 4)) e_int)))) (ss_cons (s_set (i := 8) sc13.nd (e_sl0 (e_tup (a_cons (e_var (pv 7)) (a_cons e_non (a_cons (e_bin o_sub e_int (e_var (pv 7))) a_nil)))) (e_bin o_add e_int (e_bin o_mod (e_bin o_fdiv (e_var (pv 1)) e_int) e_int)))) (ss_cons (s_set (i := 9) sc13.nd (e_lst (a_cons (e_var (pv 5)) (a_cons (e_var (pv 7)) (a_cons (e_bin o_add (e_var (pv 7)) e_int) (a_cons (e_var (pv 6)) (a_cons (e_var (pv 8)) (a_cons (e_var (pv 5)) (a_cons (e_var (pv 8)) (a_cons (e_var (pv 5)) (a_cons (e_var (pv 6)) (a_cons (e_var (pv 5)) (a_cons (e_var (pv 6)) (a_cons (e_var (pv 5)) (a_cons (e_var (pv 6)) (a_cons e_int (a_cons (e_var (pv 7)) (a_cons (e_bin o_add (e_var (pv 7)) e_int) (a_cons e_int (a_cons (e_var (pv 7)) (a_cons (e_bin o_add (e_var (pv 7)) e_int) (a_cons (e_var (pv 7)) (a_cons (e_bin o_add (e_var (pv 7)) e_int) a_nil))))))))))))))))))))))) (ss_cons (s_set (i := 10) sc13.nd (c_xk0 ⟨X.a_Tie, X.o_Tie, He.eqO_ok (X.ex 42 _ rfl), of_decide_eq_true (X.ex 43 _ rfl), O.k7⟩ kt.tk kt.hr X.o_Tie.kC X.kb7_1_table_one_other (fun _ _ => rfl) (fun _ _ => rfl) (k_cons (e_var (pv 5)) (k_cons (e_var (pv 7)) (k_cons (e_var (pv 7)) k_nil))))) (ss_cons (s_set (i := 11) sc13.nd (c_xk0 ⟨X.a_Tie, X.o_Tie, He.eqO_ok (X.ex 42 _ rfl), of_decide_eq_true (X.ex 43 _ rfl), O.k7⟩ kt.tk kt.hr X.o_Tie.kC X.kb7_1_table_one_other (fun _ _ => rfl) (fun _ _ => rfl) (k_cons (e_var (pv 6)) (k_cons e_int (k_cons (e_bin o_add (e_var (pv 7)) e_int) k_nil))))) (ss_cons (s_if (t_cmp (o_ne kt.u4) (c_fn O.k12 kt.tk kt.dn X.a12 X.F12.kp X.kb12_4 (fun _ _ => rfl) (fun _ _ => rfl) (a_cons (e_var (pv 5)) (a_cons (e_var (pv 6)) (a_cons (e_var (pv 8)) (a_cons (e_var (pv 7)) a_nil)))) k_nil) (e_var (pv 9))) (ss_cons (s_rt e_bl) ss_nil) ss_nil) (ss_cons (s_if (t_cmp (o_ne kt.u4) (e_lst (a_cons (e_xfl (e_var (pv 10)) X.xf_table) (a_cons (e_xfl (e_var (pv 10)) X.xf_other) (a_cons (e_xfl (e_var (pv 11)) X.xf_table) (a_cons (e_xfl (e_var (pv 11)) X.xf_other) a_nil))))) (e_lst (a_cons (e_var (pv 5)) (a_cons (e_var (pv 7)) (a_cons (e_var (pv 6)) (a_cons (e_bin o_add (e_var (pv 7)) e_int) a_nil)))))) (ss_cons (s_rt e_bl) ss_nil) ss_nil) (ss_cons (s_set (i := 12) sc13.nd (e_lst (a_cons (e_xis X.no_isinstance (e_var (pv 10)) (e_glob rfl X.gl_DeedError) X.is_DeedError) (a_cons (e_xis X.no_isinstance (e_var (pv 10)) (e_glob rfl X.gl_FormError) X.is_FormError) (a_cons (e_xis X.no_isinstance (c_x0 ⟨X.a_BadText, X.o_BadText, He.eqO_ok (X.ex 6 _ rfl), of_decide_eq_true (X.ex 7 _ rfl), O.k6⟩ kt.tk kt.hr X.o_BadText.kC (KB.binds (r := [.t 0]) (n := 1) X.kb6_1 rfl (fun its mv h1 h2 => match its, h1, mv, h2 with | [_], _, [], _ => rfl)) (fun _ _ => ⟨_, _, rfl, rfl, rfl⟩) (fun _ _ => rfl)) (e_glob rfl X.gl_FormError) X.is_FormError) a_nil))))) (ss_cons (s_if (PW.pt (w_or (t_cmp (o_ne kt.u4) (e_var (pv 12)) (e_lst (a_cons e_bl (a_cons e_bl (a_cons e_bl a_nil))))) (w_one (by decide) (t_not (t_val (e_xis X.no_isinstance (e_var (pv 11)) (e_glob rfl X.gl_PourError) X.is_PourError)))))) (ss_cons (s_rt e_bl) ss_nil) ss_nil) ss_nil))))))))))))) (ss_cons (s_rt e_bl) ss_nil)))))
theorem oks (X : Txt K mg fd) : ∀ n, Oks Pr w K mg base fd n
  | 0 => ⟨fn_zero rfl, fn_zero rfl, fn_zero rfl, fn_zero rfl, fn_zero rfl, fn_zero rfl, fn_zero rfl, fn_zero rfl, fn_zero rfl, fn_zero rfl, fn_zero rfl, fn_zero rfl, fn_zero rfl, fn_zero rfl⟩
  | n + 1 => ⟨ok0 X (oks X n), ok1 X (oks X n), ok2 X (oks X n), ok3 X (oks X n), ok4 X (oks X n), ok5 X (oks X n), ok6 X (oks X n), ok7 X (oks X n), ok8 X (oks X n), ok9 X (oks X n), ok10 X (oks X n), ok11 X (oks X n), ok12 X (oks X n), ok13 X (oks X n)⟩
end
end K66

/-! k66: the head. -/
namespace K66
open PySem L2 Mi PyProof.Rows
abbrev Rw : PySem.W.OpenRow := PySem.W.OpenLaw.row PySem.Challenge.rw_onepour_k66_refusals_made_by_hand
abbrev hk : PySem.W.Hook := hookM 6 fa fn ex
def ob (s : PySem.W.SharedT) : AlM := obsM 6 fa fn ex (HandSHeadRun.getT s)
theorem ob_eq (s : PySem.W.SharedT) : ob s = hk.obs s.abs := obsM_eq (HandSHeadRun.getT_eq s)
def loose0 : List Str := ["PourError", "FormError", "DeedError", "BadName", "Taken", "NoTable", "NoColumn", "Twice", "Ring", "BadText", "Tie", "Clash", "Lost", "Overtaken", "NoDealing", "_law_bear"]
def loose : List Str := loose0
theorem run (w : World) : HandSHeadRun.RunEq Rw (PySem.W.view Rw.prog [18]) hk ob 20000 loose w := by
  intro os
  kernel_rfl
theorem ex_of {K : PySem.W.Frag} (h : ex K = true) (i : Nat) (b : Bool) (e : (exl K)[i]? = some b) : b = true := List.all_eq_true.mp h b (List.mem_of_getElem? e)
theorem facts {Pr : Program} {w : World} {K : PySem.W.Frag} {h : Heap} {mg : Str → Option Value} {f : Addr} (X : K.In h) (G : h.Ns mainGlobals mg) (hfa : mg ("law" : Str) = some (.ref f)) (c : SaysM fa fn ex K) (n : Nat) :
    ∃ fd : FuncData, (∀ (s : Shared) (v : Value), BindsTo s fd ⟨[v], []⟩ [("_law_script", v)]) ∧ ∀ base : Heap, K.In base → base.Ns mainGlobals mg → FnOk Pr w K mg base (L2.CX Pr w) (2 * n) f fd ["_law_script"] (spF T K mg P n 13) := by
  obtain ⟨e0, F0⟩ := c.d.def_ 0 (d := d0) rfl
  obtain ⟨e1, F1⟩ := c.d.def_ 1 (d := d1) rfl
  obtain ⟨e2, F2⟩ := c.d.def_ 2 (d := d2) rfl
  obtain ⟨e3, F3⟩ := c.d.def_ 3 (d := d3) rfl
  obtain ⟨e4, F4⟩ := c.d.def_ 4 (d := d4) rfl
  obtain ⟨e5, F5⟩ := c.d.def_ 5 (d := d5) rfl
  obtain ⟨e6, F6⟩ := c.d.def_ 6 (d := d6) rfl
  obtain ⟨e7, F7⟩ := c.d.def_ 7 (d := d7) rfl
  obtain ⟨e8, F8⟩ := c.d.def_ 8 (d := d8) rfl
  obtain ⟨e9, F9⟩ := c.d.def_ 9 (d := d9) rfl
  obtain ⟨e10, F10⟩ := c.d.def_ 10 (d := d10) rfl
  obtain ⟨e11, F11⟩ := c.d.def_ 11 (d := d11) rfl
  obtain ⟨e12, F12⟩ := c.d.def_ 12 (d := d12) rfl
  obtain ⟨e13, F13⟩ := c.d.def_ 13 (d := d13) rfl
  have Y : Txt K mg (fun i => [e0, e1, e2, e3, e4, e5, e6, e7, e8, e9, e10, e11, e12, e13].getD i e0) := ⟨ex_of c.more, He.glo_ok X G (c.d.fact 0 (f := .glo "BadName") rfl), He.glo_ok X G (c.d.fact 1 (f := .glo "BadText") rfl), He.glo_ok X G (c.d.fact 2 (f := .glo "Clash") rfl), He.glo_ok X G (c.d.fact 3 (f := .glo "DeedError") rfl), He.glo_ok X G (c.d.fact 4 (f := .glo "FormError") rfl), He.glo_ok X G (c.d.fact 5 (f := .glo "Lost") rfl), He.glo_ok X G (c.d.fact 6 (f := .glo "NoColumn") rfl), He.glo_ok X G (c.d.fact 7 (f := .glo "NoDealing") rfl), He.glo_ok X G (c.d.fact 8 (f := .glo "NoTable") rfl), He.glo_ok X G (c.d.fact 9 (f := .glo "Overtaken") rfl), He.glo_ok X G (c.d.fact 10 (f := .glo "PourError") rfl), He.glo_ok X G (c.d.fact 11 (f := .glo "Ring") rfl), He.glo_ok X G (c.d.fact 12 (f := .glo "Taken") rfl), He.glo_ok X G (c.d.fact 13 (f := .glo "Tie") rfl), He.glo_ok X G (c.d.fact 14 (f := .glo "Twice") rfl), He.glo_ok X G (c.d.fact 15 (f := .glo "_law_bear") rfl), He.glo_ok X G (c.d.fact 16 (f := .glo "law") rfl), He.free_ok X G (c.d.fact 17 (f := .free "range") rfl), He.free_ok X G (c.d.fact 18 (f := .free "isinstance") rfl), F0, F1, F2, F3, F4, F5, F6, F7, F8, F9, F10, F11, F12, F13⟩
  have e := hfa.symm.trans Y.a13
  cases e
  have b := FunD.bindsA (ps := ["_law_script"]) F13 fun _ _ _ _ _ _ us hl => match us, hl with | [_], _ => rfl
  exact ⟨e13, fun s v => b s [v] rfl, fun base _ _ => (oks Y n).k13⟩
end K66

/-! k66: the machine answers True. -/
namespace K66
open PySem L2 Mi
theorem toP_lay (st : Sto) : ∀ (f : Nat) (d : D) (p : PyData), toP st f d = some p → p.canLay0 = true := by
  intro f
  induction f with
  | zero => intro d p h; cases h
  | succ f ih =>
    have all : ∀ (l : List D) (ps : List PyData), mapO (toP st f) l = some ps → PyData.canLayAll0 ps = true := by
      intro l
      induction l with
      | nil => intro ps h; cases h; rfl
      | cons d l il =>
        intro ps h
        unfold mapO at h
        split at h
        · rename_i b q e1 e2
          cases h
          simp [PyData.canLayAll0, ih d b e1, il q e2]
        · cases h
    intro d p h
    cases d with
    | non => cases h; rfl
    | bl b => cases h; rfl
    | int i => cases h; rfl
    | str s =>
      simp only [toP] at h
      by_cases hs : PyData.strOk s = true
      · rw [if_pos hs] at h; cases h; simpa [PyData.canLay0] using hs
      · rw [if_neg hs] at h; cases h
    | tup l =>
      simp only [toP] at h
      cases e : mapO (toP st f) l with
      | none => rw [e] at h; cases h
      | some ps => rw [e] at h; cases h; simpa [PyData.canLay0] using all l ps e
    | ref n =>
      simp only [toP] at h
      cases e0 : isL st n with
      | none => rw [e0] at h; cases h
      | some l =>
        rw [e0] at h
        cases e : mapO (toP st f) l with
        | none => simp [e] at h
        | some ps => simp only [e] at h; cases h; simpa [PyData.canLay0] using all l ps e
    | gl x => cases h
    | ty t => cases h
    | kl l => cases h
theorem toP_ref {st : Sto} {f n : Nat} : toP st (f + 1) (.ref n) = match isL st n with | some l => (mapO (toP st f) l).map .list | none => none := rfl
/-- two lists of the same things are equal -/
theorem peq_same {st : Sto} {i j : Nat} {l : List D} {ps : List PyData} (h1 : isL st i = some l) (h2 : isL st j = some l) (h : mapO (toP st 23) l = some ps) : peqD st (.ref i) (.ref j) = some true := by
  have e1 : toP st 24 (.ref i) = some (.list ps) := by rw [toP_ref (f := 23), h1]; dsimp only; rw [h]; rfl
  have e2 : toP st 24 (.ref j) = some (.list ps) := by rw [toP_ref (f := 23), h2]; dsimp only; rw [h]; rfl
  unfold peqD
  rw [e1, e2]
  show some (PyData.eqv (.list ps) (.list ps)) = some true
  rw [PySem.SeqAt.eqv_refl _ (toP_lay st 24 _ _ e1)]
/-! ### the store's far end -/
theorem g0 {α : Type} {st tl : List α} : (st ++ tl)[st.length]? = tl[0]? := by
  rw [List.getElem?_append_right (Nat.le_refl _), Nat.sub_self]
theorem gk {α : Type} {st tl : List α} {k : Nat} : (st ++ tl)[st.length + k]? = tl[k]? := by
  rw [List.getElem?_append_right (Nat.le_add_right _ _), Nat.add_sub_cancel_left]
theorem s0' {α : Type} {st tl : List α} {x : α} : (st ++ tl).set st.length x = st ++ tl.set 0 x := by
  rw [List.set_append_right _ _ (Nat.le_refl _), Nat.sub_self]
theorem sk {α : Type} {st tl : List α} {k : Nat} {x : α} : (st ++ tl).set (st.length + k) x = st ++ tl.set k x := by
  rw [List.set_append_right _ _ (Nat.le_add_right _ _), Nat.add_sub_cancel_left]
theorem la {α : Type} {st tl : List α} : (st ++ tl).length = st.length + tl.length := List.length_append
/-! ### single steps -/
theorem b_ok {α β : Type} {a : α} {st : Sto} {f : α → Sto → Out β} : (Out.ok a st).bind f = f a st := rfl
theorem q_ok {α : Type} {a : α} {st : Sto} {e : Fr} {f : α → Sto → Fl} : exq (Out.ok a st) e f = f a st := rfl
theorem o_ok {α : Type} {a : α} {st : Sto} : Out.of (some (a, st)) = .ok a st := rfl
theorem x0 {S : Sto} {m c : Nat} (h : S[m]? = some (.xo m c none)) : isX S (.ref m) = some (m, c, none) := by
  unfold isX
  dsimp only
  rw [h]
  simp
theorem x1 {S : Sto} {m c : Nat} {y : Ob} {d : Option Nat} (h : m < S.length) : isX (S.set m (.xo m c d) ++ [y]) (.ref m) = some (m, c, d) := by
  unfold isX
  dsimp only
  rw [List.getElem?_append_left (by simpa using h), List.getElem?_set_self h]
  simp
theorem x2 {S : Sto} {m : Nat} {x : Ob} {fs : List (Nat × D)} : isF (S.set m x ++ [.xd S.length fs]) S.length = some fs := by
  unfold isF
  rw [List.getElem?_append_right (by simp)]
  simp
theorem l3 {α : Type} {S : List α} {m : Nat} {x y z : α} (h : m < S.length) : (S.set m x ++ [y]).set S.length z = S.set m x ++ [z] := by
  rw [List.set_append_right _ _ (by simp)]; simp
/-! ### what an exception is made of -/
def tx (z : Int) : Str := Str.ofString (toString z)
/-- an int whose text is short -/
structure Sml (z : Int) : Prop where
  log : z.natAbs.log2 < 1920
  len : (tx z).length ≤ 2000
theorem Sml.of {z : Int} (h : z.natAbs < 2 ^ 64) : Sml z := by
  have h1 : z.natAbs.log2 < 1920 := by
    by_cases h0 : z.natAbs = 0
    · rw [h0]; decide
    · have := (Nat.log2_lt h0).mpr h
      omega
  refine ⟨h1, ?_⟩
  unfold tx
  rw [PySem.ofString_length]
  have := PySem.int_text_length_le (a := z) (k := 1920) (by decide) h1
  omega
theorem fm_i {z : Int} (h : Sml z) : fmtD (.int z) = some (tx z) := by
  simp only [fmtD]
  rw [if_pos h.log]
  rfl
theorem i0 {n m : Nat} {S : Sto} {s : Str} (h : s.length ≤ 1000) (hS : S[m]? = some (.xo m 3 none)) : callN P (n + 1) 0 [.ref m, .str s] S = .ok .non (S.set m (.xo m 3 (some S.length)) ++ [.xd S.length [(15, .str s)]]) := by
  have h1 : s.length ≤ 100000 := by omega
  have h2 : Str.empty.length + (Str.ofString "no name: ").length ≤ 100000 := by decide
  have h3 : Str.empty.length + (Str.ofString "no name: ").length + s.length ≤ 100000 := by
    have : Str.empty.length + (Str.ofString "no name: ").length ≤ 1000 := by decide
    omega
  have hm : m < S.length := (List.getElem?_eq_some_iff.mp hS).1
  simp [callN, P, b0, evSs, evS, evE, evEs, evJ, fmtD, frame0, xsD, b_ok, q_ok, o_ok, x0 hS, x1 hm, x2, l3 hm, Str.length_append, h1, h2, h3]
theorem i1 {n m : Nat} {S : Sto} {s : Str} (h : s.length ≤ 1000) (hS : S[m]? = some (.xo m 4 none)) : callN P (n + 1) 1 [.ref m, .str s] S = .ok .non (S.set m (.xo m 4 (some S.length)) ++ [.xd S.length [(15, .str s)]]) := by
  have h1 : s.length ≤ 100000 := by omega
  have h2 : Str.empty.length + (Str.ofString "it is there: ").length ≤ 100000 := by decide
  have h3 : Str.empty.length + (Str.ofString "it is there: ").length + s.length ≤ 100000 := by
    have : Str.empty.length + (Str.ofString "it is there: ").length ≤ 1000 := by decide
    omega
  have hm : m < S.length := (List.getElem?_eq_some_iff.mp hS).1
  simp [callN, P, b1, evSs, evS, evE, evEs, evJ, fmtD, frame0, xsD, b_ok, q_ok, o_ok, x0 hS, x1 hm, x2, l3 hm, Str.length_append, h1, h2, h3]
theorem i2 {n m : Nat} {S : Sto} {s : Str} (h : s.length ≤ 1000) (hS : S[m]? = some (.xo m 5 none)) : callN P (n + 1) 2 [.ref m, .str s] S = .ok .non (S.set m (.xo m 5 (some S.length)) ++ [.xd S.length [(15, .str s)]]) := by
  have h1 : s.length ≤ 100000 := by omega
  have h2 : Str.empty.length + (Str.ofString "no such table: ").length ≤ 100000 := by decide
  have h3 : Str.empty.length + (Str.ofString "no such table: ").length + s.length ≤ 100000 := by
    have : Str.empty.length + (Str.ofString "no such table: ").length ≤ 1000 := by decide
    omega
  have hm : m < S.length := (List.getElem?_eq_some_iff.mp hS).1
  simp [callN, P, b2, evSs, evS, evE, evEs, evJ, fmtD, frame0, xsD, b_ok, q_ok, o_ok, x0 hS, x1 hm, x2, l3 hm, Str.length_append, h1, h2, h3]
theorem i3 {n m : Nat} {S : Sto} {s : Str} (h : s.length ≤ 1000) (hS : S[m]? = some (.xo m 6 none)) : callN P (n + 1) 3 [.ref m, .str s] S = .ok .non (S.set m (.xo m 6 (some S.length)) ++ [.xd S.length [(15, .str s)]]) := by
  have h1 : s.length ≤ 100000 := by omega
  have h2 : Str.empty.length + (Str.ofString "no such column: ").length ≤ 100000 := by decide
  have h3 : Str.empty.length + (Str.ofString "no such column: ").length + s.length ≤ 100000 := by
    have : Str.empty.length + (Str.ofString "no such column: ").length ≤ 1000 := by decide
    omega
  have hm : m < S.length := (List.getElem?_eq_some_iff.mp hS).1
  simp [callN, P, b3, evSs, evS, evE, evEs, evJ, fmtD, frame0, xsD, b_ok, q_ok, o_ok, x0 hS, x1 hm, x2, l3 hm, Str.length_append, h1, h2, h3]
theorem i4 {n m : Nat} {S : Sto} {s : Str} (h : s.length ≤ 1000) (hS : S[m]? = some (.xo m 7 none)) : callN P (n + 1) 4 [.ref m, .str s] S = .ok .non (S.set m (.xo m 7 (some S.length)) ++ [.xd S.length [(15, .str s)]]) := by
  have h1 : s.length ≤ 100000 := by omega
  have h2 : Str.empty.length + (Str.ofString "set twice: ").length ≤ 100000 := by decide
  have h3 : Str.empty.length + (Str.ofString "set twice: ").length + s.length ≤ 100000 := by
    have : Str.empty.length + (Str.ofString "set twice: ").length ≤ 1000 := by decide
    omega
  have hm : m < S.length := (List.getElem?_eq_some_iff.mp hS).1
  simp [callN, P, b4, evSs, evS, evE, evEs, evJ, fmtD, frame0, xsD, b_ok, q_ok, o_ok, x0 hS, x1 hm, x2, l3 hm, Str.length_append, h1, h2, h3]
theorem i5 {n m : Nat} {S : Sto} {s : Str} (h : s.length ≤ 1000) (hS : S[m]? = some (.xo m 8 none)) : callN P (n + 1) 5 [.ref m, .str s] S = .ok .non (S.set m (.xo m 8 (some S.length)) ++ [.xd S.length [(15, .str s)]]) := by
  have h1 : s.length ≤ 100000 := by omega
  have h2 : Str.empty.length + (Str.ofString "not upward: ").length ≤ 100000 := by decide
  have h3 : Str.empty.length + (Str.ofString "not upward: ").length + s.length ≤ 100000 := by
    have : Str.empty.length + (Str.ofString "not upward: ").length ≤ 1000 := by decide
    omega
  have hm : m < S.length := (List.getElem?_eq_some_iff.mp hS).1
  simp [callN, P, b5, evSs, evS, evE, evEs, evJ, fmtD, frame0, xsD, b_ok, q_ok, o_ok, x0 hS, x1 hm, x2, l3 hm, Str.length_append, h1, h2, h3]
theorem i6 {n m : Nat} {S : Sto} {z : Int} (hz : Sml z) (hS : S[m]? = some (.xo m 9 none)) : callN P (n + 1) 6 [.ref m, .int z] S = .ok .non (S.set m (.xo m 9 (some S.length)) ++ [.xd S.length [(16, .int z)]]) := by
  have h := hz.len
  have hl := hz.log
  have h1 : (tx z).length ≤ 100000 := by omega
  have h2 : Str.empty.length + (Str.ofString "not so written: ").length ≤ 100000 := by decide
  have h3 : Str.empty.length + (Str.ofString "not so written: ").length + (tx z).length ≤ 100000 := by
    have : Str.empty.length + (Str.ofString "not so written: ").length ≤ 1000 := by decide
    omega
  have hm : m < S.length := (List.getElem?_eq_some_iff.mp hS).1
  simp [callN, P, b6, evSs, evS, evE, evEs, evJ, fm_i hz, frame0, xsD, b_ok, q_ok, o_ok, x0 hS, x1 hm, x2, l3 hm, Str.length_append, h1, h2, h3]
theorem i10 {n m : Nat} {S : Sto} {z : Int} (hz : Sml z) (hS : S[m]? = some (.xo m 13 none)) : callN P (n + 1) 10 [.ref m, .int z] S = .ok .non (S.set m (.xo m 13 (some S.length)) ++ [.xd S.length [(22, .int z)]]) := by
  have h := hz.len
  have hl := hz.log
  have h1 : (tx z).length ≤ 100000 := by omega
  have h2 : Str.empty.length + (Str.ofString "others were sooner: ").length ≤ 100000 := by decide
  have h3 : Str.empty.length + (Str.ofString "others were sooner: ").length + (tx z).length ≤ 100000 := by
    have : Str.empty.length + (Str.ofString "others were sooner: ").length ≤ 1000 := by decide
    omega
  have hm : m < S.length := (List.getElem?_eq_some_iff.mp hS).1
  simp [callN, P, b10, evSs, evS, evE, evEs, evJ, fm_i hz, frame0, xsD, b_ok, q_ok, o_ok, x0 hS, x1 hm, x2, l3 hm, Str.length_append, h1, h2, h3]
theorem i11 {n m : Nat} {S : Sto} {z : Int} (hz : Sml z) (hS : S[m]? = some (.xo m 14 none)) : callN P (n + 1) 11 [.ref m, .int z] S = .ok .non (S.set m (.xo m 14 (some S.length)) ++ [.xd S.length [(22, .int z)]]) := by
  have h := hz.len
  have hl := hz.log
  have h1 : (tx z).length ≤ 100000 := by omega
  have h2 : Str.empty.length + (Str.ofString "not open: ").length ≤ 100000 := by decide
  have h3 : Str.empty.length + (Str.ofString "not open: ").length + (tx z).length ≤ 100000 := by
    have : Str.empty.length + (Str.ofString "not open: ").length ≤ 1000 := by decide
    omega
  have hm : m < S.length := (List.getElem?_eq_some_iff.mp hS).1
  simp [callN, P, b11, evSs, evS, evE, evEs, evJ, fm_i hz, frame0, xsD, b_ok, q_ok, o_ok, x0 hS, x1 hm, x2, l3 hm, Str.length_append, h1, h2, h3]
theorem i8 {n m : Nat} {S : Sto} {s : Str} {y : D} (h : s.length ≤ 1000) (hS : S[m]? = some (.xo m 11 none)) : callN P (n + 1) 8 [.ref m, .str s, y] S = .ok .non (S.set m (.xo m 11 (some S.length)) ++ [.xd S.length [(20, y), (19, .str s)]]) := by
  have h1 : s.length ≤ 100000 := by omega
  have h2 : Str.empty.length + (Str.ofString "they clash: ").length ≤ 100000 := by decide
  have h3 : Str.empty.length + (Str.ofString "they clash: ").length + s.length ≤ 100000 := by
    have : Str.empty.length + (Str.ofString "they clash: ").length ≤ 1000 := by decide
    omega
  have hm : m < S.length := (List.getElem?_eq_some_iff.mp hS).1
  simp [callN, P, b8, evSs, evS, evE, evEs, evJ, fmtD, frame0, xsD, b_ok, q_ok, o_ok, x0 hS, x1 hm, x2, l3 hm, Str.length_append, h1, h2, h3]
theorem i9 {n m : Nat} {S : Sto} {s : Str} {y : D} (h : s.length ≤ 1000) (hS : S[m]? = some (.xo m 12 none)) : callN P (n + 1) 9 [.ref m, .str s, y] S = .ok .non (S.set m (.xo m 12 (some S.length)) ++ [.xd S.length [(21, y), (19, .str s)]]) := by
  have h1 : s.length ≤ 100000 := by omega
  have h2 : Str.empty.length + (Str.ofString "it is lost: ").length ≤ 100000 := by decide
  have h3 : Str.empty.length + (Str.ofString "it is lost: ").length + s.length ≤ 100000 := by
    have : Str.empty.length + (Str.ofString "it is lost: ").length ≤ 1000 := by decide
    omega
  have hm : m < S.length := (List.getElem?_eq_some_iff.mp hS).1
  simp [callN, P, b9, evSs, evS, evE, evEs, evJ, fmtD, frame0, xsD, b_ok, q_ok, o_ok, x0 hS, x1 hm, x2, l3 hm, Str.length_append, h1, h2, h3]
theorem i7 {n m : Nat} {S : Sto} {x : D} {y z : Int} (hy : Sml y) (hz : Sml z) (hS : S[m]? = some (.xo m 10 none)) : callN P (n + 1) 7 [.ref m, x, .int y, .int z] S = .ok .non (S.set m (.xo m 10 (some S.length)) ++ [.xd S.length [(17, .int z), (18, .int y), (19, x)]]) := by
  have a1 := hy.len
  have a2 := hz.len
  have hl := hy.log
  have hk := hz.log
  have e1 : Str.empty.length + (Str.ofString "they tie: ").length ≤ 1000 := by decide
  have e2 : (Str.ofString ", ").length ≤ 1000 := by decide
  have h1 : Str.empty.length + (Str.ofString "they tie: ").length + (tx y).length + (Str.ofString ", ").length + (tx z).length ≤ 100000 := by omega
  have h2 : Str.empty.length + (Str.ofString "they tie: ").length + (tx y).length + (Str.ofString ", ").length ≤ 100000 := by omega
  have h3 : Str.empty.length + (Str.ofString "they tie: ").length + (tx y).length ≤ 100000 := by omega
  have h4 : Str.empty.length + (Str.ofString "they tie: ").length ≤ 100000 := by omega
  have hm : m < S.length := (List.getElem?_eq_some_iff.mp hS).1
  simp [callN, P, b7, evSs, evS, evE, evEs, evJ, fm_i hy, fm_i hz, frame0, xsD, b_ok, q_ok, o_ok, x0 hS, x1 hm, x2, l3 hm, Str.length_append, h1, h2, h3, h4]
end K66

/-! k66: bear. -/
namespace K66
open PySem L2 Mi
theorem sq {cf : CallF} {s : Mi.Sm} {r : Sms} {e e1 : Fr} {st s1 : Sto} {R : Fl} (h : evS cf P s e st = .nx e1 s1) (h2 : evSs cf P r e1 s1 = R) : evSs cf P (.cons s r) e st = R := by
  simp only [evSs]
  rw [h]
  exact h2
theorem sqr {cf : CallF} {s : Mi.Sm} {r : Sms} {e : Fr} {st s1 : Sto} {d : D} (h : evS cf P s e st = .rt d s1) : evSs cf P (.cons s r) e st = .rt d s1 := by
  simp only [evSs]
  rw [h]
theorem bear0 {n : Nat} {st : Sto} {a b : Str} {ln : List D} {z : Int} (ha : a.length ≤ 1000) (hb : b.length ≤ 1000) (h0 : Sml z) (h1 : Sml (z + 1)) (h2 : Sml (z + 2)) (h3 : Sml (z + 3)) (h4 : Sml (z + 4)) (h5 : Sml 0) :
    ∃ d s', evSs (callN P (n + 1)) P b12 (frame0 10 [.str a, .str b, .tup ln, .int z]) st = .rt d s' ∧ ∃ tl j, d = .ref (st.length + j) ∧ s' = st ++ tl ∧ tl[j]? = some (.lst [.str a, .int z, .int (z + 1), .str b, .tup ln, .str a, .tup ln, .str a, .str b, .str a, .str b, .str a, .str b, .int 0, .int z, .int (z + 2), .int 0, .int z, .int (z + 3), .int z, .int (z + 4)]) := by
  apply Exists.intro
  apply Exists.intro
  apply And.intro
  · unfold b12
    apply sq
    · simp [evS, evE, evEs, evIt, q_ok, b_ok, o_ok, op2, frame0, pick, Src.of, gk, la, sk, D.isN, xfD, isX, isF, isM, isL, List.lookup, Nat.add_assoc, i7 h0 h1]
      exact ⟨rfl, rfl⟩
    apply sq
    · simp [evS, evE, evEs, evIt, q_ok, b_ok, o_ok, op2, frame0, pick, Src.of, gk, la, sk, D.isN, xfD, isX, isF, isM, isL, List.lookup, Nat.add_assoc, i8 hb]
      exact ⟨rfl, rfl⟩
    apply sq
    · simp [evS, evE, evEs, evIt, q_ok, b_ok, o_ok, op2, frame0, pick, Src.of, gk, la, sk, D.isN, xfD, isX, isF, isM, isL, List.lookup, Nat.add_assoc, i9 ha]
      exact ⟨rfl, rfl⟩
    apply sq
    · simp [evS, evE, evEs, evIt, q_ok, b_ok, o_ok, op2, frame0, pick, Src.of, gk, la, sk, D.isN, xfD, isX, isF, isM, isL, List.lookup, Nat.add_assoc]
      exact ⟨rfl, rfl⟩
    apply sq
    · simp [evS, evE, evEs, evIt, q_ok, b_ok, o_ok, op2, frame0, pick, Src.of, gk, la, sk, D.isN, xfD, isX, isF, isM, isL, List.lookup, Nat.add_assoc, i0 ha, i1 hb, i2 ha, i3 hb, i4 ha, i5 hb]
      exact ⟨rfl, rfl⟩
    apply sq
    · simp [evS, evE, evEs, evIt, q_ok, b_ok, o_ok, op2, frame0, pick, Src.of, gk, la, sk, D.isN, xfD, isX, isF, isM, isL, List.lookup, Nat.add_assoc, lcL, itm, turns, asgT, wips, noX, asB, tru]
      exact ⟨rfl, rfl⟩
    apply sq
    · simp [evS, evE, evEs, evIt, q_ok, b_ok, o_ok, op2, frame0, pick, Src.of, gk, la, sk, D.isN, xfD, isX, isF, isM, isL, List.lookup, Nat.add_assoc, i6 h0, i6 h2, i6 h5]
      exact ⟨rfl, rfl⟩
    apply sq
    · simp [evS, evE, evEs, evIt, q_ok, b_ok, o_ok, op2, frame0, pick, Src.of, gk, la, sk, D.isN, xfD, isX, isF, isM, isL, List.lookup, Nat.add_assoc, i10 h0, i10 h3, i10 h5]
      exact ⟨rfl, rfl⟩
    apply sqr
    · simp [evS, evE, evEs, evIt, q_ok, b_ok, o_ok, op2, frame0, pick, Src.of, gk, la, sk, D.isN, xfD, isX, isF, isM, isL, List.lookup, Nat.add_assoc, i11 h0, i11 h4]
      exact ⟨rfl, rfl⟩
  · exact ⟨_, _, rfl, rfl, rfl⟩
theorem bear {n : Nat} {st : Sto} {a b : Str} {ln : List D} {z : Int} (ha : a.length ≤ 1000) (hb : b.length ≤ 1000) (h0 : Sml z) (h1 : Sml (z + 1)) (h2 : Sml (z + 2)) (h3 : Sml (z + 3)) (h4 : Sml (z + 4)) (h5 : Sml 0) :
    ∃ tl j, callN P (n + 2) 12 [.str a, .str b, .tup ln, .int z] st = .ok (.ref (st.length + j)) (st ++ tl) ∧ tl[j]? = some (.lst [.str a, .int z, .int (z + 1), .str b, .tup ln, .str a, .tup ln, .str a, .str b, .str a, .str b, .str a, .str b, .int 0, .int z, .int (z + 2), .int 0, .int z, .int (z + 3), .int z, .int (z + 4)]) := by
  obtain ⟨d, s', h, tl, j, rfl, rfl, hj⟩ := bear0 (n := n) (st := st) (ln := ln) ha hb h0 h1 h2 h3 h4 h5
  refine ⟨tl, j, ?_, hj⟩
  rw [show callN P (n + 2) 12 [.str a, .str b, .tup ln, .int z] st = (match evSs (callN P (n + 1)) P b12 (frame0 10 [.str a, .str b, .tup ln, .int z]) st with
    | .nx _ s1 => .ok .non s1
    | .rt d s1 => .ok d s1
    | .exc x _ s1 => .exc x s1
    | _ => .bad) from rfl, h]
end K66

/-! k66: a turn. -/
namespace K66
open PySem L2 Mi
def Lt : Str := "abcdefghijklmnopqrstuvwxyz"
theorem atL {i : Int} (h0 : 0 ≤ i) (h1 : i < 26) : ∃ c, L2.atI Lt.cps.toList i = some c ∧ c < 200 := by
  have key : ∀ k : Fin 26, L2.atI Lt.cps.toList ((k.val : Nat) : Int) = some (97 + k.val) := by decide +kernel
  have e : i = ((i.toNat : Nat) : Int) := by omega
  refine ⟨97 + i.toNat, ?_, by omega⟩
  have := key ⟨i.toNat, by omega⟩
  rw [e]
  exact this
theorem okm {s : Int} (h0 : 0 ≤ s) (h1 : s < 2147483647) : okMul s 48271 = true := by
  unfold okMul
  have h : (-(2 ^ 64) < s ∧ s < 2 ^ 64) ∨ (-(2 ^ 64 : Int) < 48271 ∧ (48271 : Int) < 2 ^ 64) := .inl ⟨by omega, by omega⟩
  rw [decide_eq_true h]
  rfl
def fr (x0 : Option D) (s : Int) (x2 : Option D) (t : Int) (x5 x6 x7 x8 x9 x10 x11 x12 : Option D) : Fr := [x0, some (.int s), x2, some (.str Lt), some (.int t), x5, x6, x7, x8, x9, x10, x11, x12]
theorem st_ok {c : Nat} (h : c < 200) : PyData.strOk ⟨#[c]⟩ = true := by
  unfold PyData.strOk
  simp
  omega
theorem peq_l {st : Sto} {i j : Nat} {l : List D} (h1 : isL st i = some l) (h2 : isL st j = some l) (h : (mapO (toP st 23) l).isSome = true) : peqD st (.ref i) (.ref j) = some true := by
  obtain ⟨ps, hp⟩ := Option.isSome_iff_exists.mp h
  exact peq_same h1 h2 hp
theorem some_cons {st : Sto} {f : Nat} {d : D} {l : List D} (h1 : (toP st f d).isSome = true) (h2 : (mapO (toP st f) l).isSome = true) : (mapO (toP st f) (d :: l)).isSome = true := by
  obtain ⟨p, hp⟩ := Option.isSome_iff_exists.mp h1
  obtain ⟨ps, hps⟩ := Option.isSome_iff_exists.mp h2
  unfold mapO
  rw [hp, hps]
  rfl
theorem some_str {st : Sto} {f : Nat} {s : Str} (h : PyData.strOk s = true) : (toP st (f + 1) (.str s)).isSome = true := by
  simp only [toP]
  rw [if_pos h]
  rfl
theorem some_tup {st : Sto} {f : Nat} {l : List D} (h : (mapO (toP st f) l).isSome = true) : (toP st (f + 1) (.tup l)).isSome = true := by
  simp only [toP]
  obtain ⟨ps, hp⟩ := Option.isSome_iff_exists.mp h
  rw [hp]
  rfl
theorem isL_app {st tl : Sto} {i : Nat} {l : List D} (h : isL st i = some l) : isL (st ++ tl) i = some l := by
  unfold isL at h ⊢
  cases e : st[i]? with
  | none => rw [e] at h; cases h
  | some o =>
    rw [List.getElem?_append_left (List.getElem?_eq_some_iff.mp e).1, e]
    rw [e] at h
    exact h
theorem isL_at {st tl : Sto} {j : Nat} {l : List D} (h : tl[j]? = some (.lst l)) : isL (st ++ tl) (st.length + j) = some l := by
  unfold isL
  rw [gk, h]
def dropS : Nat → Sms → Sms
  | 0, s => s
  | n + 1, .cons _ r => dropS n r
  | _, .nil => .nil
abbrev F9 (x0 : Option D) (s : Int) (x2 : Option D) (t : Int) (a b : Str) (z : Int) (ln : List D) (k k1 k2 : Nat) (x12 : Option D) : Fr := [x0, some (.int s), x2, some (.str Lt), some (.int t), some (.str a), some (.str b), some (.int z), some (.tup ln), some (.ref k), some (.ref k1), some (.ref k2), x12]
abbrev due (a b : Str) (z : Int) (ln : List D) : List D := [.str a, .int z, .int (z + 1), .str b, .tup ln, .str a, .tup ln, .str a, .str b, .str a, .str b, .str a, .str b, .int 0, .int z, .int (z + 2), .int 0, .int z, .int (z + 3), .int z, .int (z + 4)]
/-- what stands before the checks -/
structure Pre (S : Sto) (a b : Str) (z : Int) (ln : List D) (k k1 k2 m1 m2 : Nat) : Prop where
  l : isL S k = some (due a b z ln)
  x1 : isX S (.ref k1) = some (k1, 10, some m1)
  f1 : isF S m1 = some [(17, .int z), (18, .int z), (19, .str a)]
  x2 : isX S (.ref k2) = some (k2, 10, some m2)
  f2 : isF S m2 = some [(17, .int (z + 9)), (18, .int 0), (19, .str b)]
theorem isX_app {st tl : Sto} {d : D} {r : Nat × Nat × Option Nat} (h : isX st d = some r) : isX (st ++ tl) d = some r := by
  unfold isX at h ⊢
  cases d with
  | ref i =>
    dsimp only at h ⊢
    cases e : st[i]? with
    | none => rw [e] at h; cases h
    | some o => rw [List.getElem?_append_left (List.getElem?_eq_some_iff.mp e).1, e]; rw [e] at h; exact h
  | _ => cases h
theorem isF_app {st tl : Sto} {m : Nat} {r : List (Nat × D)} (h : isF st m = some r) : isF (st ++ tl) m = some r := by
  unfold isF at h ⊢
  cases e : st[m]? with
  | none => rw [e] at h; cases h
  | some o => rw [List.getElem?_append_left (List.getElem?_eq_some_iff.mp e).1, e]; rw [e] at h; exact h
theorem Pre.app {S tl : Sto} {a b : Str} {z : Int} {ln : List D} {k k1 k2 m1 m2 : Nat} (p : Pre S a b z ln k k1 k2 m1 m2) : Pre (S ++ tl) a b z ln k k1 k2 m1 m2 := ⟨isL_app p.l, isX_app p.x1, isF_app p.f1, isX_app p.x2, isF_app p.f2⟩
/-- a turn's first part -/
theorem turnA {n : Nat} {st : Sto} {x0 x2 x5 x6 x7 x8 x9 x10 x11 x12 : Option D} {s t m : Int} {a b : Nat} {ln : List D} (hs : 0 ≤ s) (hs2 : s < 2147483647) {s' : Int} (es : s' = (s * 48271 + 11) % 2147483647)
    (ea : L2.atI Lt.cps.toList (s' / 7 % 26) = some a) (eb : L2.atI Lt.cps.toList (s' / 401 % 26) = some b) (et : L2.atI [D.int 5, D.int 1000000000] (t % 2) = some (.int m)) (hm : 0 < m) (hm2 : m ≤ 1000000000)
    (el : cutL [D.int (s' / 16 % m), .non, .int (0 - s' / 16 % m)] none (some (1 + s' / 4096 % 3)) = ln) :
    ∃ S k k1 k2 m1 m2, (∀ R, evSs (callN P (n + 2)) P (dropS 8 b13_f1) (F9 x0 s' x2 t ⟨#[a]⟩ ("row" ++ ⟨#[b]⟩) (s' / 16 % m) ln k k1 k2 x12) S = R → evSs (callN P (n + 2)) P b13_f1 (fr x0 s x2 t x5 x6 x7 x8 x9 x10 x11 x12) st = R) ∧ Pre S ⟨#[a]⟩ ("row" ++ ⟨#[b]⟩) (s' / 16 % m) ln k k1 k2 m1 m2 := by
  have h1 := okm hs hs2
  have hl : Lt.length ≤ 100000 := by decide
  have g7 : Nat.log2 7 < 9000 := by decide +kernel
  have g401 : Nat.log2 401 < 9000 := by decide +kernel
  have g16 : Nat.log2 16 < 9000 := by decide +kernel
  have g4096 : Nat.log2 4096 < 9000 := by decide +kernel
  have z0 : 0 ≤ s' / 16 % m := Int.emod_nonneg _ (by omega)
  have z1 : s' / 16 % m < 1000000000 := by have := Int.emod_lt_of_pos (s' / 16) hm; omega
  generalize ez : s' / 16 % m = z at *
  have q : ∀ k : Int, 0 ≤ k → k < 100 → Sml (z + k) := fun k _ _ => Sml.of (by omega)
  have q0 : Sml z := Sml.of (by omega)
  have qz : Sml 0 := Sml.of (by decide)
  have er : (Str.ofString "row").length + (⟨#[b]⟩ : Str).length ≤ 100000 := by show (4 : Nat) ≤ 100000; decide
  have la' : (⟨#[a]⟩ : Str).length ≤ 1000 := by show (1 : Nat) ≤ 1000; decide
  have lb' : ("row" ++ ⟨#[b]⟩ : Str).length ≤ 1000 := by rw [Str.length_append]; show (4 : Nat) ≤ 1000; decide
  refine ⟨st ++ [.lst [.int 5, .int 1000000000], .lst (due ⟨#[a]⟩ ("row" ++ ⟨#[b]⟩) z ln), .xo (st.length + 2) 10 (some (st.length + 3)), .xd (st.length + 3) [(17, .int z), (18, .int z), (19, .str ⟨#[a]⟩)], .xo (st.length + 4) 10 (some (st.length + 5)), .xd (st.length + 5) [(17, .int (z + 9)), (18, .int 0), (19, .str ("row" ++ ⟨#[b]⟩))]], st.length + 1, st.length + 2, st.length + 4, st.length + 3, st.length + 5, fun R hR => ?_, ⟨?_, ?_, ?_, ?_, ?_⟩⟩
  · unfold b13_f1
    apply sq
    · simp [evS, evE, q_ok, b_ok, o_ok, op2, fr, h1]
      exact ⟨rfl, rfl⟩
    rw [← es]
    apply sq
    · simp [evS, evE, q_ok, b_ok, o_ok, op2, idxD, hl, ea, g7]
      exact ⟨rfl, rfl⟩
    apply sq
    · simp [evS, evE, q_ok, b_ok, o_ok, op2, idxD, hl, eb, g401, Str.length_append, er]
      exact ⟨rfl, rfl⟩
    apply sq
    · simp [evS, evE, evEs, q_ok, b_ok, o_ok, op2, idxD, isL, et, hm, g0, gk, g16, la, ez]
      exact ⟨rfl, rfl⟩
    apply sq
    · simp [evS, evE, evEs, q_ok, b_ok, o_ok, op2, intO, slcD, g4096]
      exact ⟨rfl, rfl⟩
    have el' : cutL [D.int z, .non, .int (-z)] none (some (1 + s' / 4096 % 3)) = ln := by rw [← el]; simp
    rw [el']
    apply sq
    · simp [evS, evE, evEs, q_ok, b_ok, o_ok, op2, la]
      exact ⟨rfl, rfl⟩
    apply sq
    · simp [evS, evE, evEs, q_ok, b_ok, o_ok, pick, Src.of, i7 q0 q0, gk, la, sk, D.isN, Nat.add_assoc]
      exact ⟨rfl, rfl⟩
    apply sq
    · simp [evS, evE, evEs, q_ok, b_ok, o_ok, op2, pick, Src.of, i7 qz (q 9 (by decide) (by decide)), gk, la, sk, D.isN, Nat.add_assoc]
      exact ⟨rfl, rfl⟩
    exact hR
  · exact isL_at rfl
  · simp [isX, gk]
  · simp [isF, gk]
  · simp [isX, gk]
  · simp [isF, gk]
end K66

/-! k66: a turn's checks, the law. -/
namespace K66
open PySem L2 Mi
section
variable {n : Nat} {S : Sto} {x0 x2 x12 : Option D} {s t z : Int} {a b : Str} {ln : List D} {k k1 k2 m1 m2 : Nat}
theorem mapO_due {S : Sto} (ha : PyData.strOk a = true) (hb : PyData.strOk b = true) (hl : (mapO (toP S 22) ln).isSome = true) : (mapO (toP S 23) (due a b z ln)).isSome = true := by
  have A := some_str (st := S) (f := 22) ha
  have B := some_str (st := S) (f := 22) hb
  have L : (toP S 23 (.tup ln)).isSome = true := some_tup hl
  have I : ∀ i : Int, (toP S 23 (.int i)).isSome = true := fun _ => rfl
  exact some_cons A (some_cons (I _) (some_cons (I _) (some_cons B (some_cons L (some_cons A (some_cons L (some_cons A (some_cons B (some_cons A (some_cons B (some_cons A (some_cons B (some_cons (I _) (some_cons (I _) (some_cons (I _) (some_cons (I _) (some_cons (I _) (some_cons (I _) (some_cons (I _) (some_cons (I _) rfl))))))))))))))))))))
theorem t8 (p : Pre S a b z ln k k1 k2 m1 m2) (ha : a.length ≤ 1000) (hb : b.length ≤ 1000) (sa : PyData.strOk a = true) (sb : PyData.strOk b = true) (hl : ∀ S, (mapO (toP S 22) ln).isSome = true) (q : ∀ j : Int, 0 ≤ j → j < 100 → Sml (z + j)) :
    ∃ tl, ∀ R, evSs (callN P (n + 2)) P (dropS 9 b13_f1) (F9 x0 s x2 t a b z ln k k1 k2 x12) (S ++ tl) = R → evSs (callN P (n + 2)) P (dropS 8 b13_f1) (F9 x0 s x2 t a b z ln k k1 k2 x12) S = R := by
  have q0 : Sml z := by have := q 0 (by decide) (by decide); simpa using this
  obtain ⟨tl, j, h1, h2⟩ := bear (n := n) (st := S) (ln := ln) ha hb q0 (q 1 (by decide) (by decide)) (q 2 (by decide) (by decide)) (q 3 (by decide) (by decide)) (q 4 (by decide) (by decide)) (Sml.of (by decide))
  refine ⟨tl, fun R hR => ?_⟩
  have e := peq_l (isL_at (st := S) h2) (isL_app (tl := tl) p.l) (mapO_due sa sb (hl _))
  refine sq ?_ hR
  simp [evS, evSs, evE, evEs, asB, tru, q_ok, b_ok, o_ok, op2, pick, Src.of, h1, e]
theorem t9 (p : Pre S a b z ln k k1 k2 m1 m2) (sa : PyData.strOk a = true) (sb : PyData.strOk b = true) :
    ∃ tl, ∀ R, evSs (callN P (n + 2)) P (dropS 10 b13_f1) (F9 x0 s x2 t a b z ln k k1 k2 x12) (S ++ tl) = R → evSs (callN P (n + 2)) P (dropS 9 b13_f1) (F9 x0 s x2 t a b z ln k k1 k2 x12) S = R := by
  have e : peqD (S ++ [.lst [.str a, .int z, .str b, .int (z + 9)], .lst [.str a, .int z, .str b, .int (z + 9)]]) (.ref S.length) (.ref (S.length + 1)) = some true :=
    peq_l (isL_at (j := 0) rfl) (isL_at (j := 1) rfl) (some_cons (some_str sa) (some_cons rfl (some_cons (some_str sb) (some_cons rfl rfl))))
  refine ⟨[.lst [.str a, .int z, .str b, .int (z + 9)], .lst [.str a, .int z, .str b, .int (z + 9)]], fun R hR => ?_⟩
  refine sq ?_ hR
  simp [evS, evSs, evE, evEs, asB, tru, q_ok, b_ok, o_ok, op2, xfD, p.x1, p.f1, p.x2, p.f2, List.lookup, la, e]
theorem t10 (p : Pre S a b z ln k k1 k2 m1 m2) : ∀ R, evSs (callN P (n + 2)) P (dropS 11 b13_f1) (F9 x0 s x2 t a b z ln k k1 k2 (some (.ref (S.length + 2)))) (S ++ [.xo S.length 9 (some (S.length + 1)), .xd (S.length + 1) [(16, .int 0)], .lst [.bl true, .bl false, .bl true]]) = R → evSs (callN P (n + 2)) P (dropS 10 b13_f1) (F9 x0 s x2 t a b z ln k k1 k2 x12) S = R := by
  intro R hR
  refine sq ?_ hR
  have y1 : isX (S ++ [.xo S.length 9 (some (S.length + 1)), .xd (S.length + 1) [(16, .int 0)]]) (.ref S.length) = some (S.length, 9, some (S.length + 1)) := by simp [isX, g0]
  have y2 : isF (S ++ [.xo S.length 9 (some (S.length + 1)), .xd (S.length + 1) [(16, .int 0)]]) (S.length + 1) = some [(16, .int 0)] := by simp [isF, gk]
  simp [evS, evSs, evE, evEs, q_ok, b_ok, o_ok, pick, Src.of, xdOk, p.x1, p.f1, List.lookup, la, g0, gk, s0', sk, D.isN, i6 (Sml.of (z := 0) (by decide)), y1, y2]
theorem t11 {c : Nat} (p : Pre S a b z ln k k1 k2 m1 m2) (hc : isL S c = some [.bl true, .bl false, .bl true]) : ∃ tl, evSs (callN P (n + 2)) P (dropS 11 b13_f1) (F9 x0 s x2 t a b z ln k k1 k2 (some (.ref c))) S = .nx (F9 x0 s x2 t a b z ln k k1 k2 (some (.ref c))) (S ++ tl) := by
  have e : peqD (S ++ [.lst [.bl true, .bl false, .bl true]]) (.ref c) (.ref S.length) = some true :=
    peq_l (isL_app hc) (isL_at (j := 0) rfl) rfl
  refine ⟨[.lst [.bl true, .bl false, .bl true]], sq ?_ rfl⟩
  simp [evS, evSs, evE, evEs, asB, tru, tst, q_ok, b_ok, o_ok, op2, xdOk, p.x1, isX_app p.x2, isF_app p.f2, List.lookup, la, e]
end
abbrev Gr (x0 : Option D) (s : Int) (x2 x3 x4 x5 x6 x7 x8 x9 x10 x11 x12 : Option D) : Fr := [x0, some (.int s), x2, x3, x4, x5, x6, x7, x8, x9, x10, x11, x12]
theorem turn {n : Nat} {st : Sto} {x0 x2 x5 x6 x7 x8 x9 x10 x11 x12 : Option D} {s t : Int} (hs : 0 ≤ s) (hs2 : s < 2147483647) (ht : t % 2 = 0 ∨ t % 2 = 1) :
    ∃ s' y5 y6 y7 y8 y9 y10 y11 y12 S, 0 ≤ s' ∧ s' < 2147483647 ∧ evSs (callN P (n + 2)) P b13_f1 (Gr x0 s x2 (some (.str Lt)) (some (.int t)) x5 x6 x7 x8 x9 x10 x11 x12) st = .nx (Gr x0 s' x2 (some (.str Lt)) (some (.int t)) y5 y6 y7 y8 y9 y10 y11 y12) S := by
  have h0 : 0 ≤ (s * 48271 + 11) % 2147483647 := Int.emod_nonneg _ (by decide)
  have h1 : (s * 48271 + 11) % 2147483647 < 2147483647 := Int.emod_lt_of_pos _ (by decide)
  generalize es : (s * 48271 + 11) % 2147483647 = s' at *
  obtain ⟨a, ea, la'⟩ := atL (i := s' / 7 % 26) (Int.emod_nonneg _ (by decide)) (Int.emod_lt_of_pos _ (by decide))
  obtain ⟨b, eb, lb'⟩ := atL (i := s' / 401 % 26) (Int.emod_nonneg _ (by decide)) (Int.emod_lt_of_pos _ (by decide))
  obtain ⟨m, et, hm, hm2⟩ : ∃ m, L2.atI [D.int 5, D.int 1000000000] (t % 2) = some (.int m) ∧ 0 < m ∧ m ≤ 1000000000 := by
    rcases ht with e | e
    · rw [e]; exact ⟨5, rfl, by decide, by decide⟩
    · rw [e]; exact ⟨1000000000, rfl, by decide, by decide⟩
  obtain ⟨S, k, k1, k2, m1, m2, hA, p⟩ := turnA (n := n) (st := st) (x0 := x0) (x2 := x2) (x5 := x5) (x6 := x6) (x7 := x7) (x8 := x8) (x9 := x9) (x10 := x10) (x11 := x11) (x12 := x12) hs hs2 es.symm ea eb et hm hm2 rfl
  have z0 : 0 ≤ s' / 16 % m := Int.emod_nonneg _ (by omega)
  have z1 : s' / 16 % m < 1000000000 := by have := Int.emod_lt_of_pos (s' / 16) hm; omega
  have hln : ∀ S, (mapO (toP S 22) (cutL [D.int (s' / 16 % m), .non, .int (0 - s' / 16 % m)] none (some (1 + s' / 4096 % 3)))).isSome = true := by
    intro S
    have u0 : 0 ≤ s' / 4096 % 3 := Int.emod_nonneg _ (by decide)
    have u1 : s' / 4096 % 3 < 3 := Int.emod_lt_of_pos _ (by decide)
    generalize s' / 4096 % 3 = u at *
    have hu : u = 0 ∨ u = 1 ∨ u = 2 := by omega
    rcases hu with rfl | rfl | rfl <;> rfl
  have q : ∀ j : Int, 0 ≤ j → j < 100 → Sml (s' / 16 % m + j) := fun k _ _ => Sml.of (by omega)
  have sa := st_ok la'
  have sb : PyData.strOk ("row" ++ ⟨#[b]⟩ : Str) = true := by
    unfold PyData.strOk
    simp [Str.cps_append]
    exact ⟨by decide +kernel, by omega⟩
  have ca : (⟨#[a]⟩ : Str).length ≤ 1000 := by show (1 : Nat) ≤ 1000; decide
  have cb : ("row" ++ ⟨#[b]⟩ : Str).length ≤ 1000 := by rw [Str.length_append]; show (4 : Nat) ≤ 1000; decide
  obtain ⟨tl8, h8⟩ := t8 (n := n) (x0 := x0) (x2 := x2) (x12 := x12) (s := s') (t := t) p ca cb sa sb hln q
  have p8 := p.app (tl := tl8)
  obtain ⟨tl9, h9⟩ := t9 (n := n) (x0 := x0) (x2 := x2) (x12 := x12) (s := s') (t := t) p8 sa sb
  have p9 := p8.app (tl := tl9)
  have h10 := t10 (n := n) (x0 := x0) (x2 := x2) (x12 := x12) (s := s') (t := t) p9
  have p10 := p9.app (tl := [.xo (S ++ tl8 ++ tl9).length 9 (some ((S ++ tl8 ++ tl9).length + 1)), .xd ((S ++ tl8 ++ tl9).length + 1) [(16, .int 0)], .lst [.bl true, .bl false, .bl true]])
  obtain ⟨tl11, h11⟩ := t11 (n := n) (x0 := x0) (x2 := x2) (s := s') (t := t) p10 (isL_at (j := 2) rfl)
  exact ⟨s', _, _, _, _, _, _, _, _, _, h0, h1, hA _ (h8 _ (h9 _ (h10 _ h11)))⟩
theorem loop4 {n : Nat} {x0 x2 : Option D} : ∀ (f i : Nat), i + f = 4 → ∀ (s : Int) (x4 x5 x6 x7 x8 x9 x10 x11 x12 : Option D) (st : Sto), 0 ≤ s → s < 2147483647 →
    ∃ e S, forL (evSs (callN P (n + 2)) P b13_f1) (.n 4) (.rg 0 4) (f + 1) i (Gr x0 s x2 (some (.str Lt)) x4 x5 x6 x7 x8 x9 x10 x11 x12) st = .nx e S
  | 0, i, h, s, x4, x5, x6, x7, x8, x9, x10, x11, x12, st, _, _ => by
    have e : i = 4 := by omega
    subst e
    exact ⟨_, _, rfl⟩
  | f + 1, i, h, s, x4, x5, x6, x7, x8, x9, x10, x11, x12, st, h0, h1 => by
    have hi : i < 4 := by omega
    have ht : ((0 : Int) + (i : Nat)) % 2 = 0 ∨ ((0 : Int) + (i : Nat)) % 2 = 1 := by omega
    obtain ⟨s', y5, y6, y7, y8, y9, y10, y11, y12, S, a0, a1, e⟩ := turn (n := n) (st := st) (x0 := x0) (x2 := x2) (x5 := x5) (x6 := x6) (x7 := x7) (x8 := x8) (x9 := x9) (x10 := x10) (x11 := x11) (x12 := x12) h0 h1 ht
    obtain ⟨e', S', h'⟩ := loop4 (n := n) (x0 := x0) (x2 := x2) f (i + 1) (by omega) s' (some (.int (0 + (i : Nat)))) y5 y6 y7 y8 y9 y10 y11 y12 S a0 a1
    refine ⟨e', S', ?_⟩
    rw [forL]
    simp only [itm, if_pos hi]
    show lpF (evSs (callN P (n + 2)) P b13_f1 (Gr x0 s x2 (some (.str Lt)) (some (.int (0 + (i : Nat)))) x5 x6 x7 x8 x9 x10 x11 x12) st) _ = _
    rw [e]
    exact h'
theorem loopS {cf : CallF} {x0 : Option D} {st : Sto} {k : Nat} {xs : List Int} (hk : isL st k = some (xs.map .int)) : ∀ (f i : Nat), i + f = xs.length → ∀ (s : Int) (x2 : Option D), 0 ≤ s → s < 2147483647 →
    ∃ s' y2, 0 ≤ s' ∧ s' < 2147483647 ∧ forL (evSs cf P b13_f2) (.n 2) (.ls k) (f + 1) i (Gr x0 s x2 none none none none none none none none none none) st = .nx (Gr x0 s' y2 none none none none none none none none none none) st
  | 0, i, h, s, x2, h0, h1 => by
    refine ⟨s, x2, h0, h1, ?_⟩
    rw [forL]
    have e : (xs.map D.int)[i]? = none := List.getElem?_eq_none (by simp; omega)
    simp only [itm, hk, Option.map_some, e]
  | f + 1, i, h, s, x2, h0, h1 => by
    have hi : i < xs.length := by omega
    have e : (xs.map D.int)[i]? = some (.int xs[i]) := by rw [List.getElem?_map, List.getElem?_eq_getElem hi]; rfl
    have g0 : 0 ≤ (s * 48271 + xs[i] % 1000003 + 11) % 2147483647 := Int.emod_nonneg _ (by decide)
    have g1 : (s * 48271 + xs[i] % 1000003 + 11) % 2147483647 < 2147483647 := Int.emod_lt_of_pos _ (by decide)
    obtain ⟨s', y2, a0, a1, h'⟩ := loopS (cf := cf) (x0 := x0) hk f (i + 1) (by omega) _ (some (.int xs[i])) g0 g1
    refine ⟨s', y2, a0, a1, ?_⟩
    rw [forL]
    simp only [itm, hk, Option.map_some, e]
    have m1 := okm h0 h1
    have hb : evSs cf P b13_f2 (Gr x0 s (some (.int xs[i])) none none none none none none none none none none) st = .nx (Gr x0 ((s * 48271 + xs[i] % 1000003 + 11) % 2147483647) (some (.int xs[i])) none none none none none none none none none none) st := by
      simp [b13_f2, evSs, evS, evE, q_ok, b_ok, o_ok, op2, m1]
    show lpF (evSs cf P b13_f2 (Gr x0 s (some (.int xs[i])) none none none none none none none none none none) st) _ = _
    rw [hb]
    exact h'
theorem cut_map {l : List Int} : cutL (l.map D.int) none (some 63) = (cutL l none (some 63)).map D.int := by
  unfold cutL
  rw [List.length_map, List.map_take, List.map_drop]
/-- the law answers True -/
theorem law_true {x : D} {st : Sto} {l : List Int} (hx : slcD x none (some 63) st = some (.ref st.length, st ++ [.lst (cutL (l.map D.int) none (some 63))])) : ∃ S, callN P 4 13 [x] st = .ok (.bl true) S := by
  have hk : isL (st ++ [.lst (cutL (l.map D.int) none (some 63))]) st.length = some ((cutL l none (some 63)).map D.int) := by
    rw [← cut_map]; exact isL_at (j := 0) rfl
  obtain ⟨s, y2, h0, h1, hS⟩ := loopS (cf := callN P 3) (x0 := some x) hk (cutL l none (some 63)).length 0 (by omega) 7 none (by decide) (by decide)
  obtain ⟨e, S, h4⟩ := loop4 (n := 1) (x0 := some x) (x2 := y2) 4 0 rfl s none none none none none none none none none (st ++ [.lst (cutL (l.map D.int) none (some 63))]) h0 h1
  refine ⟨S, ?_⟩
  have key : evSs (callN P 3) P b13 (frame0 13 [x]) st = .rt (.bl true) S := by
    unfold b13
    refine sq (e1 := Gr (some x) 7 none none none none none none none none none none none) (s1 := st) (by simp [evS, evE, q_ok, frame0]) ?_
    refine sq (e1 := Gr (some x) s y2 none none none none none none none none none none) (s1 := st ++ [.lst (cutL (l.map D.int) none (some 63))]) ?_ ?_
    · have ev : evIt (callN P 3) (.sq (.sl0 (.var 0) (.lit (.int 63)))) (Gr (some x) 7 none none none none none none none none none none none) st = .ok (.ls st.length) (st ++ [.lst (cutL (l.map D.int) none (some 63))]) := by
        simp [evIt, evE, b_ok, intO, hx, o_ok, hk]
      simp only [evS]
      rw [ev]
      simp only [q_ok, turns, hk, Option.getD_some, List.length_map]
      exact hS
    refine sq (e1 := Gr (some x) s y2 (some (.str Lt)) none none none none none none none none none) (s1 := st ++ [.lst (cutL (l.map D.int) none (some 63))]) (by simp [evS, evE, q_ok]; rfl) ?_
    refine sq (e1 := e) (s1 := S) ?_ ?_
    · have ev : evIt (callN P 3) (.rng (.lit (.int 4))) (Gr (some x) s y2 (some (.str Lt)) none none none none none none none none none) (st ++ [.lst (cutL (l.map D.int) none (some 63))]) = .ok (.rg 0 4) (st ++ [.lst (cutL (l.map D.int) none (some 63))]) := by
        simp [evIt, evE, b_ok]
      simp only [evS]
      rw [ev]
      exact h4
    · exact sqr (by simp [evS, evE, q_ok])
  show (match evSs (callN P 3) P b13 (frame0 13 [x]) st with
    | .nx _ s1 => Out.ok D.non s1
    | .rt d s1 => Out.ok d s1
    | .exc x _ s1 => Out.exc x s1
    | _ => Out.bad) = _
  rw [key]
theorem law_lst {o : Ob} {l : List Int} (h : o = .lst (l.map .int) ∨ o = .lock (.lst (l.map .int))) : ∃ S, callN P 4 13 [.ref 0] [o] = .ok (.bl true) S := by
  refine law_true (l := l) ?_
  rcases h with rfl | rfl <;> rfl
theorem law_kl {l : List Int} : ∃ S, callN P 4 13 [.kl (l.map .int)] [] = .ok (.bl true) S := law_true (l := l) rfl
end K66

namespace Mi
open PySem PySem.Spec PyProof.Rows L2
/-- the law's end, where a call may let own exceptions out -/
theorem walk_M {l : PySem.W.OpenLaw} {n k : Nat} {q : Program} {loose : List Str} {XP : (Str → Option Value) → Heap → Prop} {YP : World → Heap → Prop} {d : DefRec} {x : Str}
    (hn : l.most = some n) (hn2 : n ≤ sizeLine) (hdf : d.params.defaults = []) (hr : Room k callerA)
    (F : ∀ (w : World) (mg : Str → Option Value) (fa : Addr) (h : Heap), YP w h → h.Ns mainGlobals mg → mg d.name = some (.ref fa) →
      ∃ (K : PySem.W.Frag) (fd : FuncData) (sp : Sp), K.In h ∧ (∀ (s : Shared) (u : Value), BindsTo s fd ⟨[u], []⟩ [(x, u)]) ∧
        (∀ (H : Hp) (a : Addr) (ns : List Int), ns.length ≤ n → SqL K H a (ns.map V.int) → sp [.ref a] H (fun v _ => v = .bl true) fun _ _ _ => False) ∧
        ∀ base : Heap, K.In base → base.Ns mainGlobals mg → FnOk l.prog w K mg base (L2.CX l.prog w) k fa fd [x] sp) :
    PySem.W.WalkO q loose XP YP l.row.toRowW d [] (fun f vs => PySem.call f vs) := by
  refine Att.attach_call hn hdf fun w s₀ s₁ mg mb fa o pm cd doc a vs ns G Y ho hd hcd hmg hobj hints hlen hg => ?_
  obtain ⟨K, fd, sp, KX, hb, hsp, hF⟩ := F w mg fa _ Y G.T.g hmg
  exact law_call KX G.T.g G.T.b G.T.builtins G.T.nolimit hg hobj hints (Nat.le_trans hlen hn2) hr hF hb (fun H _ hS => hsp H a ns hlen hS) fun H e s' z => by
    obtain ⟨_, _, _, _, _, _, _, _, _, _, _, _, z⟩ := z
    exact z
end Mi
open PySem PySem.W PySem.Calls PyProof.Rows L2 Mi
theorem PySem.Challenge.cw_onepour_k66_refusals_made_by_hand_holds : PySem.Challenge.rw_onepour_k66_refusals_made_by_hand.Holds := by
  w_on; o_law
  refine HandSHeadRun.head_any (r := OpenLaw.row PySem.Challenge.rw_onepour_k66_refusals_made_by_hand) (q := view (OpenLaw.row PySem.Challenge.rw_onepour_k66_refusals_made_by_hand).prog [18]) (H := K66.hk) (ob := K66.ob) (M := 20000) (loose := K66.loose) (d := HandSHeadRun.topDef (OpenLaw.row PySem.Challenge.rw_onepour_k66_refusals_made_by_hand).prog 18) (kwd := []) K66.ob_eq
    (by kernel_rfl) (fun s => by kernel_rfl) K66.run (by kernel_rfl) (by kernel_rfl) (by kernel_rfl) (by rfl) (by first | assumption | decide +kernel) (by decide +kernel) ⟨rfl, rfl, rfl, rfl, rfl, by decide +kernel⟩ ?hw ?hc
  case hw => w_witness2
  case hc =>
    refine Mi.walk_M (l := PySem.Challenge.rw_onepour_k66_refusals_made_by_hand) (n := 63) (k := 2 * 4) (x := "_law_script") rfl (by decide) (by kernel_rfl) ⟨rfl, by decide, by decide⟩ ?F
    intro w mg fa h Y G hmg0
    obtain ⟨K, KX, c⟩ := Y
    have hmg : mg ("law" : PySem.Str) = some (.ref fa) := by
      have e : (HandSHeadRun.topDef (OpenLaw.row PySem.Challenge.rw_onepour_k66_refusals_made_by_hand).prog 18).name = ("law" : PySem.Str) := by kernel_rfl
      rw [← e]
      exact hmg0
    obtain ⟨fd, hb, hF⟩ := K66.facts (Pr := (PySem.Challenge.rw_onepour_k66_refusals_made_by_hand).prog) (w := w) KX G hmg c 4
    exact ⟨K, fd, spF K66.T K mg K66.P 4 13, KX, hb, fun H a ns hl hS => law_sp rfl (fun o l h _ => K66.law_lst h) (fun l _ => K66.law_kl) H a ns hl hS, hF⟩

