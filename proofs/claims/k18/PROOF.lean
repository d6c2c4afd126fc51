import PyProof.Rows.All
import Wide.All
import OpenK.AllK
import Wide.FinOn
import HandS.ForMost
import HandS.ForExc
import HandS.Walk
import KE.GoesMore
import HandS.Zip
import HandS.HeadEnd
import HandS.Defaults
import HandS.IsInst
import HandS.StrSplit
import HandS.TupAny
import HandS.FStr
import HandS.RaiseMore
import PyProof.ReprRoads
import PyProof.CallFns
import HandS.Property
import HandS.MakeKw
import HandS.Style
import HandS.Head0
import HandS.Head1
import HandS.Head2
import HandS.HeadHook1
import HandS.HeadHook2
import HandS.HeadNt
import KE.KStateDown
import PySem.Challenge.RW_quorumlots_k18_whole_quorums_that_stay
set_option Elab.async false
set_option linter.all false
set_option maxRecDepth 100000
set_option maxHeartbeats 2000000
/-! QBase: plain data over the hand layer: values, what stands for them in a heap, the state of a def's frame, judgements. -/
namespace Q
open PySem PySem.Spec PyProof.Rows L2

/-- plain data -/
inductive D where
  | non | bl (b : Bool) | int (i : Int) | str (x : Str)
  | tup (xs : List D) | lst (xs : List D)
  | dK (kvs : List (Key × D)) | dT (kvs : List (List Key × D))
  | ins (c : Str) (fs : List (Str × D))
  deriving Inhabited

abbrev Hid := Addr → Prop

/-! ### what stands for data -/
def TupAt (K : PySem.W.Frag) (S : Hid) (H : Hp) (a : Addr) (vs : List V) : Prop :=
  (¬ S a ∧ Rd H a (.tup vs)) ∨ ∃ (o : Obj) (its : Array Value) (n : Nat), K.lookup a = some o ∧ o.cls = .type "tuple" ∧ o.data = .seq its n ∧ its.size ≤ sizeLine ∧ Vals vs its.toList
def LstAt (K : PySem.W.Frag) (S : Hid) (H : Hp) (a : Addr) (vs : List V) : Prop :=
  (¬ S a ∧ Rd H a (.lst vs)) ∨ ∃ (o : Obj) (its : Array Value) (n : Nat), K.lookup a = some o ∧ o.cls = .type "list" ∧ o.dict = none ∧ o.data = .seq its n ∧ its.size ≤ sizeLine ∧ Vals vs its.toList
theorem TupAt.seq {K : PySem.W.Frag} {S : Hid} {H : Hp} {a : Addr} {vs : List V} (h : TupAt K S H a vs) : SqT K H a vs := h.elim (fun h => .inl h.2) .inr
theorem LstAt.seq {K : PySem.W.Frag} {S : Hid} {H : Hp} {a : Addr} {vs : List V} (h : LstAt K S H a vs) : SqL K H a vs := h.elim (fun h => .inl h.2) .inr

/-- the names' classes: what the text's names stand for -/
structure Gd where
  K : PySem.W.Frag
  mg : Str → Option Value

mutual
def Rep (G : Gd) (S : Hid) (H : Hp) : D → V → Prop
  | .non, v => v = .non
  | .bl b, v => v = .bl b
  | .int i, v => v = .int i
  | .str x, v => v = .str x
  | .tup ds, v => ∃ a vs, v = .ref a ∧ TupAt G.K S H a vs ∧ RepL G S H ds vs
  | .lst ds, v => ∃ a vs, v = .ref a ∧ LstAt G.K S H a vs ∧ RepL G S H ds vs
  | .dK kvs, v => ∃ a ws, v = .ref a ∧ (¬ S a ∧ H a = some (.dK ws)) ∧ RepK G S H kvs ws
  | .dT kvs, v => ∃ a ws, v = .ref a ∧ (¬ S a ∧ H a = some (.dT ws)) ∧ RepT G S H kvs ws
  | .ins c fs, v => ∃ a C dx ws, v = .ref a ∧ G.mg c = some (.ref C) ∧ (¬ S a ∧ H a = some (.ins C dx ws)) ∧ RepF G S H fs ws
def RepL (G : Gd) (S : Hid) (H : Hp) : List D → List V → Prop
  | [], vs => vs = []
  | d :: ds, vs => ∃ v ws, vs = v :: ws ∧ Rep G S H d v ∧ RepL G S H ds ws
def RepK (G : Gd) (S : Hid) (H : Hp) : List (Key × D) → List (Key × V) → Prop
  | [], vs => vs = []
  | (k, d) :: ds, vs => ∃ v ws, vs = (k, v) :: ws ∧ Rep G S H d v ∧ RepK G S H ds ws
def RepT (G : Gd) (S : Hid) (H : Hp) : List (List Key × D) → List (List Key × V) → Prop
  | [], vs => vs = []
  | (k, d) :: ds, vs => ∃ v ws, vs = (k, v) :: ws ∧ Rep G S H d v ∧ RepT G S H ds ws
def RepF (G : Gd) (S : Hid) (H : Hp) : List (Str × D) → List (Str × V) → Prop
  | [], vs => vs = []
  | (k, d) :: ds, vs => ∃ v ws, vs = (k, v) :: ws ∧ Rep G S H d v ∧ RepF G S H ds ws
end

/-- what is seen stays, and stays seen -/
def Ext (S : Hid) (H : Hp) (S' : Hid) (H' : Hp) : Prop := ∀ a o, ¬ S a → H a = some o → ¬ S' a ∧ H' a = some o
theorem Ext.refl {S : Hid} {H : Hp} : Ext S H S H := fun _ _ h e => ⟨h, e⟩
theorem Ext.trans {S S' S'' : Hid} {H H' H'' : Hp} (h : Ext S H S' H') (h' : Ext S' H' S'' H'') : Ext S H S'' H'' := fun a o n e => let ⟨n', e'⟩ := h a o n e; h' a o n' e'
theorem Ext.same {S : Hid} {H H' : Hp} (h : Same H H') : Ext S H S H' := fun a o n e => ⟨n, h a o e⟩
theorem Ext.but {S : Hid} {H H' : Hp} {p : Addr} (hp : S p) (h : ∀ a o, a ≠ p → H a = some o → H' a = some o) : Ext S H S H' := fun a o n e => ⟨n, h a o (fun z => n (z ▸ hp)) e⟩
theorem Ext.less {S S' : Hid} {H : Hp} (h : ∀ a, S' a → S a) : Ext S H S' H := fun a _ n e => ⟨fun z => n (h a z), e⟩

section
variable {G : Gd} {S S' : Hid} {H H' : Hp}
theorem TupAt.mono {a : Addr} {vs : List V} (e : Ext S H S' H') (h : TupAt G.K S H a vs) : TupAt G.K S' H' a vs := by
  rcases h with ⟨n, h | ⟨o, h⟩⟩ | h
  · exact .inl ⟨(e _ _ n h).1, .inl (e _ _ n h).2⟩
  · exact .inl ⟨(e _ _ n h).1, .inr ⟨o, (e _ _ n h).2⟩⟩
  · exact .inr h
theorem LstAt.mono {a : Addr} {vs : List V} (e : Ext S H S' H') (h : LstAt G.K S H a vs) : LstAt G.K S' H' a vs := by
  rcases h with ⟨n, h | ⟨o, h⟩⟩ | h
  · exact .inl ⟨(e _ _ n h).1, .inl (e _ _ n h).2⟩
  · exact .inl ⟨(e _ _ n h).1, .inr ⟨o, (e _ _ n h).2⟩⟩
  · exact .inr h
mutual
theorem Rep.mono (e : Ext S H S' H') : ∀ (d : D) (v : V), Rep G S H d v → Rep G S' H' d v
  | .non, _, h => by unfold Rep at h ⊢; exact h
  | .bl b, _, h => by unfold Rep at h ⊢; exact h
  | .int i, _, h => by unfold Rep at h ⊢; exact h
  | .str x, _, h => by unfold Rep at h ⊢; exact h
  | .tup ds, _, h => by
    unfold Rep at h ⊢
    obtain ⟨a, vs, h1, h2, h3⟩ := h
    exact ⟨a, vs, h1, h2.mono e, RepL.mono e ds vs h3⟩
  | .lst ds, _, h => by
    unfold Rep at h ⊢
    obtain ⟨a, vs, h1, h2, h3⟩ := h
    exact ⟨a, vs, h1, h2.mono e, RepL.mono e ds vs h3⟩
  | .dK kvs, _, h => by
    unfold Rep at h ⊢
    obtain ⟨a, vs, h1, h2, h3⟩ := h
    exact ⟨a, vs, h1, e _ _ h2.1 h2.2, RepK.mono e kvs vs h3⟩
  | .dT kvs, _, h => by
    unfold Rep at h ⊢
    obtain ⟨a, vs, h1, h2, h3⟩ := h
    exact ⟨a, vs, h1, e _ _ h2.1 h2.2, RepT.mono e kvs vs h3⟩
  | .ins c fs, _, h => by
    unfold Rep at h ⊢
    obtain ⟨a, C, dx, vs, h1, h4, h2, h3⟩ := h
    exact ⟨a, C, dx, vs, h1, h4, e _ _ h2.1 h2.2, RepF.mono e fs vs h3⟩
theorem RepL.mono (e : Ext S H S' H') : ∀ (ds : List D) (vs : List V), RepL G S H ds vs → RepL G S' H' ds vs
  | [], _, h => by unfold RepL at h ⊢; exact h
  | d :: ds, _, h => by
    unfold RepL at h ⊢
    obtain ⟨v, ws, h1, h2, h3⟩ := h
    exact ⟨v, ws, h1, Rep.mono e d v h2, RepL.mono e ds ws h3⟩
theorem RepK.mono (e : Ext S H S' H') : ∀ (ds : List (Key × D)) (vs : List (Key × V)), RepK G S H ds vs → RepK G S' H' ds vs
  | [], _, h => by unfold RepK at h ⊢; exact h
  | (k, d) :: ds, _, h => by
    unfold RepK at h ⊢
    obtain ⟨v, ws, h1, h2, h3⟩ := h
    exact ⟨v, ws, h1, Rep.mono e d v h2, RepK.mono e ds ws h3⟩
theorem RepT.mono (e : Ext S H S' H') : ∀ (ds : List (List Key × D)) (vs : List (List Key × V)), RepT G S H ds vs → RepT G S' H' ds vs
  | [], _, h => by unfold RepT at h ⊢; exact h
  | (k, d) :: ds, _, h => by
    unfold RepT at h ⊢
    obtain ⟨v, ws, h1, h2, h3⟩ := h
    exact ⟨v, ws, h1, Rep.mono e d v h2, RepT.mono e ds ws h3⟩
theorem RepF.mono (e : Ext S H S' H') : ∀ (ds : List (Str × D)) (vs : List (Str × V)), RepF G S H ds vs → RepF G S' H' ds vs
  | [], _, h => by unfold RepF at h ⊢; exact h
  | (k, d) :: ds, _, h => by
    unfold RepF at h ⊢
    obtain ⟨v, ws, h1, h2, h3⟩ := h
    exact ⟨v, ws, h1, Rep.mono e d v h2, RepF.mono e ds ws h3⟩
end
theorem Rep.up {d : D} {v : V} (h : Rep G S H d v) (e : Ext S H S' H') : Rep G S' H' d v := Rep.mono e d v h
theorem RepL.up {d : List D} {v : List V} (h : RepL G S H d v) (e : Ext S H S' H') : RepL G S' H' d v := RepL.mono e d v h
theorem RepK.up {d : List (Key × D)} {v : List (Key × V)} (h : RepK G S H d v) (e : Ext S H S' H') : RepK G S' H' d v := RepK.mono e d v h
theorem RepT.up {d : List (List Key × D)} {v : List (List Key × V)} (h : RepT G S H d v) (e : Ext S H S' H') : RepT G S' H' d v := RepT.mono e d v h
theorem RepF.up {d : List (Str × D)} {v : List (Str × V)} (h : RepF G S H d v) (e : Ext S H S' H') : RepF G S' H' d v := RepF.mono e d v h

theorem repNon {v : V} : Rep G S H .non v ↔ v = .non := by unfold Rep; exact Iff.rfl
theorem repBl {b : Bool} {v : V} : Rep G S H (.bl b) v ↔ v = .bl b := by unfold Rep; exact Iff.rfl
theorem repInt {i : Int} {v : V} : Rep G S H (.int i) v ↔ v = .int i := by unfold Rep; exact Iff.rfl
theorem repStr {x : Str} {v : V} : Rep G S H (.str x) v ↔ v = .str x := by unfold Rep; exact Iff.rfl
theorem repTup {ds : List D} {v : V} : Rep G S H (.tup ds) v ↔ ∃ a vs, v = .ref a ∧ TupAt G.K S H a vs ∧ RepL G S H ds vs := by conv => lhs; unfold Rep
theorem repLst {ds : List D} {v : V} : Rep G S H (.lst ds) v ↔ ∃ a vs, v = .ref a ∧ LstAt G.K S H a vs ∧ RepL G S H ds vs := by conv => lhs; unfold Rep
theorem repDK {ds : List (Key × D)} {v : V} : Rep G S H (.dK ds) v ↔ ∃ a vs, v = .ref a ∧ (¬ S a ∧ H a = some (.dK vs)) ∧ RepK G S H ds vs := by conv => lhs; unfold Rep
theorem repDT {ds : List (List Key × D)} {v : V} : Rep G S H (.dT ds) v ↔ ∃ a vs, v = .ref a ∧ (¬ S a ∧ H a = some (.dT vs)) ∧ RepT G S H ds vs := by conv => lhs; unfold Rep
theorem repIns {c : Str} {fs : List (Str × D)} {v : V} : Rep G S H (.ins c fs) v ↔ ∃ a C dx ws, v = .ref a ∧ G.mg c = some (.ref C) ∧ (¬ S a ∧ H a = some (.ins C dx ws)) ∧ RepF G S H fs ws := by conv => lhs; unfold Rep
theorem repLnil {vs : List V} : RepL G S H [] vs ↔ vs = [] := by unfold RepL; exact Iff.rfl
theorem repLcons {d : D} {ds : List D} {vs : List V} : RepL G S H (d :: ds) vs ↔ ∃ v ws, vs = v :: ws ∧ Rep G S H d v ∧ RepL G S H ds ws := by conv => lhs; unfold RepL
theorem repKnil {vs : List (Key × V)} : RepK G S H [] vs ↔ vs = [] := by unfold RepK; exact Iff.rfl
theorem repKcons {k : Key} {d : D} {ds : List (Key × D)} {vs : List (Key × V)} : RepK G S H ((k, d) :: ds) vs ↔ ∃ v ws, vs = (k, v) :: ws ∧ Rep G S H d v ∧ RepK G S H ds ws := by conv => lhs; unfold RepK
theorem repFnil {vs : List (Str × V)} : RepF G S H [] vs ↔ vs = [] := by unfold RepF; exact Iff.rfl
theorem repFcons {k : Str} {d : D} {ds : List (Str × D)} {vs : List (Str × V)} : RepF G S H ((k, d) :: ds) vs ↔ ∃ v ws, vs = (k, v) :: ws ∧ Rep G S H d v ∧ RepF G S H ds ws := by conv => lhs; unfold RepF
theorem repTnil {vs : List (List Key × V)} : RepT G S H [] vs ↔ vs = [] := by unfold RepT; exact Iff.rfl
theorem repTcons {k : List Key} {d : D} {ds : List (List Key × D)} {vs : List (List Key × V)} : RepT G S H ((k, d) :: ds) vs ↔ ∃ v ws, vs = (k, v) :: ws ∧ Rep G S H d v ∧ RepT G S H ds ws := by conv => lhs; unfold RepT

theorem RepL.length : ∀ {ds : List D} {vs : List V}, RepL G S H ds vs → vs.length = ds.length
  | [], _, h => by rw [repLnil] at h; rw [h]; rfl
  | d :: ds, _, h => by
    rw [repLcons] at h
    obtain ⟨v, ws, rfl, _, h2⟩ := h
    simp [RepL.length h2]
theorem RepL.get : ∀ {ds : List D} {vs : List V} {i : Nat} {d : D}, RepL G S H ds vs → ds[i]? = some d → ∃ v, vs[i]? = some v ∧ Rep G S H d v
  | [], _, i, d, _, e => by simp at e
  | d :: ds, _, 0, d', h, e => by
    rw [repLcons] at h
    obtain ⟨v, ws, rfl, h1, h2⟩ := h
    simp at e; subst e
    exact ⟨v, by simp, h1⟩
  | d :: ds, _, i + 1, d', h, e => by
    rw [repLcons] at h
    obtain ⟨v, ws, rfl, h1, h2⟩ := h
    obtain ⟨v', e1, e2⟩ := RepL.get (i := i) h2 (by simpa using e)
    exact ⟨v', by simpa using e1, e2⟩
theorem RepL.get' : ∀ {ds : List D} {vs : List V} {i : Nat} {v : V}, RepL G S H ds vs → vs[i]? = some v → ∃ d, ds[i]? = some d ∧ Rep G S H d v := fun {ds vs i v} h e => by
  have hl := h.length
  have hi : i < vs.length := (List.getElem?_eq_some_iff.mp e).1
  have hi' : i < ds.length := by omega
  obtain ⟨v', e1, e2⟩ := h.get (List.getElem?_eq_getElem hi')
  rw [e] at e1; cases e1
  exact ⟨_, List.getElem?_eq_getElem hi', e2⟩
theorem RepL.append : ∀ {ds es : List D} {vs ws : List V}, RepL G S H ds vs → RepL G S H es ws → RepL G S H (ds ++ es) (vs ++ ws)
  | [], _, _, _, h, h' => by rw [repLnil] at h; subst h; exact h'
  | d :: ds, _, _, _, h, h' => by
    rw [repLcons] at h
    obtain ⟨v, us, rfl, h1, h2⟩ := h
    exact repLcons.mpr ⟨v, _, rfl, h1, h2.append h'⟩
theorem RepL.one {d : D} {v : V} (h : Rep G S H d v) : RepL G S H [d] [v] := repLcons.mpr ⟨v, [], rfl, h, repLnil.mpr rfl⟩
theorem RepL.of_get : ∀ {ds : List D} {vs : List V}, vs.length = ds.length → (∀ (i : Nat) (d : D) (v : V), ds[i]? = some d → vs[i]? = some v → Rep G S H d v) → RepL G S H ds vs
  | [], [], _, _ => repLnil.mpr rfl
  | [], _ :: _, h, _ => by simp at h
  | _ :: _, [], h, _ => by simp at h
  | d :: ds, v :: vs, h, f => repLcons.mpr ⟨v, vs, rfl, f 0 d v (by simp) (by simp), RepL.of_get (by simpa using h) fun i d' v' e1 e2 => f (i + 1) d' v' (by simpa using e1) (by simpa using e2)⟩
theorem RepL.take {ds : List D} {vs : List V} (h : RepL G S H ds vs) (n : Nat) : RepL G S H (ds.take n) (vs.take n) := by
  refine RepL.of_get (by simp [h.length]) fun i d v e1 e2 => ?_
  rw [List.getElem?_take] at e1 e2
  split at e1
  · rename_i hi
    rw [if_pos hi] at e2
    obtain ⟨v', e3, e4⟩ := h.get e1
    rw [e2] at e3; cases e3
    exact e4
  · cases e1
theorem RepL.drop {ds : List D} {vs : List V} (h : RepL G S H ds vs) (n : Nat) : RepL G S H (ds.drop n) (vs.drop n) := by
  refine RepL.of_get (by simp [h.length]) fun i d v e1 e2 => ?_
  rw [List.getElem?_drop] at e1 e2
  obtain ⟨v', e3, e4⟩ := h.get e1
  rw [e2] at e3; cases e3
  exact e4
theorem RepL.ints {ns : List Int} : RepL G S H (ns.map D.int) (ns.map V.int) := by
  refine RepL.of_get (by simp) fun i d v e1 e2 => ?_
  rw [List.getElem?_map] at e1 e2
  cases e : ns[i]? with
  | none => rw [e] at e1; cases e1
  | some n =>
    rw [e] at e1 e2
    cases e1; cases e2
    exact repInt.mpr rfl
theorem RepF.lookup : ∀ {fs : List (Str × D)} {ws : List (Str × V)} {f : Str} {d : D}, RepF G S H fs ws → fs.lookup f = some d → ∃ v, ws.lookup f = some v ∧ Rep G S H d v
  | [], _, _, _, _, e => by simp at e
  | (k, d) :: fs, _, f, d', h, e => by
    rw [repFcons] at h
    obtain ⟨v, ws, rfl, h1, h2⟩ := h
    by_cases hk : f = k
    · subst hk
      simp [List.lookup] at e ⊢
      subst e; exact h1
    · have hb : (f == k) = false := by simpa using hk
      simp only [List.lookup, hb] at e ⊢
      exact RepF.lookup h2 e
theorem RepF.lookup_none : ∀ {fs : List (Str × D)} {ws : List (Str × V)} {f : Str}, RepF G S H fs ws → fs.lookup f = none → ws.lookup f = none
  | [], _, _, h, _ => by rw [repFnil] at h; subst h; rfl
  | (k, d) :: fs, _, f, h, e => by
    rw [repFcons] at h
    obtain ⟨v, ws, rfl, h1, h2⟩ := h
    by_cases hk : f = k
    · subst hk
      simp [List.lookup] at e
    · have hb : (f == k) = false := by simpa using hk
      simp only [List.lookup, hb] at e ⊢
      exact RepF.lookup_none h2 e
theorem RepF.length : ∀ {fs : List (Str × D)} {ws : List (Str × V)}, RepF G S H fs ws → ws.length = fs.length
  | [], _, h => by rw [repFnil] at h; rw [h]; rfl
  | (k, d) :: ds, _, h => by
    rw [repFcons] at h
    obtain ⟨v, ws, rfl, _, h2⟩ := h
    simp [RepF.length h2]
end

/-- one field put -/
def putD (f : Str) (d : D) : List (Str × D) → List (Str × D)
  | [] => [(f, d)]
  | (g, e) :: r => if g = f then (g, d) :: r else (g, e) :: putD f d r

/-! ### the frame's state -/
inductive Slot where
  | un | val (d : D) | own (d : D) | slf (d : D) | purse | pown
  deriving Inhabited
def Slot.isOwn : Slot → Bool
  | .un => false
  | .val _ => false
  | _ => true
abbrev Ev := List Slot
def Ev.get : Ev → Nat → Slot
  | [], _ => .un
  | s :: _, 0 => s
  | _ :: r, n + 1 => Ev.get r n
def Ev.set : Ev → Nat → Slot → Ev
  | [], _, _ => []
  | _ :: r, 0, s => s :: r
  | t :: r, n + 1, s => t :: Ev.set r n s
theorem Ev.set_len : ∀ (ρ : Ev) (i : Nat) (s : Slot), (ρ.set i s).length = ρ.length
  | [], _, _ => rfl
  | _ :: _, 0, _ => rfl
  | _ :: r, n + 1, s => congrArg Nat.succ (Ev.set_len r n s)
theorem Ev.get_set : ∀ (ρ : Ev) (i j : Nat) (s : Slot), i < ρ.length → (Ev.set ρ i s).get j = if j = i then s else ρ.get j
  | [], i, _, _, h => by simp at h
  | _ :: _, 0, 0, _, _ => rfl
  | _ :: _, 0, j + 1, _, _ => rfl
  | _ :: _, n + 1, 0, _, _ => rfl
  | _ :: r, n + 1, j + 1, s, h => by
    show (Ev.set r n s).get j = _
    rw [Ev.get_set r n j s (by simpa using h)]
    simp [Ev.get]
theorem Ev.get_lt : ∀ {ρ : Ev} {i : Nat}, ρ.length ≤ i → ρ.get i = .un
  | [], _, _ => rfl
  | _ :: r, 0, h => by simp at h
  | _ :: r, n + 1, h => Ev.get_lt (ρ := r) (by simpa using h)
theorem Ev.lt_get {ρ : Ev} {i : Nat} (h : (ρ.get i).isOwn = true) : i < ρ.length := by
  apply Classical.byContradiction
  intro z
  rw [Ev.get_lt (Nat.le_of_not_lt z)] at h
  cases h
theorem Ev.set_ge : ∀ {ρ : Ev} {i : Nat} {s : Slot}, ρ.length ≤ i → ρ.set i s = ρ
  | [], _, _, _ => rfl
  | _ :: r, 0, _, h => by simp at h
  | t :: r, n + 1, s, h => congrArg (List.cons t) (Ev.set_ge (ρ := r) (by simpa using h))

def sg (σ : L2.St) (i : Nat) : Option V := (σ[i]?).join
theorem sg_some {σ : L2.St} {i : Nat} {v : V} : sg σ i = some v ↔ σ[i]? = some (some v) := by
  unfold sg
  cases h : σ[i]? with
  | none => simp
  | some o => cases o <;> simp
theorem sg_set {σ : L2.St} {i j : Nat} {v : Option V} (h : i < σ.length) : sg (σ.set i v) j = if j = i then v else sg σ j := by
  unfold sg
  by_cases e : j = i
  · subst e
    rw [if_pos rfl, List.getElem?_set_self h]
    rfl
  · rw [if_neg e, List.getElem?_set_ne (Ne.symm e)]

/-- what has to stand as it is, what is hidden from the start, what is lent -/
structure Base where
  P : Addr → HO → Prop
  O : Hid
  L : Hid
/-- nothing has to stand there -/
def Base.Mine (β : Base) (p : Addr) : Prop := ∀ o, ¬ β.P p o
/-- the draws' purse: three ints, the first from 0 on, the second a remainder -/
def PurseAt (H : Hp) (p : Addr) : Prop := ∃ a b c : Int, H p = some (.lst [.int a, .int b, .int c]) ∧ 0 ≤ a ∧ 0 ≤ b ∧ b < 2147483563
def OwnAt (G : Gd) (S : Hid) (H : Hp) (p : Addr) : D → Prop
  | .lst ds => ∃ vs, H p = some (.lst vs) ∧ RepL G S H ds vs
  | .dK kvs => ∃ ws, H p = some (.dK ws) ∧ RepK G S H kvs ws
  | .dT kvs => ∃ ws, H p = some (.dT ws) ∧ RepT G S H kvs ws
  | .ins c fs => ∃ C dx ws, G.mg c = some (.ref C) ∧ H p = some (.ins C dx ws) ∧ RepF G S H fs ws
  | _ => False
/-- what a hidden thing of a slot is -/
def HoldAt (G : Gd) (β : Base) (S : Hid) (H : Hp) (p : Addr) : Slot → Prop
  | .own d => OwnAt G S H p d ∧ ¬ β.O p
  | .slf d => OwnAt G S H p d ∧ β.L p
  | .purse => PurseAt H p ∧ β.L p
  | .pown => PurseAt H p
  | _ => False
def SlotOk (G : Gd) (β : Base) (S : Hid) (H : Hp) : Slot → Option V → Prop
  | .un, _ => True
  | .val d, o => ∃ v, o = some v ∧ Rep G S H d v
  | s, o => ∃ p, o = some (.ref p) ∧ S p ∧ β.Mine p ∧ HoldAt G β S H p s
structure StOk (G : Gd) (β : Base) (S : Hid) (ρ : Ev) (σ : L2.St) (H : Hp) : Prop where
  frame : ∀ a o, β.P a o → H a = some o
  oS : ∀ a, β.O a → S a
  sdom : ∀ a, S a → ∃ o, H a = some o
  len : σ.length = ρ.length
  slot : ∀ i, SlotOk G β S H (ρ.get i) (sg σ i)
  dist : ∀ i j p, (ρ.get i).isOwn = true → (ρ.get j).isOwn = true → sg σ i = some (.ref p) → sg σ j = some (.ref p) → i = j

section
variable {G : Gd} {β β' : Base} {S S' : Hid} {ρ : Ev} {σ : L2.St} {H H' : Hp}
theorem OwnAt.up {p : Addr} {d : D} (h : OwnAt G S H p d) (e : Ext S H S' H') (hp : H' p = H p) : OwnAt G S' H' p d := by
  cases d with
  | lst ds => obtain ⟨vs, h1, h2⟩ := h; exact ⟨vs, hp.trans h1, h2.up e⟩
  | dK ds => obtain ⟨vs, h1, h2⟩ := h; exact ⟨vs, hp.trans h1, h2.up e⟩
  | dT ds => obtain ⟨vs, h1, h2⟩ := h; exact ⟨vs, hp.trans h1, h2.up e⟩
  | ins c fs => obtain ⟨C, dx, ws, h0, h1, h2⟩ := h; exact ⟨C, dx, ws, h0, hp.trans h1, h2.up e⟩
  | _ => exact h.elim
theorem OwnAt.some {p : Addr} {d : D} (h : OwnAt G S H p d) : ∃ o, H p = some o := by
  cases d with
  | lst ds => obtain ⟨vs, h1, h2⟩ := h; exact ⟨_, h1⟩
  | dK ds => obtain ⟨vs, h1, h2⟩ := h; exact ⟨_, h1⟩
  | dT ds => obtain ⟨vs, h1, h2⟩ := h; exact ⟨_, h1⟩
  | ins c fs => obtain ⟨C, dx, ws, h0, h1, h2⟩ := h; exact ⟨_, h1⟩
  | _ => exact h.elim
theorem PurseAt.up {p : Addr} (h : PurseAt H p) (hp : H' p = H p) : PurseAt H' p := by
  obtain ⟨a, b, c, h1, h2⟩ := h
  exact ⟨a, b, c, hp.trans h1, h2⟩
theorem HoldAt.up {p : Addr} {s : Slot} (h : HoldAt G β S H p s) (e : Ext S H S' H') (hp : H' p = H p) (ho : (¬ β.O p → ¬ β'.O p) ∧ (β.L p → β'.L p)) : HoldAt G β' S' H' p s := by
  cases s with
  | own d => exact ⟨h.1.up e hp, ho.1 h.2⟩
  | slf d => exact ⟨h.1.up e hp, ho.2 h.2⟩
  | purse => exact ⟨h.1.up hp, ho.2 h.2⟩
  | pown => exact PurseAt.up h hp
  | _ => exact h.elim
theorem HoldAt.some {p : Addr} {s : Slot} (h : HoldAt G β S H p s) : ∃ o, H p = some o := by
  cases s with
  | own d => exact h.1.some
  | slf d => exact h.1.some
  | purse =>
    obtain ⟨⟨a, b, c, h1, h2⟩, _⟩ := h
    exact ⟨_, h1⟩
  | pown =>
    obtain ⟨a, b, c, h1, h2⟩ := h
    exact ⟨_, h1⟩
  | _ => exact h.elim
theorem SlotOk.of_own {s : Slot} {o : Option V} (h : SlotOk G β S H s o) (hs : s.isOwn = true) : ∃ p, o = some (.ref p) ∧ S p ∧ β.Mine p ∧ HoldAt G β S H p s := by
  cases s with
  | un => cases hs
  | val d => cases hs
  | own d => exact h
  | slf d => exact h
  | purse => exact h
  | pown => exact h
theorem SlotOk.mk_own {s : Slot} {p : Addr} (hS : S p) (hm : β.Mine p) (h : HoldAt G β S H p s) : SlotOk G β S H s (some (.ref p)) := by
  cases s with
  | own d => exact ⟨p, rfl, hS, hm, h⟩
  | slf d => exact ⟨p, rfl, hS, hm, h⟩
  | purse => exact ⟨p, rfl, hS, hm, h⟩
  | pown => exact ⟨p, rfl, hS, hm, h⟩
  | _ => exact h.elim
/-- a slot's word is carried on -/
theorem SlotOk.up {s : Slot} {o : Option V} (h : SlotOk G β S H s o) (e : Ext S H S' H') (own : ∀ p, o = Option.some (.ref p) → s.isOwn = true → S p → β.Mine p → HoldAt G β S H p s → S' p ∧ H' p = H p ∧ β'.Mine p ∧ ((¬ β.O p → ¬ β'.O p) ∧ (β.L p → β'.L p))) : SlotOk G β' S' H' s o := by
  by_cases hs : s.isOwn = true
  · obtain ⟨p, h1, h2, hm, h3⟩ := h.of_own hs
    obtain ⟨h4, h5, h6, h7⟩ := own p h1 hs h2 hm h3
    subst h1
    exact SlotOk.mk_own h4 h6 (h3.up e h5 h7)
  · cases s with
    | un => trivial
    | val d => obtain ⟨v, h1, h2⟩ := h; exact ⟨v, h1, h2.up e⟩
    | own d => exact absurd rfl hs
    | slf d => exact absurd rfl hs
    | purse => exact absurd rfl hs
    | pown => exact absurd rfl hs
/-- the same slots over another ground, heap, hidden things -/
theorem StOk.re (h : StOk G β S ρ σ H) (frame : ∀ a o, β'.P a o → H' a = Option.some o) (oS : ∀ a, β'.O a → S' a) (sdom : ∀ a, S' a → ∃ o, H' a = Option.some o) (e : Ext S H S' H')
    (own : ∀ i p, sg σ i = Option.some (.ref p) → (ρ.get i).isOwn = true → S p → β.Mine p → HoldAt G β S H p (ρ.get i) → S' p ∧ H' p = H p ∧ β'.Mine p ∧ ((¬ β.O p → ¬ β'.O p) ∧ (β.L p → β'.L p))) : StOk G β' S' ρ σ H' :=
  ⟨frame, oS, sdom, h.len, fun i => (h.slot i).up e fun p h1 h2 h3 h4 h5 => own i p h1 h2 h3 h4 h5, h.dist⟩
/-- all tracked things stand: the same state -/
theorem StOk.grow (h : StOk G β S ρ σ H) (e : Same H H') : StOk G β S ρ σ H' :=
  h.re (fun a o q => e a o (h.frame a o q)) h.oS (fun a q => let ⟨o, z⟩ := h.sdom a q; ⟨o, e a o z⟩) (.same e) fun i p _ _ q m _ => let ⟨o, z⟩ := h.sdom p q; ⟨q, (e p o z).trans z.symm, m, ⟨fun n => n, fun n => n⟩⟩
/-- one hidden thing p is changed: slot i is its -/
theorem StOk.write (h : StOk G β S ρ σ H) {i : Nat} {p : Addr} {s : Slot} (hi : sg σ i = Option.some (.ref p)) (ho : (ρ.get i).isOwn = true) (e : ∀ a o, a ≠ p → H a = Option.some o → H' a = Option.some o) (hs : HoldAt G β S H' p s) :
    StOk G β S (ρ.set i s) σ H' := by
  have hil : i < ρ.length := Ev.lt_get ho
  obtain ⟨p', q1, q2, qm, q3⟩ := (h.slot i).of_own ho
  rw [hi] at q1; cases q1
  have ex : Ext S H S H' := Ext.but q2 e
  refine ⟨fun a o z => ?_, h.oS, fun a z => ?_, by rw [Ev.set_len]; exact h.len, fun j => ?_, fun j k p' h1 h2 h3 h4 => ?_⟩
  · exact e a o (fun q => qm o (q ▸ z)) (h.frame a o z)
  · by_cases hap : a = p
    · subst hap; exact hs.some
    · obtain ⟨o, q⟩ := h.sdom a z
      exact ⟨o, e a o hap q⟩
  · rw [Ev.get_set _ _ _ _ hil]
    by_cases hj : j = i
    · subst hj
      rw [if_pos rfl, hi]
      exact SlotOk.mk_own q2 qm hs
    · rw [if_neg hj]
      refine (h.slot j).up ex fun p' z1 z2 z3 z4 _ => ⟨z3, ?_, z4, ⟨fun n => n, fun n => n⟩⟩
      have ne : p' ≠ p := fun z => hj (h.dist j i p z2 ho (z ▸ z1) hi)
      obtain ⟨o, z⟩ := h.sdom p' z3
      exact (e p' o ne z).trans z.symm
  · have own : ∀ j, ((Ev.set ρ i s).get j).isOwn = true → (ρ.get j).isOwn = true := fun j z => by
      rw [Ev.get_set _ _ _ _ hil] at z
      by_cases hj : j = i
      · subst hj; exact ho
      · rw [if_neg hj] at z; exact z
    exact h.dist j k p' (own j h1) (own k h2) h3 h4
theorem set_ge {σ : L2.St} {i : Nat} {v : Option V} (h : σ.length ≤ i) : σ.set i v = σ := List.set_eq_of_length_le h
/-- a slot is stored: plain data -/
theorem StOk.store (h : StOk G β S ρ σ H) {i : Nat} {d : D} {v : V} (r : Rep G S H d v) : StOk G β S (ρ.set i (.val d)) (σ.set i (Option.some v)) H := by
  by_cases hi : i < ρ.length
  · have hσ : i < σ.length := by rw [h.len]; exact hi
    refine ⟨h.frame, h.oS, h.sdom, by rw [Ev.set_len, List.length_set]; exact h.len, fun j => ?_, fun j k p h1 h2 h3 h4 => ?_⟩
    · rw [Ev.get_set _ _ _ _ hi, sg_set hσ]
      by_cases hj : j = i
      · rw [if_pos hj, if_pos hj]; exact ⟨v, rfl, r⟩
      · rw [if_neg hj, if_neg hj]; exact h.slot j
    · rw [Ev.get_set _ _ _ _ hi] at h1 h2
      rw [sg_set hσ] at h3 h4
      by_cases hj : j = i
      · rw [if_pos hj] at h1; cases h1
      · by_cases hk : k = i
        · rw [if_pos hk] at h2; cases h2
        · rw [if_neg hj] at h1 h3
          rw [if_neg hk] at h2 h4
          exact h.dist j k p h1 h2 h3 h4
  · rw [Ev.set_ge (Nat.le_of_not_lt hi), set_ge (by rw [h.len]; exact Nat.le_of_not_lt hi)]
    exact h
/-- a slot is forgotten (its value may be anything, or none) -/
theorem StOk.forget (h : StOk G β S ρ σ H) {i : Nat} {v : Option V} : StOk G β S (ρ.set i .un) (σ.set i v) H := by
  by_cases hi : i < ρ.length
  · have hσ : i < σ.length := by rw [h.len]; exact hi
    refine ⟨h.frame, h.oS, h.sdom, by rw [Ev.set_len, List.length_set]; exact h.len, fun j => ?_, fun j k p h1 h2 h3 h4 => ?_⟩
    · rw [Ev.get_set _ _ _ _ hi, sg_set hσ]
      by_cases hj : j = i
      · rw [if_pos hj]; trivial
      · rw [if_neg hj, if_neg hj]; exact h.slot j
    · rw [Ev.get_set _ _ _ _ hi] at h1 h2
      rw [sg_set hσ] at h3 h4
      by_cases hj : j = i
      · rw [if_pos hj] at h1; cases h1
      · by_cases hk : k = i
        · rw [if_pos hk] at h2; cases h2
        · rw [if_neg hj] at h1 h3
          rw [if_neg hk] at h2 h4
          exact h.dist j k p h1 h2 h3 h4
  · rw [Ev.set_ge (Nat.le_of_not_lt hi), set_ge (by rw [h.len]; exact Nat.le_of_not_lt hi)]
    exact h
theorem StOk.new_mine (h : StOk G β S ρ σ H) {p : Addr} (np : H p = none) : ¬ S p ∧ ¬ β.O p ∧ β.Mine p := by
  have nS : ¬ S p := fun z => by obtain ⟨o, q⟩ := h.sdom p z; rw [np] at q; cases q
  exact ⟨nS, fun z => nS (h.oS p z), fun o q => by have := h.frame p o q; rw [np] at this; cases this⟩
theorem same_upd {p : Addr} {o : HO} (np : H p = none) : Same H (upd H p o) := fun a u e => by rw [upd_ne (ne_of_none e np)]; exact e
theorem ext_take {p : Addr} {o : HO} (np : H p = none) : Ext S H (fun a => S a ∨ a = p) (upd H p o) := fun a u n e =>
  have ne : a ≠ p := ne_of_none e np
  ⟨fun z => z.elim n ne, by rw [upd_ne ne]; exact e⟩
/-- a slot is stored: a new thing p of our own; it is hidden too -/
theorem StOk.take (h : StOk G β S ρ σ H) {i : Nat} {p : Addr} {s : Slot} {o : HO} (hi : i < ρ.length) (np : H p = none) (hs : HoldAt G β (fun a => S a ∨ a = p) (upd H p o) p s) :
    StOk G β (fun a => S a ∨ a = p) (ρ.set i s) (σ.set i (Option.some (.ref p))) (upd H p o) := by
  have hσ : i < σ.length := by rw [h.len]; exact hi
  obtain ⟨nS, nO, mi⟩ := h.new_mine np
  have ex : Ext S H (fun a => S a ∨ a = p) (upd H p o) := ext_take np
  have sm : Same H (upd H p o) := same_upd np
  refine ⟨fun a u z => sm a u (h.frame a u z), fun a z => .inl (h.oS a z), fun a z => ?_, by rw [Ev.set_len, List.length_set]; exact h.len, fun j => ?_, fun j k p' h1 h2 h3 h4 => ?_⟩
  · rcases z with z | z
    · obtain ⟨u, q⟩ := h.sdom a z; exact ⟨u, sm a u q⟩
    · exact ⟨o, by rw [z]; exact upd_same⟩
  · rw [Ev.get_set _ _ _ _ hi, sg_set hσ]
    by_cases hj : j = i
    · rw [if_pos hj, if_pos hj]
      exact SlotOk.mk_own (.inr rfl) mi hs
    · rw [if_neg hj, if_neg hj]
      exact (h.slot j).up ex fun p' _ _ z3 z4 _ => let ⟨u, z⟩ := h.sdom p' z3; ⟨.inl z3, (sm p' u z).trans z.symm, z4, ⟨fun n => n, fun n => n⟩⟩
  · have old : ∀ (j : Nat) (p' : Addr), (ρ.get j).isOwn = true → sg σ j = Option.some (.ref p') → p' ≠ p := fun j p' z1 z2 z3 => by
      obtain ⟨p'', q1, q2, _, q3⟩ := (h.slot j).of_own z1
      rw [z2] at q1; cases q1
      exact nS (z3 ▸ q2)
    rw [Ev.get_set _ _ _ _ hi] at h1 h2
    rw [sg_set hσ] at h3 h4
    by_cases hj : j = i
    · by_cases hk : k = i
      · rw [hj, hk]
      · rw [if_pos hj] at h3
        rw [if_neg hk] at h2 h4
        cases h3
        exact absurd rfl (old k p h2 h4)
    · by_cases hk : k = i
      · rw [if_pos hk] at h4
        rw [if_neg hj] at h1 h3
        cases h4
        exact absurd rfl (old j p h1 h3)
      · rw [if_neg hj] at h1 h3
        rw [if_neg hk] at h2 h4
        exact h.dist j k p' h1 h2 h3 h4
/-- an own thing becomes plain data -/
theorem OwnAt.rep {p : Addr} {d : D} (h : OwnAt G S H p d) (n : ¬ S p) : Rep G S H d (.ref p) := by
  cases d with
  | lst ds => obtain ⟨vs, h1, h2⟩ := h; exact repLst.mpr ⟨p, vs, rfl, .inl ⟨n, .inl h1⟩, h2⟩
  | dK ds => obtain ⟨vs, h1, h2⟩ := h; exact repDK.mpr ⟨p, vs, rfl, ⟨n, h1⟩, h2⟩
  | dT ds => obtain ⟨vs, h1, h2⟩ := h; exact repDT.mpr ⟨p, vs, rfl, ⟨n, h1⟩, h2⟩
  | ins c fs => obtain ⟨C, dx, ws, h0, h1, h2⟩ := h; exact repIns.mpr ⟨p, C, dx, ws, rfl, h0, ⟨n, h1⟩, h2⟩
  | _ => exact h.elim
theorem StOk.freeze (h : StOk G β S ρ σ H) {i : Nat} {p : Addr} {d : D} (hr : ρ.get i = .own d) (hi : sg σ i = Option.some (.ref p)) :
    StOk G β (fun a => S a ∧ a ≠ p) (ρ.set i (.val d)) σ H ∧ Rep G (fun a => S a ∧ a ≠ p) H d (.ref p) ∧ Ext S H (fun a => S a ∧ a ≠ p) H := by
  have ho : (ρ.get i).isOwn = true := by rw [hr]; rfl
  have hil : i < ρ.length := Ev.lt_get ho
  have ex : Ext S H (fun a => S a ∧ a ≠ p) H := Ext.less fun a z => z.1
  have qi := h.slot i
  rw [hr, hi] at qi
  obtain ⟨p', q1, q2, qm, q3, q4⟩ := qi
  cases q1
  have rep : Rep G (fun a => S a ∧ a ≠ p) H d (.ref p) := (q3.up ex rfl).rep fun z => z.2 rfl
  refine ⟨⟨h.frame, fun a z => ⟨h.oS a z, fun e => q4 (e ▸ z)⟩, fun a z => h.sdom a z.1, by rw [Ev.set_len]; exact h.len, fun j => ?_, fun j k p' h1 h2 h3 h4 => ?_⟩, rep, ex⟩
  · rw [Ev.get_set _ _ _ _ hil]
    by_cases hj : j = i
    · rw [if_pos hj, hj, hi]; exact ⟨_, rfl, rep⟩
    · rw [if_neg hj]
      exact (h.slot j).up ex fun p' z1 z2 z3 z4 _ => ⟨⟨z3, fun z => hj (h.dist j i p z2 ho (z ▸ z1) hi)⟩, rfl, z4, ⟨fun n => n, fun n => n⟩⟩
  · have own : ∀ j, ((Ev.set ρ i (.val d)).get j).isOwn = true → (ρ.get j).isOwn = true := fun j z => by
      rw [Ev.get_set _ _ _ _ hil] at z
      by_cases hj : j = i
      · rw [if_pos hj] at z; cases z
      · rw [if_neg hj] at z; exact z
    exact h.dist j k p' (own j h1) (own k h2) h3 h4
/-- a new thing p that is no slot's, with what is held to stand there -/
def Base.with (β : Base) (p : Addr) (o : HO) : Base := ⟨fun a u => β.P a u ∨ (a = p ∧ u = o), fun a => β.O a ∨ a = p, β.L⟩
theorem StOk.hide (h : StOk G β S ρ σ H) {p : Addr} {o : HO} (np : H p = none) : StOk G (β.with p o) (fun a => S a ∨ a = p) ρ σ (upd H p o) := by
  obtain ⟨nS, nO, mi⟩ := h.new_mine np
  have sm : Same H (upd H p o) := same_upd np
  refine h.re (fun a u z => ?_) (fun a z => z.imp (h.oS a) id) (fun a z => ?_) (ext_take np) fun i p' _ _ q m _ => ?_
  · rcases z with z | ⟨z1, z2⟩
    · exact sm a u (h.frame a u z)
    · subst z1 z2; exact upd_same
  · rcases z with z | z
    · obtain ⟨u, q⟩ := h.sdom a z; exact ⟨u, sm a u q⟩
    · exact ⟨o, by rw [z]; exact upd_same⟩
  · have ne : p' ≠ p := fun z => nS (z ▸ q)
    exact ⟨.inl q, upd_ne ne, fun u z => z.elim (m u) fun z => ne z.1, ⟨fun n z => z.elim n ne, fun n => n⟩⟩
theorem StOk.poke {p : Addr} {o o' : HO} (h : StOk G (β.with p o) S ρ σ H) (nm : β.Mine p) : StOk G (β.with p o') S ρ σ (upd H p o') := by
  have hp : S p := h.oS p (.inr rfl)
  refine h.re (fun a u z => ?_) h.oS (fun a z => ?_) (Ext.but hp fun a u n e => by rw [upd_ne n]; exact e) fun i p' _ _ q m _ => ?_
  · rcases z with z | ⟨z1, z2⟩
    · have ne : a ≠ p := fun q => nm u (q ▸ z)
      rw [upd_ne ne]
      exact h.frame a u (.inl z)
    · subst z1 z2; exact upd_same
  · by_cases ha : a = p
    · exact ⟨o', by rw [ha]; exact upd_same⟩
    · obtain ⟨u, q⟩ := h.sdom a z; exact ⟨u, by rw [upd_ne ha]; exact q⟩
  · have ne : p' ≠ p := fun z => m o (.inr ⟨z, rfl⟩)
    exact ⟨q, upd_ne ne, fun u z => z.elim (fun z => m u (.inl z)) fun z => ne z.1, ⟨fun n => n, fun n => n⟩⟩
theorem StOk.unhide {p : Addr} {o : HO} (h : StOk G (β.with p o) S ρ σ H) (nO : ¬ β.O p) : StOk G β (fun a => S a ∧ a ≠ p) ρ σ H ∧ Ext S H (fun a => S a ∧ a ≠ p) H := by
  refine ⟨h.re (fun a u z => h.frame a u (.inl z)) (fun a z => ⟨h.oS a (.inl z), fun e => nO (e ▸ z)⟩) (fun a z => h.sdom a z.1) (Ext.less fun a z => z.1) fun i p' _ _ q m _ => ?_, Ext.less fun a z => z.1⟩
  exact ⟨⟨q, fun z => m o (.inr ⟨z, rfl⟩)⟩, rfl, fun u z => m u (.inl z), ⟨fun n z => n (.inl z), fun n => n⟩⟩
/-- a new thing that is no slot's becomes a slot's -/
theorem StOk.adopt {p : Addr} {o : HO} (h : StOk G (β.with p o) S ρ σ H) {i : Nat} {s : Slot} (hi : i < ρ.length) (nm : β.Mine p) (hs : HoldAt G β S H p s) : StOk G β S (ρ.set i s) (σ.set i (Option.some (.ref p))) H := by
  have hσ : i < σ.length := by rw [h.len]; exact hi
  have hp : S p := h.oS p (.inr rfl)
  have ne : ∀ (j : Nat) (p' : Addr), (ρ.get j).isOwn = true → sg σ j = Option.some (.ref p') → p' ≠ p := fun j p' z1 z2 z3 => by
    obtain ⟨p'', q1, q2, qm, q3⟩ := (h.slot j).of_own z1
    rw [z2] at q1; cases q1
    exact qm o (.inr ⟨z3, rfl⟩)
  refine ⟨fun a u z => h.frame a u (.inl z), fun a z => h.oS a (.inl z), h.sdom, by rw [Ev.set_len, List.length_set]; exact h.len, fun j => ?_, fun j k p' h1 h2 h3 h4 => ?_⟩
  · rw [Ev.get_set _ _ _ _ hi, sg_set hσ]
    by_cases hj : j = i
    · rw [if_pos hj, if_pos hj]
      exact SlotOk.mk_own hp nm hs
    · rw [if_neg hj, if_neg hj]
      exact (h.slot j).up .refl fun p' z1 z2 z3 z4 _ => ⟨z3, rfl, fun u z => z4 u (.inl z), ⟨fun n z => n (.inl z), fun n => n⟩⟩
  · rw [Ev.get_set _ _ _ _ hi] at h1 h2
    rw [sg_set hσ] at h3 h4
    by_cases hj : j = i
    · by_cases hk : k = i
      · rw [hj, hk]
      · rw [if_pos hj] at h3
        rw [if_neg hk] at h2 h4
        cases h3
        exact absurd rfl (ne k p h2 h4)
    · by_cases hk : k = i
      · rw [if_pos hk] at h4
        rw [if_neg hj] at h1 h3
        cases h4
        exact absurd rfl (ne j p h1 h3)
      · rw [if_neg hj] at h1 h3
        rw [if_neg hk] at h2 h4
        exact h.dist j k p' h1 h2 h3 h4
/-- the same slots, the same values where it matters -/
theorem StOk.resig {σ' : L2.St} (h : StOk G β S ρ σ H) (l : σ'.length = σ.length) (e : ∀ j, ρ.get j ≠ .un → sg σ' j = sg σ j) : StOk G β S ρ σ' H := by
  refine ⟨h.frame, h.oS, h.sdom, l.trans h.len, fun j => ?_, fun j k p h1 h2 h3 h4 => ?_⟩
  · by_cases hj : ρ.get j = .un
    · rw [hj]; trivial
    · rw [e j hj]; exact h.slot j
  · have n : ∀ j, (ρ.get j).isOwn = true → ρ.get j ≠ .un := fun j z q => by rw [q] at z; cases z
    rw [e j (n j h1)] at h3
    rw [e k (n k h2)] at h4
    exact h.dist j k p h1 h2 h3 h4
end
/-- slots forgotten -/
def Ev.wipe (ρ : Ev) : List Nat → Ev
  | [] => ρ
  | v :: vs => Ev.set (Ev.wipe ρ vs) v .un
theorem Ev.wipe_un {ρ : Ev} {j : Nat} : ∀ {vs : List Nat}, j ∈ vs → (Ev.wipe ρ vs).get j = .un
  | [], h => by cases h
  | v :: vs, h => by
    unfold Ev.wipe
    by_cases hv : v < (Ev.wipe ρ vs).length
    · rw [Ev.get_set _ _ _ _ hv]
      by_cases hj : j = v
      · rw [if_pos hj]
      · rw [if_neg hj]
        exact Ev.wipe_un ((List.mem_cons.mp h).resolve_left hj)
    · rw [Ev.set_ge (Nat.le_of_not_lt hv)]
      rcases List.mem_cons.mp h with hj | hj
      · subst hj; exact Ev.get_lt (Nat.le_of_not_lt hv)
      · exact Ev.wipe_un hj
theorem wipe_get {σ : L2.St} {j : Nat} : ∀ {vs : List Nat}, (L2.wipe σ vs)[j]? = if j ∈ vs then (if j < σ.length then some none else none) else σ[j]?
  | [] => by simp [L2.wipe]
  | v :: vs => by
    unfold L2.wipe
    by_cases hj : v = j
    · subst hj
      rw [if_pos (List.mem_cons_self ..)]
      by_cases hl : v < σ.length
      · rw [if_pos hl, List.getElem?_set_self (by rw [L2.wipe_length]; exact hl)]
      · rw [if_neg hl]
        exact List.getElem?_eq_none (by rw [List.length_set, L2.wipe_length]; omega)
    · rw [List.getElem?_set_ne hj, wipe_get (vs := vs)]
      have e : (j ∈ v :: vs) ↔ j ∈ vs := by simp [Ne.symm hj]
      simp only [e]
theorem wipe_agree {σ σ' : L2.St} {vs : List Nat} (l : σ'.length = σ.length) (h : ∀ j, j ∉ vs → σ'[j]? = σ[j]?) : L2.wipe σ' vs = L2.wipe σ vs := by
  apply List.ext_getElem?
  intro j
  rw [wipe_get, wipe_get, l]
  by_cases hj : j ∈ vs
  · rw [if_pos hj, if_pos hj]
  · rw [if_neg hj, if_neg hj, h j hj]
theorem sg_wipe {σ : L2.St} {vs : List Nat} {j : Nat} (h : j ∉ vs) : sg (L2.wipe σ vs) j = sg σ j := by
  unfold sg
  rw [wipe_get, if_neg h]
theorem StOk.wipe {G : Gd} {β : Base} {S : Hid} {ρ : Ev} {σ : L2.St} {H : Hp} (h : StOk G β S ρ σ H) : ∀ vs : List Nat, StOk G β S (ρ.wipe vs) (L2.wipe σ vs) H
  | [] => h
  | _ :: vs => (h.wipe vs).forget
theorem StOk.unwipe {G : Gd} {β : Base} {S : Hid} {ρ : Ev} {σ : L2.St} {H : Hp} {vs : List Nat} (h : StOk G β S ρ (L2.wipe σ vs) H) (hu : ∀ j ∈ vs, ρ.get j = .un) : StOk G β S ρ σ H :=
  h.resig (L2.wipe_length σ vs).symm fun j hj => by
    by_cases z : j ∈ vs
    · exact absurd (hu j z) hj
    · exact (sg_wipe z).symm
end Q
set_option Elab.async false
set_option linter.all false
set_option maxRecDepth 100000
set_option maxHeartbeats 2000000
/-! QJudge: the judgements over plain data; names, constants, statements, loops. -/
namespace Q
open PySem PySem.Spec PyProof.Rows L2

abbrev gd (X : Cx) : Gd := ⟨X.K, X.mg⟩
abbrev WE := Ev → (D → Ev → Prop) → Prop
abbrev WT := Ev → (Bool → Ev → Prop) → Prop
abbrev WA := Ev → (List D → Ev → Prop) → Prop
structure DN where
  nx : Ev → Prop
  rt : D → Ev → Prop
  bk : Ev → Prop := fun _ => False
  ct : Ev → Prop := fun _ => False
  rf : D → Ev → Prop := fun _ _ => False
abbrev WS := DN → Ev → Prop
abbrev WG := D → Ev → (Ev → Prop) → Prop

abbrev XC := Str → List (Str × D) → Prop
/-- what may leave: kx tells which errors with which attributes -/
def XOk (X : Cx) (β : Base) (kx : XC) : Prop := ∃ E : XK, Takes X (fun cls d _ H => E cls d H) ∧ ∀ cn fs C dd ws S ρ σ H, StOk (gd X) β S ρ σ H → X.mg cn = some (.ref C) → ¬ S dd → H dd = some (.xd ws) → RepF (gd X) S H fs ws → kx cn fs → E (.ref C) (some dd) H
def LE (X : Cx) (kx : XC) (β : Base) (w : WE) : TE := fun σ H Q => XOk X β kx ∧ ∃ S ρ k, StOk (gd X) β S ρ σ H ∧ w ρ k ∧ ∀ d ρ' v H' S', Ext S H S' H' → StOk (gd X) β S' ρ' σ H' → Rep (gd X) S' H' d v → k d ρ' → Q v H'
def LT (X : Cx) (kx : XC) (β : Base) (w : WT) : TT := fun σ H Q => XOk X β kx ∧ ∃ S ρ k, StOk (gd X) β S ρ σ H ∧ w ρ k ∧ ∀ b ρ' H' S', Ext S H S' H' → StOk (gd X) β S' ρ' σ H' → k b ρ' → Q b H'
def LA (X : Cx) (kx : XC) (β : Base) (w : WA) : TA := fun σ H Q => XOk X β kx ∧ ∃ S ρ k, StOk (gd X) β S ρ σ H ∧ w ρ k ∧ ∀ d ρ' v H' S', Ext S H S' H' → StOk (gd X) β S' ρ' σ H' → RepL (gd X) S' H' d v → k d ρ' → Q v H'
/-- a new container: o at a new address p -/
def LF (X : Cx) (kx : XC) (β : Base) (w : WE) : TE := fun σ H Q => XOk X β kx ∧ ∃ S ρ k, StOk (gd X) β S ρ σ H ∧ w ρ k ∧ ∀ d ρ' p o H' S', Ext S H S' H' → StOk (gd X) (β.with p o) S' ρ' σ H' → OwnAt (gd X) S' H' p d → β.Mine p → ¬ β.O p → k d ρ' → Q (.ref p) H'
structure EndsOk (G : Gd) (β : Base) (S : Hid) (H : Hp) (N : DN) (Dn : Ends) : Prop where
  nx : ∀ S' ρ σ H', Ext S H S' H' → StOk G β S' ρ σ H' → N.nx ρ → Dn.nx σ H'
  rt : ∀ S' ρ σ H' d v, Ext S H S' H' → StOk G β S' ρ σ H' → Rep G S' H' d v → N.rt d ρ → Dn.rt v H'
  bk : ∀ S' ρ σ H', Ext S H S' H' → StOk G β S' ρ σ H' → N.bk ρ → Dn.bk σ H'
  ct : ∀ S' ρ σ H', Ext S H S' H' → StOk G β S' ρ σ H' → N.ct ρ → Dn.ct σ H'
  rf : ∀ S' ρ σ H' d p o, Ext S H S' H' → StOk G (β.with p o) S' ρ σ H' → OwnAt G S' H' p d → β.Mine p → ¬ β.O p → N.rf d ρ → Dn.rt (.ref p) H'
def LS (X : Cx) (kx : XC) (β : Base) (w : WS) : TS := fun Dn σ H => XOk X β kx ∧ ∃ S ρ N, StOk (gd X) β S ρ σ H ∧ EndsOk (gd X) β S H N Dn ∧ w N ρ
/-- a target: its slots is -/
def LG (G : Gd) (β : Base) (is : List Nat) (w : WG) : TG := fun v σ H Q => ∃ S ρ d k, StOk G β S ρ σ H ∧ Rep G S H d v ∧ w d ρ k ∧
  ∀ ρ' σ' H', Ext S H S H' → StOk G β S ρ' σ' H' → σ'.length = σ.length → (∀ j, j ∉ is → σ'[j]? = σ[j]?) → k ρ' → Q σ' H'

structure DE (X : Cx) (kx : XC) (e : Expr) (w : WE) : Prop where
  run : ∀ β, PE X e (LE X kx β w)
structure DF (X : Cx) (kx : XC) (e : Expr) (w : WE) : Prop where
  run : ∀ β, PE X e (LF X kx β w)
structure DT (X : Cx) (kx : XC) (e : Expr) (w : WT) : Prop where
  run : ∀ β, PT X e (LT X kx β w)
structure DA (X : Cx) (kx : XC) (es : List Expr) (w : WA) : Prop where
  run : ∀ β, PA X es (LA X kx β w)
structure DS (X : Cx) (kx : XC) (st : Stmt) (w : WS) : Prop where
  run : ∀ β, PS X st (LS X kx β w)
structure DSs (X : Cx) (kx : XC) (st : List Stmt) (w : WS) : Prop where
  run : ∀ β, PSs X st (LS X kx β w)
structure DG (X : Cx) (tg : Expr) (is : List Nat) (w : WG) : Prop where
  run : ∀ β, PG X tg (LG (gd X) β is w)

section
variable {X : Cx}
theorem PE.imp {e : Expr} {t t' : TE} (h : PE X e t) (hi : ∀ σ H Q, t' σ H Q → t σ H Q) : PE X e t' := ⟨fun pins s σ H Q I q => h.run pins s σ H Q I (hi σ H Q q)⟩
theorem PT.imp {e : Expr} {t t' : TT} (h : PT X e t) (hi : ∀ σ H Q, t' σ H Q → t σ H Q) : PT X e t' := ⟨fun pins s σ H Q I q => h.run pins s σ H Q I (hi σ H Q q)⟩
theorem PW.imp {e : Expr} {t t' : TT} (h : PW X e t) (hi : ∀ σ H Q, t' σ H Q → t σ H Q) : PW X e t' := ⟨fun wh pins s σ H Q I q => h.run wh pins s σ H Q I (hi σ H Q q)⟩
theorem PA.imp {e : List Expr} {t t' : TA} (h : PA X e t) (hi : ∀ σ H Q, t' σ H Q → t σ H Q) : PA X e t' := ⟨fun po pins s σ H Q I q => h.run po pins s σ H Q I (hi σ H Q q)⟩
theorem PS.imp {e : Stmt} {t t' : TS} (h : PS X e t) (hi : ∀ D σ H, t' D σ H → t D σ H) : PS X e t' := ⟨fun pins s σ H D I q => h.run pins s σ H D I (hi D σ H q)⟩
theorem PSs.imp {e : List Stmt} {t t' : TS} (h : PSs X e t) (hi : ∀ D σ H, t' D σ H → t D σ H) : PSs X e t' := ⟨fun pins s σ H D I q => h.run pins s σ H D I (hi D σ H q)⟩
theorem PG.imp {e : Expr} {t t' : TG} (h : PG X e t) (hi : ∀ v σ H Q, t' v σ H Q → t v σ H Q) : PG X e t' := ⟨fun pins s σ H v u Q I r q => h.run pins s σ H v u Q I r (hi v σ H Q q)⟩
end
section
variable {X : Cx} {kx : XC} {e a b c : Expr} {es : List Expr} {w wa wb wc : WE} {pos : Pos}

theorem EndsOk.up {G : Gd} {β : Base} {S S' : Hid} {H H' : Hp} {N : DN} {Dn : Ends} (h : EndsOk G β S H N Dn) (e : Ext S H S' H') : EndsOk G β S' H' N Dn :=
  ⟨fun S2 ρ σ H2 x st q => h.nx S2 ρ σ H2 (e.trans x) st q, fun S2 ρ σ H2 d v x st r q => h.rt S2 ρ σ H2 d v (e.trans x) st r q, fun S2 ρ σ H2 x st q => h.bk S2 ρ σ H2 (e.trans x) st q, fun S2 ρ σ H2 x st q => h.ct S2 ρ σ H2 (e.trans x) st q, fun S2 ρ σ H2 d p o x st ow m nO q => h.rf S2 ρ σ H2 d p o (e.trans x) st ow m nO q⟩

/-! ### a new container is a value -/
theorem DF.de (h : DF X kx e w) : DE X kx e w := ⟨fun β => PE.imp (h.run β) fun σ H Q ⟨xk, S, ρ, k, st, hw, hk⟩ => ⟨xk, S, ρ, k, st, hw, fun d ρ' p o H' S' ex st' own nm nO q => by
  obtain ⟨st2, ex2⟩ := st'.unhide nO
  exact hk d ρ' (.ref p) H' _ (ex.trans ex2) st2 ((own.up ex2 rfl).rep fun z => z.2 rfl) q⟩⟩

/-! ### names and constants -/
def wVar (i : Nat) : WE := fun ρ k => match ρ.get i with
  | .val d => k d ρ
  | .own d => k d (ρ.set i (.val d))
  | _ => False
theorem de_var {i : Nat} (h : PE X e (tVar i)) : DE X kx e (wVar i) := ⟨fun β => PE.imp h fun σ H Q ⟨xk, S, ρ, k, st, hw, hk⟩ => by
  have q := st.slot i
  unfold wVar at hw
  cases hs : ρ.get i with
  | un => rw [hs] at hw; exact hw.elim
  | purse => rw [hs] at hw; exact hw.elim
  | pown => rw [hs] at hw; exact hw.elim
  | slf d => rw [hs] at hw; exact hw.elim
  | val d =>
    rw [hs] at hw q
    obtain ⟨v, hv, r⟩ := q
    exact ⟨v, sg_some.mp hv, hk d ρ v H S .refl st r hw⟩
  | own d =>
    rw [hs] at hw q
    obtain ⟨p, hv, _⟩ := q
    obtain ⟨st', r, ex⟩ := st.freeze hs hv
    exact ⟨.ref p, sg_some.mp hv, hk d _ (.ref p) H _ ex st' r hw⟩⟩
def wC (d : D) : WE := fun ρ k => k d ρ
theorem de_int {i : Int} {j : Nat} : DE X kx (.Constant (.int i) j pos) (wC (.int i)) := ⟨fun β => PE.imp pe_int fun σ H Q ⟨xk, S, ρ, k, st, hw, hk⟩ => hk _ ρ _ H S .refl st (repInt.mpr rfl) hw⟩
theorem de_bl {i : Bool} {j : Nat} : DE X kx (.Constant (.bool i) j pos) (wC (.bl i)) := ⟨fun β => PE.imp pe_bl fun σ H Q ⟨xk, S, ρ, k, st, hw, hk⟩ => hk _ ρ _ H S .refl st (repBl.mpr rfl) hw⟩
theorem de_str {i : Str} {j : Nat} : DE X kx (.Constant (.str i) j pos) (wC (.str i)) := ⟨fun β => PE.imp pe_str fun σ H Q ⟨xk, S, ρ, k, st, hw, hk⟩ => hk _ ρ _ H S .refl st (repStr.mpr rfl) hw⟩
theorem de_non {j : Nat} : DE X kx (.Constant .none j pos) (wC .non) := ⟨fun β => PE.imp pe_non fun σ H Q ⟨xk, S, ρ, k, st, hw, hk⟩ => hk _ ρ _ H S .refl st (repNon.mpr rfl) hw⟩
theorem de_gint {x : Str} {i : Int} {t : Tok} (hg : Gl X x) (hm : X.mg x = some (.int i t)) (hd : (x == ("__debug__" : Str)) = false := by decide) : DE X kx (.Name x pos) (wC (.int i)) :=
  ⟨fun β => PE.imp (pe_glob (v := .int i) hg hm ⟨t, rfl⟩ hd) fun σ H Q ⟨xk, S, ρ, k, st, hw, hk⟩ => hk _ ρ _ H S .refl st (repInt.mpr rfl) hw⟩
theorem de_gstr {x i : Str} {t : Tok} (hg : Gl X x) (hm : X.mg x = some (.str i t)) (hd : (x == ("__debug__" : Str)) = false := by decide) : DE X kx (.Name x pos) (wC (.str i)) :=
  ⟨fun β => PE.imp (pe_glob (v := .str i) hg hm ⟨t, rfl⟩ hd) fun σ H Q ⟨xk, S, ρ, k, st, hw, hk⟩ => hk _ ρ _ H S .refl st (repStr.mpr rfl) hw⟩

/-! ### operators by values -/
abbrev RD2 := D → D → (D → Prop) → Prop
abbrev RDs := List D → (D → Prop) → Prop
/-- what a value-level rule may lean on -/
def LOp (G : Gd) (r : RD2) : R2 := fun x y H Q => ∃ S dx dy k, (∀ a, S a → ∃ o, H a = some o) ∧ Rep G S H dx x ∧ Rep G S H dy y ∧ r dx dy k ∧ ∀ d v H', Same H H' → Rep G S H' d v → k d → Q v H'
def LUn (G : Gd) (r : D → (D → Prop) → Prop) : V → Hp → VK → Prop := fun x H Q => ∃ S dx k, (∀ a, S a → ∃ o, H a = some o) ∧ Rep G S H dx x ∧ r dx k ∧ ∀ d v H', Same H H' → Rep G S H' d v → k d → Q v H'
def LCa (G : Gd) (r : RDs) : List V → Hp → VK → Prop := fun xs H Q => ∃ S ds k, (∀ a, S a → ∃ o, H a = some o) ∧ RepL G S H ds xs ∧ r ds k ∧ ∀ d v H', Same H H' → Rep G S H' d v → k d → Q v H'
def DOp (X : Cx) (f : Value → Value → Sem Value) (r : RD2) : Prop := OpR X f (LOp (gd X) r)
def wOp (r : RD2) (wa wb : WE) : WE := fun ρ k => wa ρ fun x ρ1 => wb ρ1 fun y ρ2 => r x y fun z => k z ρ2
theorem lop {β : Base} {r : RD2} {σ : L2.St} {H : Hp} {Q : VK} (h : LE X kx β (wOp r wa wb) σ H Q) : tOp (LOp (gd X) r) (LE X kx β wa) (LE X kx β wb) σ H Q := by
  obtain ⟨xk, S, ρ, k, st, hw, hk⟩ := h
  refine ⟨xk, S, ρ, _, st, hw, fun x ρ1 v1 H1 S1 ex1 st1 r1 hw1 => ?_⟩
  refine ⟨xk, S1, ρ1, _, st1, hw1, fun y ρ2 v2 H2 S2 ex2 st2 r2 hw2 => ?_⟩
  exact ⟨S2, x, y, _, st2.sdom, r1.up ex2, r2, hw2, fun d v H' sm rp q => hk d ρ2 v H' S2 ((ex1.trans ex2).trans (.same sm)) (st2.grow sm) rp q⟩
theorem de_op {op : Operator} {r : RD2} (ho : DOp X (binaryOp op) r) (ha : DE X kx a wa) (hb : DE X kx b wb) : DE X kx (.BinOp a op b pos) (wOp r wa wb) :=
  ⟨fun β => PE.imp (pe_op ho (ha.run β) (hb.run β)) fun _ _ _ h => lop h⟩
theorem de_cmp {op : CmpOp} {r : RD2} (ho : DOp X (compareOp op) r) (ha : DE X kx a wa) (hb : DE X kx b wb) (hm : behindInMarks op b = false) : DE X kx (.Compare a [op] [b] pos) (wOp r wa wb) :=
  ⟨fun β => PE.imp (pe_cmpR ho (ha.run β) (hb.run β) hm) fun _ _ _ h => lop h⟩
def wUn (r : D → (D → Prop) → Prop) (wa : WE) : WE := fun ρ k => wa ρ fun x ρ1 => r x fun z => k z ρ1
theorem de_un {op : UnaryOp} {r : D → (D → Prop) → Prop} (ho : UnR X (unaryOp op) (LUn (gd X) r)) (ha : DE X kx a wa) : DE X kx (.UnaryOp op a pos) (wUn r wa) :=
  ⟨fun β => PE.imp (pe_un ho (ha.run β)) fun σ H Q ⟨xk, S, ρ, k, st, hw, hk⟩ => ⟨xk, S, ρ, _, st, hw, fun x ρ1 v1 H1 S1 ex1 st1 r1 hw1 =>
    ⟨S1, x, _, st1.sdom, r1, hw1, fun d v H' sm rp q => hk d ρ1 v H' S1 (ex1.trans (.same sm)) (st1.grow sm) rp q⟩⟩⟩
/-- a < b < c -/
def wChain (r r' : RD2) (wa wb wc : WE) : WE := fun ρ k => wa ρ fun x ρ1 => wb ρ1 fun y ρ2 => r x y fun z => match z with
  | .bl true => wc ρ2 fun u ρ3 => r' y u fun z' => k z' ρ3
  | .bl false => k (.bl false) ρ2
  | _ => False
theorem lchain {β : Base} {r r' : RD2} {σ : L2.St} {H : Hp} {Q : VK} (h : LE X kx β (wChain r r' wa wb wc) σ H Q) : tChain (LOp (gd X) r) (LOp (gd X) r') (LE X kx β wa) (LE X kx β wb) (LE X kx β wc) σ H Q := by
  obtain ⟨xk, S, ρ, k, st, hw, hk⟩ := h
  refine ⟨xk, S, ρ, _, st, hw, fun x ρ1 v1 H1 S1 ex1 st1 r1 hw1 => ?_⟩
  refine ⟨xk, S1, ρ1, _, st1, hw1, fun y ρ2 v2 H2 S2 ex2 st2 r2 hw2 => ?_⟩
  refine ⟨S2, x, y, _, st2.sdom, r1.up ex2, r2, hw2, fun d v H' sm rp q => ?_⟩
  cases d with
  | bl z =>
    rw [repBl] at rp; subst rp
    refine ⟨z, rfl, ?_⟩
    cases z with
    | true =>
      rw [if_pos rfl]
      refine ⟨xk, S2, ρ2, _, st2.grow sm, q, fun u ρ3 v3 H3 S3 ex3 st3 r3 hw3 => ?_⟩
      exact ⟨S3, y, u, _, st3.sdom, r2.up ((Ext.same sm).trans ex3), r3, hw3, fun d v H4 sm4 rp q => hk d ρ3 v H4 S3 ((((ex1.trans ex2).trans (.same sm)).trans ex3).trans (.same sm4)) (st3.grow sm4) rp q⟩
    | false =>
      rw [if_neg Bool.false_ne_true]
      exact hk _ ρ2 _ H' S2 ((ex1.trans ex2).trans (.same sm)) (st2.grow sm) (repBl.mpr rfl) q
  | _ => exact q.elim
theorem de_chain {op op' : CmpOp} {r r' : RD2} (ho : DOp X (compareOp op) r) (ho' : DOp X (compareOp op') r') (ha : DE X kx a wa) (hb : DE X kx b wb) (hc : DE X kx c wc)
    (hm : lastMarks [op, op'] [b, c] = false := by with_unfolding_all rfl) : DE X kx (.Compare a [op, op'] [b, c] pos) (wChain r r' wa wb wc) :=
  ⟨fun β => PE.imp (pe_chain ho ho' (ha.run β) (hb.run β) (hc.run β) hm) fun _ _ _ h => lchain h⟩

/-! ### arguments -/
def wNil : WA := fun ρ k => k [] ρ
def wCons (w : WE) (wr : WA) : WA := fun ρ k => w ρ fun x ρ1 => wr ρ1 fun xs ρ2 => k (x :: xs) ρ2
theorem da_nil : DA X kx [] wNil := ⟨fun β => PA.imp pa_nil fun σ H Q ⟨xk, S, ρ, k, st, hw, hk⟩ => hk [] ρ [] H S .refl st (repLnil.mpr rfl) hw⟩
theorem da_cons {wr : WA} (h : DE X kx e w) (hr : DA X kx es wr) (hs : starEach (e :: es) X.env = (false, eval e X.env) :: starEach es X.env := by rfl) : DA X kx (e :: es) (wCons w wr) :=
  ⟨fun β => PA.imp (pa_cons (h.run β) (hr.run β) hs) fun σ H Q ⟨xk, S, ρ, k, st, hw, hk⟩ => ⟨xk, S, ρ, _, st, hw, fun x ρ1 v1 H1 S1 ex1 st1 r1 hw1 => ⟨xk, S1, ρ1, _, st1, hw1, fun xs ρ2 vs H2 S2 ex2 st2 r2 hw2 =>
    hk (x :: xs) ρ2 (v1 :: vs) H2 S2 (ex1.trans ex2) st2 (repLcons.mpr ⟨v1, vs, rfl, r1.up ex2, r2⟩) hw2⟩⟩⟩

/-! ### displays -/
def wTup (wa : WA) : WE := fun ρ k => wa ρ fun ds ρ1 => ds.length ≤ sizeLine ∧ k (.tup ds) ρ1
def wLst (wa : WA) : WE := fun ρ k => wa ρ fun ds ρ1 => ds.length ≤ sizeLine ∧ k (.lst ds) ρ1
theorem de_tup {wr : WA} {x1 : Nat} (h : DA X kx es wr) : DE X kx (.Tuple es x1 pos) (wTup wr) := ⟨fun β => PE.imp (pe_tup (h.run β)) fun σ H Q ⟨xk, S, ρ, k, st, hw, hk⟩ => ⟨xk, S, ρ, _, st, hw, fun ds ρ1 vs H1 S1 ex1 st1 r1 hw1 => ⟨by rw [r1.length]; exact hw1.1, fun p np =>
  hk (.tup ds) ρ1 (.ref p) _ S1 (ex1.trans (.same (same_upd np))) (st1.grow (same_upd np)) (repTup.mpr ⟨p, vs, rfl, .inl ⟨(st1.new_mine np).1, .inl upd_same⟩, r1.up (.same (same_upd np))⟩) hw1.2⟩⟩⟩
theorem df_lst {wr : WA} (h : DA X kx es wr) : DF X kx (.List es pos) (wLst wr) := ⟨fun β => PE.imp (pe_lst (h.run β)) fun σ H Q ⟨xk, S, ρ, k, st, hw, hk⟩ => ⟨xk, S, ρ, _, st, hw, fun ds ρ1 vs H1 S1 ex1 st1 r1 hw1 => ⟨by rw [r1.length]; exact hw1.1, fun p np =>
  hk (.lst ds) ρ1 p (.lst vs) _ _ (ex1.trans (ext_take np)) (st1.hide np) ⟨vs, upd_same, r1.up (ext_take np)⟩ (st1.new_mine np).2.2 (st1.new_mine np).2.1 hw1.2⟩⟩⟩
def wDct : WE := fun ρ k => k (.dK []) ρ
theorem df_dct : DF X kx (.Dict [] [] pos) wDct := ⟨fun β => PE.imp pe_dnewK fun σ H Q ⟨xk, S, ρ, k, st, hw, hk⟩ p np => hk (.dK []) ρ p (.dK []) _ _ (ext_take np) (st.hide np) ⟨[], upd_same, repKnil.mpr rfl⟩ (st.new_mine np).2.2 (st.new_mine np).2.1 hw⟩

/-! ### tests -/
def D.truth : D → Option Bool
  | .non => some false
  | .bl b => some b
  | .int i => some (i != 0)
  | .str x => some (x.length != 0)
  | .tup xs => some (!xs.isEmpty)
  | .lst xs => some (!xs.isEmpty)
  | .dK xs => some (!xs.isEmpty)
  | _ => none
def wTru (w : WE) : WT := fun ρ k => w ρ fun d ρ1 => match d with
  | .bl b => k b ρ1
  | _ => False
/-- a bool as a test -/
theorem dt_val (h : DE X kx e w) (he : ∀ whole, isTrue e X.env whole = (do let v ← whole; standAt e.pos; holding [v] (truthy v)) := by intro _; rfl) : DT X kx e (wTru w) :=
  ⟨fun β => PT.imp (pt_val (h.run β) he) fun σ H Q ⟨xk, S, ρ, k, st, hw, hk⟩ => ⟨xk, S, ρ, _, st, hw, fun d ρ1 v H1 S1 ex1 st1 r1 q => by
    cases d with
    | bl b => rw [repBl] at r1; subst r1; exact ⟨b, rfl, hk b ρ1 H1 S1 ex1 st1 q⟩
    | _ => exact q.elim⟩⟩
theorem ltest {β : Base} {r : RD2} {σ : L2.St} {H : Hp} {Q : Bool → Hp → Prop} (h : LT X kx β (wTru (wOp r wa wb)) σ H Q) : tTest (tOp (LOp (gd X) r) (LE X kx β wa) (LE X kx β wb)) σ H Q := by
  obtain ⟨xk, S, ρ, k, st, hw, hk⟩ := h
  refine lop ⟨xk, S, ρ, _, st, hw, fun d ρ1 v H1 S1 ex1 st1 r1 q => ?_⟩
  cases d with
  | bl b => rw [repBl] at r1; subst r1; exact ⟨b, rfl, hk b ρ1 H1 S1 ex1 st1 q⟩
  | _ => exact q.elim
theorem dt_cmp {op : CmpOp} {r : RD2} (ho : DOp X (compareOp op) r) (ha : DE X kx a wa) (hb : DE X kx b wb) (hm : behindInMarks op b = false) : DT X kx (.Compare a [op] [b] pos) (wTru (wOp r wa wb)) :=
  ⟨fun β => PT.imp (pt_cmpR ho (ha.run β) (hb.run β) hm) fun _ _ _ h => ltest h⟩
theorem dt_chain {op op' : CmpOp} {r r' : RD2} (ho : DOp X (compareOp op) r) (ho' : DOp X (compareOp op') r') (ha : DE X kx a wa) (hb : DE X kx b wb) (hc : DE X kx c wc)
    (hm : lastMarks [op, op'] [b, c] = false := by with_unfolding_all rfl) : DT X kx (.Compare a [op, op'] [b, c] pos) (wTru (wChain r r' wa wb wc)) :=
  ⟨fun β => PT.imp (pt_chain ho ho' (ha.run β) (hb.run β) (hc.run β) hm) fun σ H Q ⟨xk, S, ρ, k, st, hw, hk⟩ => lchain ⟨xk, S, ρ, _, st, hw, fun d ρ1 v H1 S1 ex1 st1 r1 q => by
    cases d with
    | bl b => rw [repBl] at r1; subst r1; exact ⟨b, rfl, hk b ρ1 H1 S1 ex1 st1 q⟩
    | _ => exact q.elim⟩⟩
def wNot (w : WT) : WT := fun ρ k => w ρ fun b ρ1 => k (!b) ρ1
theorem dt_not {w : WT} (h : DT X kx e w) : DT X kx (.UnaryOp .Not e pos) (wNot w) := ⟨fun β => PT.imp (pt_not (h.run β)) fun σ H Q ⟨xk, S, ρ, k, st, hw, hk⟩ => ⟨xk, S, ρ, _, st, hw, fun b ρ1 H1 S1 ex1 st1 q => hk (!b) ρ1 H1 S1 ex1 st1 q⟩⟩
def wAndT (w w' : WT) : WT := fun ρ k => w ρ fun b ρ1 => if b = true then w' ρ1 k else k false ρ1
def wOrT (w w' : WT) : WT := fun ρ k => w ρ fun b ρ1 => if b = true then k true ρ1 else w' ρ1 k
structure DW (X : Cx) (kx : XC) (e : Expr) (w : WT) : Prop where
  run : ∀ β, PW X e (LT X kx β w)
theorem DW.dt {w : WT} (h : DW X kx e w) : DT X kx e w := ⟨fun β => (h.run β).pt⟩
theorem dw_and1 {w : WT} (h : DT X kx e w) : DW X kx (.BoolOp .And [e] pos) w := ⟨fun β => pw_and1 (h.run β)⟩
theorem dw_or1 {w : WT} (h : DT X kx e w) : DW X kx (.BoolOp .Or [e] pos) w := ⟨fun β => pw_or1 (h.run β)⟩
theorem dw_and {w w' : WT} (h : DT X kx e w) (h' : DW X kx (.BoolOp .And (b :: es) pos) w') : DW X kx (.BoolOp .And (e :: b :: es) pos) (wAndT w w') :=
  ⟨fun β => PW.imp (pw_and (h.run β) (h'.run β)) fun σ H Q ⟨xk, S, ρ, k, st, hw, hk⟩ => ⟨xk, S, ρ, _, st, hw, fun c ρ1 H1 S1 ex1 st1 q => by
    cases c with
    | true =>
      rw [if_pos rfl] at q ⊢
      exact ⟨xk, S1, ρ1, k, st1, q, fun b' ρ2 H2 S2 ex2 st2 q2 => hk b' ρ2 H2 S2 (ex1.trans ex2) st2 q2⟩
    | false =>
      rw [if_neg Bool.false_ne_true] at q ⊢
      exact hk false ρ1 H1 S1 ex1 st1 q⟩⟩
theorem dw_or {w w' : WT} (h : DT X kx e w) (h' : DW X kx (.BoolOp .Or (b :: es) pos) w') : DW X kx (.BoolOp .Or (e :: b :: es) pos) (wOrT w w') :=
  ⟨fun β => PW.imp (pw_or (h.run β) (h'.run β)) fun σ H Q ⟨xk, S, ρ, k, st, hw, hk⟩ => ⟨xk, S, ρ, _, st, hw, fun c ρ1 H1 S1 ex1 st1 q => by
    cases c with
    | true =>
      rw [if_pos rfl] at q ⊢
      exact hk true ρ1 H1 S1 ex1 st1 q
    | false =>
      rw [if_neg Bool.false_ne_true] at q ⊢
      exact ⟨xk, S1, ρ1, k, st1, q, fun b' ρ2 H2 S2 ex2 st2 q2 => hk b' ρ2 H2 S2 (ex1.trans ex2) st2 q2⟩⟩⟩
/-- and, or of bools as values -/
def wAndV (w w' : WE) : WE := fun ρ k => w ρ fun d ρ1 => match d with
  | .bl true => w' ρ1 k
  | .bl false => k (.bl false) ρ1
  | _ => False
def wOrV (w w' : WE) : WE := fun ρ k => w ρ fun d ρ1 => match d with
  | .bl true => k (.bl true) ρ1
  | .bl false => w' ρ1 k
  | _ => False
theorem de_one {op : BoolOp} (h : DE X kx e w) : DE X kx (.BoolOp op [e] pos) w := ⟨fun β => pe_one (h.run β)⟩
theorem de_and {w' : WE} (h : DE X kx e w) (h' : DE X kx (.BoolOp .And (b :: es) pos) w') : DE X kx (.BoolOp .And (e :: b :: es) pos) (wAndV w w') :=
  ⟨fun β => PE.imp (pe_and (h.run β) (h'.run β)) fun σ H Q ⟨xk, S, ρ, k, st, hw, hk⟩ => ⟨xk, S, ρ, _, st, hw, fun d ρ1 v H1 S1 ex1 st1 r1 q => by
    cases d with
    | bl c =>
      rw [repBl] at r1; subst r1
      refine ⟨c, rfl, ?_⟩
      cases c with
      | true =>
        rw [if_pos rfl]
        exact ⟨xk, S1, ρ1, k, st1, q, fun b' ρ2 v2 H2 S2 ex2 st2 r2 q2 => hk b' ρ2 v2 H2 S2 (ex1.trans ex2) st2 r2 q2⟩
      | false =>
        rw [if_neg Bool.false_ne_true]
        exact hk _ ρ1 _ H1 S1 ex1 st1 (repBl.mpr rfl) q
    | _ => exact q.elim⟩⟩
theorem de_or {w' : WE} (h : DE X kx e w) (h' : DE X kx (.BoolOp .Or (b :: es) pos) w') : DE X kx (.BoolOp .Or (e :: b :: es) pos) (wOrV w w') :=
  ⟨fun β => PE.imp (pe_or (h.run β) (h'.run β)) fun σ H Q ⟨xk, S, ρ, k, st, hw, hk⟩ => ⟨xk, S, ρ, _, st, hw, fun d ρ1 v H1 S1 ex1 st1 r1 q => by
    cases d with
    | bl c =>
      rw [repBl] at r1; subst r1
      refine ⟨c, rfl, ?_⟩
      cases c with
      | true =>
        rw [if_pos rfl]
        exact hk _ ρ1 _ H1 S1 ex1 st1 (repBl.mpr rfl) q
      | false =>
        rw [if_neg Bool.false_ne_true]
        exact ⟨xk, S1, ρ1, k, st1, q, fun b' ρ2 v2 H2 S2 ex2 st2 r2 q2 => hk b' ρ2 v2 H2 S2 (ex1.trans ex2) st2 r2 q2⟩
    | _ => exact q.elim⟩⟩
def wNotV (w : WE) : WE := fun ρ k => w ρ fun d ρ1 => match d with
  | .bl b => k (.bl (!b)) ρ1
  | _ => False
theorem de_not (h : DE X kx e w) : DE X kx (.UnaryOp .Not e pos) (wNotV w) :=
  ⟨fun β => PE.imp (pe_not (h.run β)) fun σ H Q ⟨xk, S, ρ, k, st, hw, hk⟩ => ⟨xk, S, ρ, _, st, hw, fun d ρ1 v H1 S1 ex1 st1 r1 q => by
    cases d with
    | bl c =>
      rw [repBl] at r1; subst r1
      exact ⟨c, rfl, hk _ ρ1 _ H1 S1 ex1 st1 (repBl.mpr rfl) q⟩
    | _ => exact q.elim⟩⟩
def wIfE (wt : WT) (wa wb : WE) : WE := fun ρ k => wt ρ fun b ρ1 => if b = true then wa ρ1 k else wb ρ1 k
theorem de_if {wt : WT} (hc : DT X kx c wt) (ha : DE X kx a wa) (hb : DE X kx b wb) : DE X kx (.IfExp c a b pos) (wIfE wt wa wb) :=
  ⟨fun β => PE.imp (pe_ifExp (hc.run β) (ha.run β) (hb.run β)) fun σ H Q ⟨xk, S, ρ, k, st, hw, hk⟩ => ⟨xk, S, ρ, _, st, hw, fun d ρ1 H1 S1 ex1 st1 q => by
    cases d with
    | true =>
      rw [if_pos rfl] at q ⊢
      exact ⟨xk, S1, ρ1, k, st1, q, fun b' ρ2 v2 H2 S2 ex2 st2 r2 q2 => hk b' ρ2 v2 H2 S2 (ex1.trans ex2) st2 r2 q2⟩
    | false =>
      rw [if_neg Bool.false_ne_true] at q ⊢
      exact ⟨xk, S1, ρ1, k, st1, q, fun b' ρ2 v2 H2 S2 ex2 st2 r2 q2 => hk b' ρ2 v2 H2 S2 (ex1.trans ex2) st2 r2 q2⟩⟩⟩

/-! ### statements -/
variable {st : Stmt} {rest : List Stmt} {ws ws' : WS}
def sNext : WS := fun N ρ => N.nx ρ
def sSeq (w w' : WS) : WS := fun N ρ => w ⟨fun ρ' => w' N ρ', N.rt, N.bk, N.ct, N.rf⟩ ρ
theorem dss_nil : DSs X kx [] sNext := ⟨fun β => PSs.imp pss_nil fun Dn σ H ⟨xk, S, ρ, N, st, en, hw⟩ => en.nx S ρ σ H .refl st hw⟩
theorem dss_one (h : DS X kx st ws) : DSs X kx [st] ws := ⟨fun β => pss_one (h.run β)⟩
theorem dss_cons (h : DS X kx st ws) (h' : DSs X kx rest ws') : DSs X kx (st :: rest) (sSeq ws ws') := ⟨fun β => PSs.imp (pss_cons (h.run β) (h'.run β)) fun Dn σ H ⟨xk, S, ρ, N, st, en, hw⟩ =>
  ⟨xk, S, ρ, ⟨fun ρ' => ws' N ρ', N.rt, N.bk, N.ct, N.rf⟩, st, ⟨fun S' ρ' σ' H' ex st' q => ⟨xk, S', ρ', N, st', en.up ex, q⟩, en.rt, en.bk, en.ct, en.rf⟩, hw⟩⟩
theorem ds_pass : DS X kx (.Pass pos) sNext := ⟨fun β => PS.imp ps_pass fun Dn σ H ⟨xk, S, ρ, N, st, en, hw⟩ => en.nx S ρ σ H .refl st hw⟩
def sBreak : WS := fun N ρ => N.bk ρ
def sCont : WS := fun N ρ => N.ct ρ
theorem ds_break : DS X kx (.Break pos) sBreak := ⟨fun β => PS.imp ps_break fun Dn σ H ⟨xk, S, ρ, N, st, en, hw⟩ => en.bk S ρ σ H .refl st hw⟩
theorem ds_cont : DS X kx (.Continue pos) sCont := ⟨fun β => PS.imp ps_continue fun Dn σ H ⟨xk, S, ρ, N, st, en, hw⟩ => en.ct S ρ σ H .refl st hw⟩
theorem ds_doc {x : Str} {j : Nat} {pos' : Pos} : DS X kx (.Expr (.Constant (.str x) j pos) pos') sNext := ⟨fun β => PS.imp ps_doc fun Dn σ H ⟨xk, S, ρ, N, st, en, hw⟩ => en.nx S ρ σ H .refl st hw⟩
def sRet (w : WE) : WS := fun N ρ => w ρ N.rt
theorem ds_ret (h : DE X kx e w) : DS X kx (.Return (some e) pos) (sRet w) := ⟨fun β => PS.imp (ps_ret (h.run β)) fun Dn σ H ⟨xk, S, ρ, N, st, en, hw⟩ => ⟨xk, S, ρ, _, st, hw, fun d ρ1 v H1 S1 ex st1 r q => en.rt S1 ρ1 σ H1 d v ex st1 r q⟩⟩
/-- a new container returned -/
def sRetF (w : WE) : WS := fun N ρ => w ρ N.rf
theorem ds_retF (h : DF X kx e w) : DS X kx (.Return (some e) pos) (sRetF w) := ⟨fun β => PS.imp (ps_ret (h.run β)) fun Dn σ H ⟨xk, S, ρ, N, st, en, hw⟩ => ⟨xk, S, ρ, _, st, hw, fun d ρ1 p o H1 S1 ex st1 own nm nO q => en.rf S1 ρ1 σ H1 d p o ex st1 own nm nO q⟩⟩
def sRetN : WS := fun N ρ => N.rt .non ρ
theorem ds_retN : DS X kx (.Return none pos) sRetN := ⟨fun β => PS.imp ps_retN fun Dn σ H ⟨xk, S, ρ, N, st, en, hw⟩ => en.rt S ρ σ H .non .non .refl st (repNon.mpr rfl) hw⟩
def sExpr (w : WE) : WS := fun N ρ => w ρ fun _ ρ1 => N.nx ρ1
theorem ds_expr (h : DE X kx e w) (hs : swapsWith e none pos.line X.env = pure false := by rfl) : DS X kx (.Expr e pos) (sExpr w) := ⟨fun β => PS.imp (ps_expr (h.run β) hs) fun Dn σ H ⟨xk, S, ρ, N, st, en, hw⟩ => ⟨xk, S, ρ, _, st, hw, fun d ρ1 v H1 S1 ex st1 r q => en.nx S1 ρ1 σ H1 ex st1 q⟩⟩
def sIf (wt : WT) (w w' : WS) : WS := fun N ρ => wt ρ fun b ρ1 => if b = true then w N ρ1 else w' N ρ1
theorem ds_if {wt : WT} {bs cs : List Stmt} (hc : DT X kx c wt) (ha : DSs X kx bs ws) (hb : DSs X kx cs ws') : DS X kx (.If c bs cs pos) (sIf wt ws ws') :=
  ⟨fun β => PS.imp (ps_if (hc.run β) (ha.run β) (hb.run β)) fun Dn σ H ⟨xk, S, ρ, N, st, en, hw⟩ => ⟨xk, S, ρ, _, st, hw, fun d ρ1 H1 S1 ex1 st1 q => by
    cases d with
    | true =>
      rw [if_pos rfl] at q ⊢
      exact ⟨xk, S1, ρ1, N, st1, en.up ex1, q⟩
    | false =>
      rw [if_neg Bool.false_ne_true] at q ⊢
      exact ⟨xk, S1, ρ1, N, st1, en.up ex1, q⟩⟩⟩

/-! ### targets and stores -/
def gN (i : Nat) : WG := fun d ρ k => k (ρ.set i (.val d))
theorem dg_name {i : Nat} (h : PG X e (gName i)) : DG X e [i] (gN i) := ⟨fun β => PG.imp h fun v σ H Q ⟨S, ρ, d, k, st, r, hw, hk⟩ =>
  hk _ _ H .refl (st.store r) (by rw [List.length_set]) (fun j hj => by rw [List.getElem?_set_ne (by intro z; exact hj (by simp [z]))]) hw⟩
abbrev WGs := List D → Ev → (Ev → Prop) → Prop
def LGs (G : Gd) (β : Base) (is : List Nat) (w : WGs) : TGs := fun vs σ H Q => ∃ S ρ d k, StOk G β S ρ σ H ∧ RepL G S H d vs ∧ w d ρ k ∧
  ∀ ρ' σ' H', Ext S H S H' → StOk G β S ρ' σ' H' → σ'.length = σ.length → (∀ j, j ∉ is → σ'[j]? = σ[j]?) → k ρ' → Q σ' H'
structure DGs (X : Cx) (tgs : List Expr) (is : List Nat) (w : WGs) : Prop where
  run : ∀ β, PGs X tgs (LGs (gd X) β is w)
def gNil' : WGs := fun ds ρ k => ds = [] ∧ k ρ
def gCons' (w : WG) (wr : WGs) : WGs := fun ds ρ k => match ds with
  | d :: r => w d ρ fun ρ1 => wr r ρ1 k
  | [] => False
theorem dgs_nil : DGs X [] [] gNil' := ⟨fun β => ⟨fun pins s σ H vs us Q I r h => pgs_nil.run pins s σ H vs us Q I r (by
  obtain ⟨S, ρ, d, k, st, rp, hw, hk⟩ := h
  obtain ⟨h1, h2⟩ := hw
  subst h1
  rw [repLnil] at rp
  exact ⟨rp, hk ρ σ H .refl st rfl (fun _ _ => rfl) h2⟩)⟩⟩
theorem dgs_cons {is js : List Nat} {w : WG} {wr : WGs} (h : DG X e is w) (hr : DGs X es js wr) (hs : (assignEach (e :: es) X.env).map (·.2) = assign e X.env :: (assignEach es X.env).map (·.2) := by rfl) : DGs X (e :: es) (is ++ js) (gCons' w wr) :=
  ⟨fun β => ⟨fun pins s σ H vs us Q I r h' => (pgs_cons (h.run β) (hr.run β) hs).run pins s σ H vs us Q I r (by
    obtain ⟨S, ρ, d, k, st, rp, hw, hk⟩ := h' 
    cases d with
    | nil => exact hw.elim
    | cons d ds =>
      rw [repLcons] at rp
      obtain ⟨v, ws, rfl, r1, r2⟩ := rp
      refine ⟨v, ws, rfl, S, ρ, d, _, st, r1, hw, fun ρ1 σ1 H1 ex1 st1 l1 o1 hw1 => ?_⟩
      exact ⟨S, ρ1, ds, k, st1, r2.up ex1, hw1, fun ρ2 σ2 H2 ex2 st2 l2 o2 q => hk ρ2 σ2 H2 (ex1.trans ex2) st2 (l2.trans l1) (fun j hj => (o2 j fun z => hj (List.mem_append_right _ z)).trans (o1 j fun z => hj (List.mem_append_left _ z))) q⟩)⟩⟩
def gTupW (n : Nat) (w : WGs) : WG := fun d ρ k => match d with
  | .tup ds => ds.length = n ∧ w ds ρ k
  | _ => False
theorem dg_tup {is : List Nat} {w : WGs} {k : Nat} {n : Nat} (hc : X.calm = true) (h : DGs X es is w) (hn : (assignEach es X.env).length = n := by rfl) (hst : (assignEach es X.env).findIdx? (·.1) = none := by rfl) : DG X (.Tuple es k pos) is (gTupW n w) :=
  ⟨fun β => PG.imp (pg_tup hc (h.run β) hn hst) fun v σ H Q ⟨S, ρ, d, k, st, r, hw, hk⟩ => by
    cases d with
    | tup ds =>
      rw [repTup] at r
      obtain ⟨a, vs, rfl, r1, r2⟩ := r
      exact ⟨a, vs, rfl, r1.seq, by rw [r2.length]; exact hw.1, S, ρ, ds, k, st, r2, hw.2, hk⟩
    | _ => exact hw.elim⟩
def sSet (w : WE) (g : WG) : WS := fun N ρ => w ρ fun d ρ1 => g d ρ1 N.nx
theorem lset {β : Base} {is : List Nat} {g : WG} {Dn : Ends} {σ : L2.St} {H : Hp} (h : LS X kx β (sSet w g) Dn σ H) : tAsg (LE X kx β w) (LG (gd X) β is g) Dn σ H := by
  obtain ⟨xk, S, ρ, N, st, en, hw⟩ := h
  exact ⟨xk, S, ρ, _, st, hw, fun d ρ1 v H1 S1 ex st1 r q => ⟨S1, ρ1, d, N.nx, st1, r, q, fun ρ2 σ2 H2 ex2 st2 _ _ q2 => en.nx S1 ρ2 σ2 H2 (ex.trans ex2) st2 q2⟩⟩
theorem ds_asg {is : List Nat} {g : WG} {tg : Expr} (he : DE X kx e w) (hg : DG X tg is g) (hs : swapsWithSole [tg] e pos.line X.env = pure false := by rfl) (hw : swappedStores [tg] e X.env = pure none := by rfl)
    (h1 : (assignEach [tg] X.env).map (·.2) = [assign tg X.env] := by rfl) : DS X kx (.Assign [tg] e pos) (sSet w g) := ⟨fun β => PS.imp (ps_asg (he.run β) (hg.run β) hs hw h1) fun _ _ _ h => lset h⟩
theorem ds_set {i : Nat} {x : Str} {pos' : Pos} (hN : X.N.Nodup) (hi : X.N[i]? = some x) (hx : Loc X.env.scope x) (he : DE X kx e w) (hs : swapsWith e (some (.Name x pos')) pos.line X.env = pure false := by rfl) (hf : X.fn x = true ∨ X.env.scope.names.lookup x = some .local := by first | exact .inl rfl | exact .inr rfl | assumption) :
    DS X kx (.Assign [.Name x pos'] e pos) (sSet w (gN i)) := ⟨fun β => PS.imp (ps_set hN hi hx (he.run β) hs hf) fun Dn σ H ⟨xk, S, ρ, N, st, en, hw⟩ =>
      ⟨xk, S, ρ, _, st, hw, fun d ρ1 v H1 S1 ex st1 r q => en.nx S1 _ _ H1 ex (st1.store r) q⟩⟩
/-- a new container, kept as one's own -/
def sOwn (w : WE) (i : Nat) : WS := fun N ρ => i < ρ.length ∧ w ρ fun d ρ1 => N.nx (ρ1.set i (.own d))
theorem StOk.len_eq {G : Gd} {β β' : Base} {S S' : Hid} {ρ ρ' : Ev} {σ : L2.St} {H H' : Hp} (h : StOk G β S ρ σ H) (h' : StOk G β' S' ρ' σ H') : ρ'.length = ρ.length := h'.len.symm.trans h.len
theorem ds_own {i : Nat} {x : Str} {pos' : Pos} (hN : X.N.Nodup) (hi : X.N[i]? = some x) (hx : Loc X.env.scope x) (he : DF X kx e w) (hs : swapsWith e (some (.Name x pos')) pos.line X.env = pure false := by rfl) (hf : X.fn x = true ∨ X.env.scope.names.lookup x = some .local := by first | exact .inl rfl | exact .inr rfl | assumption) :
    DS X kx (.Assign [.Name x pos'] e pos) (sOwn w i) := ⟨fun β => PS.imp (ps_set hN hi hx (he.run β) hs hf) fun Dn σ H ⟨xk, S, ρ, N, st, en, hi', hw⟩ =>
      ⟨xk, S, ρ, _, st, hw, fun d ρ1 p o H1 S1 ex st1 own nm nO q => en.nx _ _ _ _ ex (st1.adopt (s := .own d) (by rw [st.len_eq st1]; exact hi') nm (show OwnAt _ _ _ _ _ ∧ _ from ⟨own, nO⟩)) q⟩⟩
/-- a, b = x, y with local names -/
def sPar (i j : Nat) (w : WA) : WS := fun N ρ => w ρ fun ds ρ1 => match ds with
  | [d, e] => N.nx ((ρ1.set i (.val d)).set j (.val e))
  | _ => False
theorem ds_par {i j : Nat} {x y : Str} {w : WA} {px py pt : Pos} {kt k2 pt2} (hc : X.calm = true) (hN : X.N.Nodup) (hi : X.N[i]? = some x) (hj : X.N[j]? = some y) (hij : i ≠ j)
    (hx : X.env.scope.names.lookup x = some .local) (hy : X.env.scope.names.lookup y = some .local) (ha : DA X kx [a, b] w)
    (hw : swappedStores [.Tuple [.Name x px, .Name y py] kt pt] (.Tuple [a, b] k2 pt2) X.env = pure (some [x, y]))
    (hs : swapsWithSole [.Tuple [.Name x px, .Name y py] kt pt] (.Tuple [a, b] k2 pt2) pos.line X.env = pure false := by rfl) :
    DS X kx (.Assign [.Tuple [.Name x px, .Name y py] kt pt] (.Tuple [a, b] k2 pt2) pos) (sPar i j w) :=
  ⟨fun β => PS.imp (ps_par hc hN hi hj hij hx hy (ha.run β) hw hs) fun Dn σ H ⟨xk, S, ρ, N, st, en, hw⟩ => ⟨xk, S, ρ, _, st, hw, fun ds ρ1 vs H1 S1 ex st1 r q => by
    match ds with
    | [d, e] =>
      rw [repLcons] at r
      obtain ⟨v, ws, rfl, r1, r2⟩ := r
      rw [repLcons] at r2
      obtain ⟨v2, ws2, rfl, r2, r3⟩ := r2
      rw [repLnil] at r3
      subst r3
      exact ⟨v, v2, rfl, en.nx S1 _ _ H1 ex ((st1.store r1).store r2) q⟩
    | [] => exact q.elim
    | [_] => exact q.elim
    | _ :: _ :: _ :: _ => exact q.elim⟩⟩
/-- an expression that reads own containers, with an end that bears no address -/
def D.flat : D → Bool
  | .non => true
  | .bl _ => true
  | .int _ => true
  | .str _ => true
  | _ => false
theorem Rep.flat {G : Gd} {S S' : Hid} {H H' : Hp} {d : D} {v : V} (h : Rep G S H d v) (f : d.flat = true) : Rep G S' H' d v := by
  cases d with
  | non => rw [repNon] at h ⊢; exact h
  | bl b => rw [repBl] at h ⊢; exact h
  | int b => rw [repInt] at h ⊢; exact h
  | str b => rw [repStr] at h ⊢; exact h
  | _ => cases f
end
end Q
set_option Elab.async false
set_option linter.all false
set_option maxRecDepth 100000
set_option maxHeartbeats 2000000
/-! QEnum: enumerate over a tuple. -/
namespace Q
open PySem PySem.Spec PyProof.Rows L2
theorem meets_enum_newT (l : Addr) (items : Array Value) :
    Meets (Builtin.«enumerate.__new__» ⟨[.type "enumerate", .ref l], []⟩) (fun _ R s => s.heap.IsTuple l items ∧
      R (.ok (.ret (.ref (s.heap.push { cls := .type "tuple_iterator", data := .fields #[.ref l, .int 0 0] }).objs.size)))
        { s with heap := (s.heap.push { cls := .type "tuple_iterator", data := .fields #[.ref l, .int 0 0] }).push { cls := .type "enumerate", data := .fields #[.none, .bool false, .ref s.heap.objs.size, rawInt 0, .none, .none] } }) :=
  .of_wp fun prog w A R s h => by
    obtain ⟨hp, g, d, tk, os⟩ := s; obtain ⟨hl, h⟩ := h
    have hsub := sub_enumerate
    have q1 : ∀ {A' : Around} {E : Value → Shared → Prop} {Q : Value → Shared → Prop}, Q (.ref hp.objs.size) ⟨hp.push { cls := .type "tuple_iterator", data := .fields #[.ref l, .int 0 0] }, g, d, tk, os⟩ → wpAny (model prog w) A' (pyIter (.ref l)) Q E ⟨hp, g, d, tk, os⟩ :=
      fun q => wpAny_pyIter_tuple (s := ⟨hp, g, d, tk, os⟩) hl q
    wp_walk using q1
    refine wpAny_stack_any fun st => wpAny_pure ?_
    split
    · rename_i c _ _ _ _ _
      cases (c == Value.type "enumerate")
      · wp_walk using q1
        exact ⟨_, rfl, h⟩
      · wp_walk using q1
        exact ⟨_, rfl, h⟩
    · wp_walk using q1
      exact ⟨_, rfl, h⟩
section
variable {prog : Program} {w : World} {A : Around} {E : Value → Shared → Prop} {s : Shared}
theorem call_enumerate_tup {l : Addr} {items : Array Value} {Q : Value → Shared → Prop} (hL : s.heap.IsTuple l items)
    (h : ∀ h', IsEnum h' (s.heap.objs.size + 1) s.heap.objs.size 0 .none → h'.IsTupleIter s.heap.objs.size l 0 → h'.objs.size = s.heap.objs.size + 2 →
      (∀ b o, s.heap.get? b = some o → h'.get? b = some o) → Q (.ref (s.heap.objs.size + 1)) { s with heap := h' }) :
    wpAny (model prog w) A (call (.type "enumerate") [.ref l]) Q E s := by
  refine callType_new F.called_enumerate (by decide) (F.typeCall_enumerate_1 _) (F.newCall_enumerate_1 _) (fun obj => F.args_object_init_2 obj _) F.entry_enumerate_new
    (meets_enum_newT l items) ⟨hL, ?_⟩
  have hz : (s.heap.push { cls := .type "tuple_iterator", data := .fields #[.ref l, .int 0 0] }).objs.size = s.heap.objs.size + 1 := Heap.size_push ..
  show _ ∧ _
  rw [hz]
  have he : IsEnum ((s.heap.push { cls := .type "tuple_iterator", data := .fields #[.ref l, .int 0 0] }).push
      { cls := .type "enumerate", data := .fields #[.none, .bool false, .ref s.heap.objs.size, rawInt 0, .none, .none] }) (s.heap.objs.size + 1) s.heap.objs.size 0 .none := by
    have := Heap.get?_push_size (s.heap.push { cls := .type "tuple_iterator", data := .fields #[.ref l, .int 0 0] })
      (o := { cls := .type "enumerate", data := .fields #[.none, .bool false, .ref s.heap.objs.size, rawInt 0, .none, .none] }) rfl
    rw [hz] at this; exact this
  refine ⟨⟨_, he, rfl⟩, h _ he ⟨_, Heap.get?_push_of_some _ (Heap.get?_push_size _ rfl), rfl, rfl⟩ (by rw [Heap.size_push, hz]) fun b o x => Heap.get?_push_of_some _ (Heap.get?_push_of_some _ x)⟩
end
/-- the tuple at a, each item in a new pair -/
def IteT (K : PySem.W.Frag) (a : Addr) : It :=
  ⟨fun i H => ∃ (xs : List V) (x : V), SqT K H a xs ∧ xs[i]? = some x, fun i H v H' => ∃ T x, v = .ref T ∧ H T = none ∧ H' = upd H T (.tup [.int (i : Nat), x]) ∧ ∀ xs, SqT K H a xs → xs[i]? = some x, fun i H => ∃ xs : List V, SqT K H a xs ∧ xs.length ≤ i⟩
theorem turn_enumT {P : Program} {w : World} {K : PySem.W.Frag} {elts : List Expr} {kk : Nat} {tpos : Pos} (a e it : Addr) (hai : a ≠ it) (hea : e ≠ a) :
    Turn P w K (.Tuple elts kk tpos) (IteT K a) [e, it] e (fun i h => (∃ old, IsEnum h e it ((i : Nat) : Int) old) ∧ h.IsTupleIter it a i ∧ e ≠ it) where
  mem := by simp
  obj := fun i h st b hb => by
    obtain ⟨⟨old, he⟩, ⟨o, ho, hc, hd⟩, _⟩ := st
    have e' : b = e ∨ b = it := by simpa using hb
    rcases e' with z | z
    · rw [z]; exact ⟨_, he, fun v q => nomatch q⟩
    · rw [z]; exact ⟨o, ho, fun v q => by rw [hd] at q; cases q⟩
  keep := fun i h h' st k => let ⟨⟨old, he⟩, hi, hne⟩ := st; ⟨⟨old, k e (by simp) _ he⟩, hi.at fun o q => k it (by simp) o q, hne⟩
  item := by
    intro X hP hw hK hc i pins s σ H E I hf st hg
    subst hP hw hK
    obtain ⟨⟨old, he⟩, hit, hne⟩ := st
    obtain ⟨xs, x, hq, hx⟩ := hg
    obtain ⟨its, rv, p, hz⟩ := I.tuple hq
    obtain ⟨u, hu, ru⟩ := rv.get hx
    have hel : e < s.heap.objs.size := Heap.lt_size he
    have hil : it < s.heap.objs.size := by obtain ⟨_, q, _⟩ := hit; exact Heap.lt_size q
    have hin : X.A.in1.handled = none := I.ok.hd hc
    have hilt : i < its.toArray.size := by
      have := rv.length
      have h2 := (List.getElem?_eq_some_iff.mp hx).1
      simp; omega
    refine wpAny_pyNext_enum_itemD (Draws.tuple (prog := X.prog) (w := X.w) (A := X.A.in1) hin it a hai its.toArray) he ⟨hit, (show s.heap.IsTuple a its.toArray from p)⟩ hilt hne (by
      intro z
      have z' : e = it ∨ e = a := by simpa using z
      exact z'.elim hne hea) fun x' h' tk hP ho hst hT hsz hk => ?_
    have exu : x' = u := by
      have h1 : its.toArray[i]? = some x' := hP
      have h2 : its.toArray[i]? = some u := by simpa using hu
      rw [h1] at h2
      exact Option.some.inj h2
    subst exu
    obtain ⟨hit', _⟩ := hst
    refine ⟨_, rfl, wpAny_letOwnedTupleGo_enum (s := { s with heap := h', toks := tk + 1 }) ho fun h'' he' sb => ?_⟩
    have hT2 : h''.get? s.heap.objs.size = some { cls := .type "tuple", data := .seq #[.int i tk, x'] } := (sb.2 _ (Nat.ne_of_gt hel)).trans hT
    have new : ObjOk X.prog X.w (upd H s.heap.objs.size (.tup [.int (i : Nat), x])) h'' s.heap.objs.size (.tup [.int (i : Nat), x]) :=
      ⟨by show 2 ≤ sizeLine; decide, [.int i tk, x'], .cons ⟨_, rfl⟩ (.cons ru .nil), ⟨_, hT2, rfl, _, rfl⟩⟩
    have I1 : Inv X pins σ (upd H s.heap.objs.size (.tup [.int (i : Nat), x])) { s with heap := h'', toks := tk + 1 } :=
      I.turnedNew (ch := [e, it]) (fun b ob hb q => (sb.2 b (fun z => hb (by simp [z]))).trans (hk b ob (fun z => hb (by simp [z])) (fun z => hb (by simp [z])) q)) hf (Nat.le_refl _) new
    refine ⟨.ref s.heap.objs.size, _, I1, rfl, ⟨_, x, rfl, I.hok.fresh (Nat.le_refl _), rfl, fun ys hy => by rw [I.tuple_inj hy hq]; exact hx⟩, ⟨⟨x', ?_⟩, hit'.at fun o q => (sb.2 it (Ne.symm hne)).trans q, hne⟩, fun b hb => ?_⟩
    · have e1 : ((i + 1 : Nat) : Int) = (i : Int) + 1 := by omega
      rw [e1]; exact he'
    · have hb' : b < s.heap.objs.size := by
        have e' : b = e ∨ b = it := by simpa using hb
        rcases e' with z | z
        · rw [z]; exact hel
        · rw [z]; exact hil
      rw [upd_ne (Nat.ne_of_lt hb')]
      exact (hf b hb).1
  done := by
    intro X hP hw hK hc i pins s σ H E I hf st hg
    subst hP hw hK
    obtain ⟨⟨old, he⟩, hit, hne⟩ := st
    obtain ⟨xs, hq, hx⟩ := hg
    obtain ⟨its, rv, p, hz⟩ := I.tuple hq
    obtain ⟨f0, f1, f2, f3, f4, f5⟩ := hf it (by simp)
    have hl := rv.length
    have hT : s.TypeIs (.ref e) "enumerate" := ⟨_, he, rfl⟩
    have hin : X.A.in1.handled = none := I.ok.hd hc
    unfold pyNext
    refine wpAny_bind (wpAny_attempt (wpAny_callSpecial?_slot (name := Str.ofString "__next__") hT F.slot_enumerate_next
      (wpAny_call_entry F.slot_enumerate_next hT F.entry_enumerate_next ?_ (F.args_enumerate_next_1 _))))
    show wpAny _ _ (field (.ref e) 2 >>= _) _ _ _
    refine wpAny_bind (wpAny_field he rfl (x := .ref it) rfl ?_)
    refine wpAny_bind (wpAny_nextOf_tuple_end hin hit (show s.heap.IsTuple a its.toArray from p) (by simp; omega) fun h' x he' hx' => ?_)
    obtain ⟨o, ho, hc'⟩ := hx'
    refine wpAny_bind (wpAny_isInstance (T := "StopIteration") (b := true) ⟨o, ho, hc'⟩ isSubtype_stop ?_)
    exact wpAny_pure ⟨rfl, I.turned (t' := s.toks) (fun b o hb q => he' b o hb q) f0 f1 f3 f4 f5⟩
  self := fun A i s Q E st h => let ⟨⟨_, he⟩, _⟩ := st; wpAny_pyIter_enum he h
def iEnumA (K : PySem.W.Frag) (ta : TA) : TI := fun σ H R => ta σ H fun vs H1 => ∃ a xs, vs = [.ref a] ∧ ((SqL K H1 a xs ∧ R (Ite K a) H1) ∨ (SqT K H1 a xs ∧ R (IteT K a) H1))
theorem pi_enumA {X : Cx} {e : Expr} {ta : TA} {p pos tpos : Pos} {elts : List Expr} {kk : Nat} (hg : Gl X "enumerate") (hm : X.mg "enumerate" = none) (ha : PA X [e] ta) (hs : starEach [e] X.env = [(false, eval e X.env)] := by rfl) :
    PI X (.Tuple elts kk tpos) (.Call (.Name "enumerate" p) [e] [] pos) (iEnumA X.K ta) := by
  refine ⟨fun pins s σ H R I h => ?_⟩
  refine Call_ (ld_blt I hg hm boot_enumerate (PyProof.Rows.callWith_type1 (thn (ha.run pos pins s σ H _ I h) fun us s1 ⟨vs, H1, I1, r1, q1⟩ => ?_) hs rfl))
  obtain ⟨a, xs, ex, q1⟩ := q1
  subst ex
  cases r1 with
  | cons r rr =>
    cases rr
    cases r
    have fresh2 : ∀ b, b ∈ [s1.heap.objs.size + 1, s1.heap.objs.size] → FpOk X pins H1 b := fun b hb => by
      have e' : b = s1.heap.objs.size + 1 ∨ b = s1.heap.objs.size := by simpa using hb
      have hle : s1.heap.objs.size ≤ b := by
        rcases e' with z | z
        · rw [z]; exact Nat.le_add_right _ _
        · rw [z]; exact Nat.le_refl _
      exact I1.fpOk hle (I1.hok.fresh hle)
    rcases q1 with ⟨hq, q⟩ | ⟨hq, q⟩
    · obtain ⟨its, rv, p', hz⟩ := I1.list hq
      refine call_enumerate_list p'.isList fun h' he hit hsz hk => wpAny_pyIter_enum he ?_
      have I2 : Inv X pins σ H1 { s1 with heap := h' } := I1.kept (t' := s1.toks) hk
      exact ⟨s1.heap.objs.size + 1, [s1.heap.objs.size + 1, s1.heap.objs.size], _, _, H1, rfl, I2, turn_enum a (s1.heap.objs.size + 1) s1.heap.objs.size, ⟨⟨.none, he⟩, hit, Nat.succ_ne_self _⟩, fresh2, q⟩
    · obtain ⟨its, rv, p', hz⟩ := I1.tuple hq
      have hlt : a < s1.heap.objs.size := p'.lt
      refine call_enumerate_tup (show s1.heap.IsTuple a its.toArray from p') fun h' he hit hsz hk => wpAny_pyIter_enum he ?_
      have I2 : Inv X pins σ H1 { s1 with heap := h' } := I1.kept (t' := s1.toks) hk
      exact ⟨s1.heap.objs.size + 1, [s1.heap.objs.size + 1, s1.heap.objs.size], _, _, H1, rfl, I2, turn_enumT a (s1.heap.objs.size + 1) s1.heap.objs.size (Nat.ne_of_lt hlt) (Nat.ne_of_gt (Nat.lt_succ_of_lt hlt)), ⟨⟨.none, he⟩, hit, Nat.succ_ne_self _⟩, fresh2, q⟩
end Q
set_option Elab.async false
set_option linter.all false
set_option maxRecDepth 100000
set_option maxHeartbeats 2000000
/-! QLoop: what is walked; for; comprehensions. -/
namespace Q
open PySem PySem.Spec PyProof.Rows L2

/-- J walks the data ds; what is seen at S, H has to stand -/
structure DWalk (G : Gd) (J : It) (ds : List D) (S : Hid) (H : Hp) : Prop where
  goes : ∀ i S' H', i < ds.length → Ext S H S' H' → J.go i H'
  stops : ∀ S' H', Ext S H S' H' → J.stop ds.length H'
  yields : ∀ (i : Nat) S' H' x H'', i < ds.length → Ext S H S' H' → (∀ a, S' a → ∃ o, H' a = some o) → J.yld i H' x H'' → Same H' H'' ∧ ∀ d, ds[i]? = some d → Rep G S' H'' d x
def LI (X : Cx) (kx : XC) (β : Base) (w : WA) : TI := fun σ H R => XOk X β kx ∧ ∃ S ρ k, StOk (gd X) β S ρ σ H ∧ w ρ k ∧ ∀ ds ρ' J H' S', Ext S H S' H' → StOk (gd X) β S' ρ' σ H' → k ds ρ' → DWalk (gd X) J ds S' H' → R J H'
structure DI (X : Cx) (kx : XC) (tg e : Expr) (w : WA) : Prop where
  run : ∀ β, PI X tg e (LI X kx β w)
section
variable {X : Cx} {kx : XC} {tg e e1 e2 : Expr} {es : List Expr} {w w1 w2 : WE} {wa : WA} {pos p tpos : Pos}
theorem PI.imp {t t' : TI} (h : PI X tg e t) (hi : ∀ σ H R, t' σ H R → t σ H R) : PI X tg e t' := ⟨fun pins s σ H R I q => h.run pins s σ H R I (hi σ H R q)⟩
theorem dwalk_list {G : Gd} {S : Hid} {H : Hp} {a : Addr} {ds : List D} {vs : List V} (hs : LstAt G.K S H a vs) (r : RepL G S H ds vs) : DWalk G (Itl G.K a) ds S H where
  goes := fun i S' H' hi ex => by
    have hl := r.length
    exact ⟨vs, vs[i]'(by omega), (hs.mono ex).seq, by simp [show i < vs.length by omega]⟩
  stops := fun S' H' ex => ⟨vs, (hs.mono ex).seq, Nat.le_of_eq r.length⟩
  yields := fun i S' H' x H'' _ ex hd y => by
    obtain ⟨e, y⟩ := y
    subst e
    have hx := y vs (hs.mono ex).seq
    refine ⟨Same.refl _, fun d e => ?_⟩
    obtain ⟨v, e1, e2⟩ := r.get e
    rw [hx] at e1; cases e1
    exact e2.up ex
theorem dwalk_tup {G : Gd} {S : Hid} {H : Hp} {a : Addr} {ds : List D} {vs : List V} (hs : TupAt G.K S H a vs) (r : RepL G S H ds vs) : DWalk G (Itt G.K a) ds S H where
  goes := fun i S' H' hi ex => by
    have hl := r.length
    exact ⟨vs, vs[i]'(by omega), (hs.mono ex).seq, by simp [show i < vs.length by omega]⟩
  stops := fun S' H' ex => ⟨vs, (hs.mono ex).seq, Nat.le_of_eq r.length⟩
  yields := fun i S' H' x H'' _ ex hd y => by
    obtain ⟨e, y⟩ := y
    subst e
    have hx := y vs (hs.mono ex).seq
    refine ⟨Same.refl _, fun d e => ?_⟩
    obtain ⟨v, e1, e2⟩ := r.get e
    rw [hx] at e1; cases e1
    exact e2.up ex
/-- over a list -/
def iL (w : WE) : WA := fun ρ k => w ρ fun d ρ1 => match d with
  | .lst ds => k ds ρ1
  | _ => False
def iT (w : WE) : WA := fun ρ k => w ρ fun d ρ1 => match d with
  | .tup ds => k ds ρ1
  | _ => False
theorem di_list (h : DE X kx e w) : DI X kx tg e (iL w) := ⟨fun β => PI.imp (pi_list (h.run β)) fun σ H R ⟨xk, S, ρ, k, st, hw, hk⟩ => ⟨xk, S, ρ, _, st, hw, fun d ρ1 v H1 S1 ex1 st1 r1 q => by
  cases d with
  | lst ds =>
    rw [repLst] at r1
    obtain ⟨a, vs, rfl, h1, h2⟩ := r1
    exact ⟨a, rfl, ⟨vs, h1.seq⟩, hk ds ρ1 _ H1 S1 ex1 st1 q (dwalk_list h1 h2)⟩
  | _ => exact q.elim⟩⟩
theorem di_tup (h : DE X kx e w) : DI X kx tg e (iT w) := ⟨fun β => PI.imp (pi_tup (h.run β)) fun σ H R ⟨xk, S, ρ, k, st, hw, hk⟩ => ⟨xk, S, ρ, _, st, hw, fun d ρ1 v H1 S1 ex1 st1 r1 q => by
  cases d with
  | tup ds =>
    rw [repTup] at r1
    obtain ⟨a, vs, rfl, h1, h2⟩ := r1
    exact ⟨a, rfl, ⟨vs, h1.seq⟩, hk ds ρ1 _ H1 S1 ex1 st1 q (dwalk_tup h1 h2)⟩
  | _ => exact q.elim⟩⟩
/-- lo, lo + 1, .. -/
def seqI (lo : Int) (n : Nat) : List D := (List.range n).map fun i : Nat => D.int (lo + (i : Int))
theorem seqI_get {lo : Int} {n i : Nat} {d : D} (e : (seqI lo n)[i]? = some d) : d = .int (lo + (i : Int)) := by
  unfold seqI at e
  rw [List.getElem?_map] at e
  cases q : (List.range n)[i]? with
  | none => rw [q] at e; cases e
  | some j =>
    rw [q] at e
    obtain ⟨h1, h2⟩ := List.getElem?_eq_some_iff.mp q
    have hj : j = i := by simpa using h2.symm
    subst hj
    cases e
    rfl
theorem dwalk_range {G : Gd} {S : Hid} {H : Hp} {lo : Int} {n : Nat} : DWalk G (Itr lo n) (seqI lo n) S H where
  goes := fun i S' H' hi ex => by
    have : i < (seqI lo n).length := hi
    show i < n
    simpa [seqI] using this
  stops := fun S' H' ex => by show n ≤ (seqI lo n).length; simp [seqI]
  yields := fun i S' H' x H'' _ ex hd y => by
    obtain ⟨e, y⟩ := y
    subst e y
    refine ⟨Same.refl _, fun d e => ?_⟩
    rw [seqI_get e]
    exact repInt.mpr rfl
def iR1 (wa : WA) : WA := fun ρ k => wa ρ fun ds ρ1 => match ds with
  | [.int n] => (-(2 ^ 62) ≤ n ∧ n < 2 ^ 62) ∧ k (seqI 0 n.toNat) ρ1
  | _ => False
def iR2 (wa : WA) : WA := fun ρ k => wa ρ fun ds ρ1 => match ds with
  | [.int lo, .int hi] => (-(2 ^ 62) ≤ lo ∧ lo < 2 ^ 62 ∧ -(2 ^ 62) ≤ hi ∧ hi < 2 ^ 62) ∧ k (seqI lo (hi - lo).toNat) ρ1
  | _ => False
theorem rep1 {G : Gd} {S : Hid} {H : Hp} {d : D} {vs : List V} (h : RepL G S H [d] vs) : ∃ v, vs = [v] ∧ Rep G S H d v := by
  rw [repLcons] at h
  obtain ⟨v, ws, rfl, r, h⟩ := h
  rw [repLnil] at h
  subst h
  exact ⟨v, rfl, r⟩
theorem rep2 {G : Gd} {S : Hid} {H : Hp} {d e : D} {vs : List V} (h : RepL G S H [d, e] vs) : ∃ v w, vs = [v, w] ∧ Rep G S H d v ∧ Rep G S H e w := by
  rw [repLcons] at h
  obtain ⟨v, ws, rfl, r, h⟩ := h
  obtain ⟨w, rfl, r2⟩ := rep1 h
  exact ⟨v, w, rfl, r, r2⟩
theorem di_range1 (hg : Gl X "range") (hm : X.mg "range" = none) (ha : DA X kx [e] wa) (hs : starEach [e] X.env = [(false, eval e X.env)] := by rfl) : DI X kx tg (.Call (.Name "range" p) [e] [] pos) (iR1 wa) :=
  ⟨fun β => PI.imp (pi_range1 hg hm (ha.run β) hs) fun σ H R ⟨xk, S, ρ, k, st, hw, hk⟩ => ⟨xk, S, ρ, _, st, hw, fun ds ρ1 vs H1 S1 ex1 st1 r1 q => by
    unfold iR1 at hw
    split at q
    · rename_i n
      obtain ⟨v, rfl, r⟩ := rep1 r1
      rw [repInt] at r; subst r
      exact ⟨n, rfl, q.1.1, q.1.2, hk _ ρ1 _ H1 S1 ex1 st1 q.2 dwalk_range⟩
    · exact q.elim⟩⟩
theorem di_range2 (hg : Gl X "range") (hm : X.mg "range" = none) (ha : DA X kx [e, e2] wa) (hs : starEach [e, e2] X.env = [(false, eval e X.env), (false, eval e2 X.env)] := by rfl) (hs2 : starEach [e2] X.env = [(false, eval e2 X.env)] := by rfl) : DI X kx tg (.Call (.Name "range" p) [e, e2] [] pos) (iR2 wa) :=
  ⟨fun β => PI.imp (pi_range2 hg hm (ha.run β) hs hs2) fun σ H R ⟨xk, S, ρ, k, st, hw, hk⟩ => ⟨xk, S, ρ, _, st, hw, fun ds ρ1 vs H1 S1 ex1 st1 r1 q => by
    unfold iR2 at hw
    split at q
    · rename_i lo hi
      obtain ⟨v, v2, rfl, r, r'⟩ := rep2 r1
      rw [repInt] at r r'; subst r; subst r'
      exact ⟨lo, hi, rfl, q.1, hk _ ρ1 _ H1 S1 ex1 st1 q.2 dwalk_range⟩
    · exact q.elim⟩⟩
/-- the signs of a text -/
def signs (x : Str) : List D := x.cps.toList.map fun c => D.str ⟨#[c]⟩
def iS (w : WE) : WA := fun ρ k => w ρ fun d ρ1 => match d with
  | .str x => k (signs x) ρ1
  | _ => False
theorem dwalk_str {G : Gd} {S : Hid} {H : Hp} {x : Str} : DWalk G (Its x) (signs x) S H where
  goes := fun i S' H' hi ex => by
    have : i < (signs x).length := hi
    show i < x.cps.size
    simpa [signs] using this
  stops := fun S' H' ex => by show x.cps.size ≤ (signs x).length; simp [signs]
  yields := fun i S' H' v H'' _ ex hd y => by
    obtain ⟨e, c, y1, y2⟩ := y
    subst e y2
    refine ⟨Same.refl _, fun d e => ?_⟩
    unfold signs at e
    rw [List.getElem?_map, Array.getElem?_toList, y1] at e
    cases e
    exact repStr.mpr rfl
theorem di_str (h : DE X kx e w) : DI X kx tg e (iS w) := ⟨fun β => PI.imp (pi_str (h.run β)) fun σ H R ⟨xk, S, ρ, k, st, hw, hk⟩ => ⟨xk, S, ρ, _, st, hw, fun d ρ1 v H1 S1 ex1 st1 r1 q => by
  cases d with
  | str x =>
    rw [repStr] at r1
    subst r1
    exact ⟨x, rfl, hk _ ρ1 _ H1 S1 ex1 st1 q dwalk_str⟩
  | _ => exact q.elim⟩⟩
/-- the items with their places -/
def enumD (ds : List D) : List D := (List.range ds.length).zipWith (fun (i : Nat) d => D.tup [.int (i : Int), d]) ds
theorem enumD_get {ds : List D} {i : Nat} {d : D} (e : (enumD ds)[i]? = some d) : ∃ x, ds[i]? = some x ∧ d = .tup [.int (i : Int), x] := by
  unfold enumD at e
  rw [List.getElem?_zipWith] at e
  cases q : (List.range ds.length)[i]? with
  | none => rw [q] at e; cases e
  | some j =>
    rw [q] at e
    obtain ⟨h1, h2⟩ := List.getElem?_eq_some_iff.mp q
    have hj : j = i := by simpa using h2.symm
    subst hj
    cases q2 : ds[j]? with
    | none => rw [q2] at e; cases e
    | some x =>
      rw [q2] at e
      cases e
      exact ⟨x, rfl, rfl⟩
theorem enumD_len (ds : List D) : (enumD ds).length = ds.length := by simp [enumD]
theorem rep_pair {G : Gd} {S : Hid} {H : Hp} {T : Addr} {a b : V} {x y : D} (hn : H T = none) (hd : ∀ a, S a → ∃ o, H a = some o) (r1 : Rep G S H x a) (r2 : Rep G S H y b) : Rep G S (upd H T (.tup [a, b])) (.tup [x, y]) (.ref T) := by
  have nS : ¬ S T := fun z => by obtain ⟨o, q⟩ := hd T z; rw [hn] at q; cases q
  exact repTup.mpr ⟨T, [a, b], rfl, .inl ⟨nS, .inl upd_same⟩, repLcons.mpr ⟨a, [b], rfl, r1.up (.same (same_upd hn)), RepL.one (r2.up (.same (same_upd hn)))⟩⟩
theorem dwalk_enumL {G : Gd} {S : Hid} {H : Hp} {a : Addr} {ds : List D} {vs : List V} (hs : LstAt G.K S H a vs) (r : RepL G S H ds vs) : DWalk G (Ite G.K a) (enumD ds) S H where
  goes := fun i S' H' hi ex => by
    have hl := r.length
    rw [enumD_len] at hi
    exact ⟨vs, vs[i]'(by omega), (hs.mono ex).seq, by simp [show i < vs.length by omega]⟩
  stops := fun S' H' ex => ⟨vs, (hs.mono ex).seq, Nat.le_of_eq (by rw [enumD_len]; exact r.length)⟩
  yields := fun i S' H' x H'' _ ex hd y => by
    obtain ⟨T, v, e1, e2, e3, e4⟩ := y
    subst e1 e3
    have hx := e4 vs (hs.mono ex).seq
    refine ⟨same_upd e2, fun d e => ?_⟩
    obtain ⟨x', h1, rfl⟩ := enumD_get e
    obtain ⟨v', h2, h3⟩ := r.get h1
    rw [hx] at h2; cases h2
    exact rep_pair e2 hd (repInt.mpr rfl) (h3.up ex)
theorem dwalk_enumT {G : Gd} {S : Hid} {H : Hp} {a : Addr} {ds : List D} {vs : List V} (hs : TupAt G.K S H a vs) (r : RepL G S H ds vs) : DWalk G (IteT G.K a) (enumD ds) S H where
  goes := fun i S' H' hi ex => by
    have hl := r.length
    rw [enumD_len] at hi
    exact ⟨vs, vs[i]'(by omega), (hs.mono ex).seq, by simp [show i < vs.length by omega]⟩
  stops := fun S' H' ex => ⟨vs, (hs.mono ex).seq, Nat.le_of_eq (by rw [enumD_len]; exact r.length)⟩
  yields := fun i S' H' x H'' _ ex hd y => by
    obtain ⟨T, v, e1, e2, e3, e4⟩ := y
    subst e1 e3
    have hx := e4 vs (hs.mono ex).seq
    refine ⟨same_upd e2, fun d e => ?_⟩
    obtain ⟨x', h1, rfl⟩ := enumD_get e
    obtain ⟨v', h2, h3⟩ := r.get h1
    rw [hx] at h2; cases h2
    exact rep_pair e2 hd (repInt.mpr rfl) (h3.up ex)
def iEn (wa : WA) : WA := fun ρ k => wa ρ fun ds ρ1 => match ds with
  | [.lst ds] => k (enumD ds) ρ1
  | [.tup ds] => k (enumD ds) ρ1
  | _ => False
theorem di_enum {elts : List Expr} {kk : Nat} (hg : Gl X "enumerate") (hm : X.mg "enumerate" = none) (ha : DA X kx [e] wa) (hs : starEach [e] X.env = [(false, eval e X.env)] := by rfl) :
    DI X kx (.Tuple elts kk tpos) (.Call (.Name "enumerate" p) [e] [] pos) (iEn wa) :=
  ⟨fun β => PI.imp (pi_enumA hg hm (ha.run β) hs) fun σ H R ⟨xk, S, ρ, k, st, hw, hk⟩ => ⟨xk, S, ρ, _, st, hw, fun ds ρ1 vs H1 S1 ex1 st1 r1 q => by
    split at q
    · obtain ⟨v, rfl, r⟩ := rep1 r1
      rw [repLst] at r
      obtain ⟨a, vs, rfl, h1, h2⟩ := r
      exact ⟨a, vs, rfl, .inl ⟨h1.seq, hk _ ρ1 _ H1 S1 ex1 st1 q (dwalk_enumL h1 h2)⟩⟩
    · obtain ⟨v, rfl, r⟩ := rep1 r1
      rw [repTup] at r
      obtain ⟨a, vs, rfl, h1, h2⟩ := r
      exact ⟨a, vs, rfl, .inr ⟨h1.seq, hk _ ρ1 _ H1 S1 ex1 st1 q (dwalk_enumT h1 h2)⟩⟩
    · exact q.elim⟩⟩
/-- two in a row -/
def zipD (ds es : List D) : List D := ds.zipWith (fun d e => D.tup [d, e]) es
theorem zipD_get {ds es : List D} {i : Nat} {d : D} (e : (zipD ds es)[i]? = some d) : ∃ x y, ds[i]? = some x ∧ es[i]? = some y ∧ d = .tup [x, y] := by
  unfold zipD at e
  rw [List.getElem?_zipWith] at e
  cases q : ds[i]? with
  | none => rw [q] at e; cases e
  | some x =>
    rw [q] at e
    cases q2 : es[i]? with
    | none => rw [q2] at e; cases e
    | some y =>
      rw [q2] at e
      cases e
      exact ⟨x, y, rfl, rfl, rfl⟩
theorem zipD_len (ds es : List D) : (zipD ds es).length = min ds.length es.length := by simp [zipD]
theorem dwalk_zipL {G : Gd} {S : Hid} {H : Hp} {a b : Addr} {ds es : List D} {vs ws : List V} (hs : LstAt G.K S H a vs) (r : RepL G S H ds vs) (hs' : LstAt G.K S H b ws) (r' : RepL G S H es ws) : DWalk G (Itz G.K a b) (zipD ds es) S H where
  goes := fun i S' H' hi ex => by
    have hl := r.length
    have hl' := r'.length
    rw [zipD_len] at hi
    exact ⟨vs, ws, vs[i]'(by omega), ws[i]'(by omega), (hs.mono ex).seq, (hs'.mono ex).seq, by simp [show i < vs.length by omega], by simp [show i < ws.length by omega]⟩
  stops := fun S' H' ex => ⟨vs, ws, (hs.mono ex).seq, (hs'.mono ex).seq, by rw [zipD_len, r.length, r'.length]; omega⟩
  yields := fun i S' H' x H'' _ ex hd y => by
    obtain ⟨T, v, w, e1, e2, e3, e4, e5⟩ := y
    subst e1 e3
    have hx := e4 vs (hs.mono ex).seq
    have hy := e5 ws (hs'.mono ex).seq
    refine ⟨same_upd e2, fun d e => ?_⟩
    obtain ⟨x', y', h1, h1', rfl⟩ := zipD_get e
    obtain ⟨v', h2, h3⟩ := r.get h1
    obtain ⟨w', h4, h5⟩ := r'.get h1'
    rw [hx] at h2; cases h2
    rw [hy] at h4; cases h4
    exact rep_pair e2 hd (h3.up ex) (h5.up ex)
theorem dwalk_zipT {G : Gd} {S : Hid} {H : Hp} {a b : Addr} {ds es : List D} {vs ws : List V} (hs : TupAt G.K S H a vs) (r : RepL G S H ds vs) (hs' : TupAt G.K S H b ws) (r' : RepL G S H es ws) : DWalk G (RZ.ItzT G.K a b) (zipD ds es) S H where
  goes := fun i S' H' hi ex => by
    have hl := r.length
    have hl' := r'.length
    rw [zipD_len] at hi
    exact ⟨vs, ws, vs[i]'(by omega), ws[i]'(by omega), (hs.mono ex).seq, (hs'.mono ex).seq, by simp [show i < vs.length by omega], by simp [show i < ws.length by omega]⟩
  stops := fun S' H' ex => ⟨vs, ws, (hs.mono ex).seq, (hs'.mono ex).seq, by rw [zipD_len, r.length, r'.length]; omega⟩
  yields := fun i S' H' x H'' _ ex hd y => by
    obtain ⟨T, v, w, e1, e2, e3, e4, e5⟩ := y
    subst e1 e3
    have hx := e4 vs (hs.mono ex).seq
    have hy := e5 ws (hs'.mono ex).seq
    refine ⟨same_upd e2, fun d e => ?_⟩
    obtain ⟨x', y', h1, h1', rfl⟩ := zipD_get e
    obtain ⟨v', h2, h3⟩ := r.get h1
    obtain ⟨w', h4, h5⟩ := r'.get h1'
    rw [hx] at h2; cases h2
    rw [hy] at h4; cases h4
    exact rep_pair e2 hd (h3.up ex) (h5.up ex)
def iZp (wa : WA) : WA := fun ρ k => wa ρ fun ds ρ1 => match ds with
  | [.lst ds, .lst es] => k (zipD ds es) ρ1
  | [.tup ds, .tup es] => k (zipD ds es) ρ1
  | _ => False
theorem di_zip {elts : List Expr} {kk : Nat} (hg : Gl X "zip") (hm : X.mg "zip" = none) (ha : DA X kx [e, e2] wa) (hs : starEach [e, e2] X.env = (false, eval e X.env) :: starEach [e2] X.env := by rfl) (hpl : (backTo pos (starEach [e2] X.env)).any (·.1) = false := by rfl) :
    DI X kx (.Tuple elts kk tpos) (.Call (.Name "zip" p) [e, e2] [] pos) (iZp wa) :=
  ⟨fun β => PI.imp (RZ.pi_zipA hg hm (ha.run β) hs hpl) fun σ H R ⟨xk, S, ρ, k, st, hw, hk⟩ => ⟨xk, S, ρ, _, st, hw, fun ds ρ1 vs H1 S1 ex1 st1 r1 q => by
    split at q
    · obtain ⟨v, v2, rfl, r, r'⟩ := rep2 r1
      rw [repLst] at r r'
      obtain ⟨a, vs, rfl, h1, h2⟩ := r
      obtain ⟨b, ws, rfl, h3, h4⟩ := r'
      exact ⟨a, b, vs, ws, rfl, .inl ⟨h1.seq, h3.seq, hk _ ρ1 _ H1 S1 ex1 st1 q (dwalk_zipL h1 h2 h3 h4)⟩⟩
    · obtain ⟨v, v2, rfl, r, r'⟩ := rep2 r1
      rw [repTup] at r r'
      obtain ⟨a, vs, rfl, h1, h2⟩ := r
      obtain ⟨b, ws, rfl, h3, h4⟩ := r'
      exact ⟨a, b, vs, ws, rfl, .inr ⟨h1.seq, h3.seq, hk _ ρ1 _ H1 S1 ex1 st1 q (dwalk_zipT h1 h2 h3 h4)⟩⟩
    · exact q.elim⟩⟩

/-! ### for -/
def forL (g : WG) (wb : WS) (N : DN) : List D → Ev → Prop
  | [], ρ => N.nx ρ
  | d :: ds, ρ => g d ρ fun ρ1 => wb ⟨fun ρ2 => forL g wb N ds ρ2, N.rt, N.nx, fun ρ2 => forL g wb N ds ρ2, N.rf⟩ ρ1
def sFor (wi : WA) (g : WG) (wb : WS) : WS := fun N ρ => wi ρ fun ds ρ1 => forL g wb N ds ρ1
theorem ds_for {is : List Nat} {g : WG} {body : List Stmt} {wb : WS} {wi : WA} (hp : PassesOwn (model X.prog X.w) X.A X.env X.xe) (hc : X.calm = true) (hi : DI X kx tg e wi) (hg : DG X tg is g) (hb : DSs X kx body wb)
    (hs : ∀ x, foldedSetIterable e X.env x = pure x := by intro _; rfl) : DS X kx (.For tg e body [] pos) (sFor wi g wb) :=
  ⟨fun β => PS.imp (ps_for hp hc (hi.run β) (hg.run β) (hb.run β) hs) fun Dn σ H ⟨xk, S, ρ, N, st, en, hw⟩ => ⟨xk, S, ρ, _, st, hw, fun ds ρ1 J H1 S1 ex1 st1 q wk => by
    refine ⟨fun i m σ' H' => m = ds.length - i ∧ i ≤ ds.length ∧ ∃ S' ρ', Ext S1 H1 S' H' ∧ StOk (gd X) β S' ρ' σ' H' ∧ forL g wb N (ds.drop i) ρ', ⟨ds.length, by simp, Nat.zero_le _, S1, ρ1, .refl, st1, q⟩, ?_⟩
    rintro i m σ2 H2 ⟨rfl, hi, S2, ρ2, ex2, st2, q2⟩
    by_cases hlt : i < ds.length
    · refine .inr ⟨wk.goes i S2 H2 hlt ex2, fun σ' H' => ∃ S' ρ', Ext S1 H1 S' H' ∧ StOk (gd X) β S' ρ' σ' H' ∧ forL g wb N (ds.drop (i + 1)) ρ', ?_, ?_⟩
      · rintro σ' H' ⟨S', ρ', a, b, c⟩
        exact ⟨ds.length - (i + 1), by omega, rfl, hlt, S', ρ', a, b, c⟩
      · intro x H3 y
        obtain ⟨sm, rp⟩ := wk.yields i S2 H2 x H3 hlt ex2 st2.sdom y
        have ed : ds[i]? = some ds[i] := List.getElem?_eq_getElem hlt
        rw [List.drop_eq_getElem_cons hlt] at q2
        have st3 := st2.grow sm
        have ex3 : Ext S1 H1 S2 H3 := ex2.trans (.same sm)
        refine ⟨S2, ρ2, ds[i], _, st3, rp _ ed, q2, fun ρ4 σ4 H4 ex4 st4 _ _ q4 => ?_⟩
        have ex3 := ex3.trans ex4
        refine ⟨xk, S2, ρ4, _, st4, ⟨?_, ?_, ?_, ?_, ?_⟩, q4⟩
        · exact fun S' ρ5 σ5 H5 ex5 st5 q5 => ⟨S', ρ5, ex3.trans ex5, st5, q5⟩
        · exact fun S' ρ5 σ5 H5 d v ex5 st5 r5 q5 => en.rt S' ρ5 σ5 H5 d v (ex1.trans (ex3.trans ex5)) st5 r5 q5
        · exact fun S' ρ5 σ5 H5 ex5 st5 q5 => en.nx S' ρ5 σ5 H5 (ex1.trans (ex3.trans ex5)) st5 q5
        · exact fun S' ρ5 σ5 H5 ex5 st5 q5 => ⟨S', ρ5, ex3.trans ex5, st5, q5⟩
        · exact fun S' ρ5 σ5 H5 d p o ex5 st5 ow m nO q5 => en.rf S' ρ5 σ5 H5 d p o (ex1.trans (ex3.trans ex5)) st5 ow m nO q5
    · have e' : i = ds.length := by omega
      subst e'
      rw [List.drop_length] at q2
      exact .inl ⟨wk.stops S2 H2 ex2, en.nx S2 ρ2 σ2 H2 (ex1.trans ex2) st2 q2⟩⟩⟩
end
end Q
set_option Elab.async false
set_option linter.all false
set_option maxRecDepth 100000
set_option maxHeartbeats 2000000
/-! QComp: list comprehensions. -/
namespace Q
open PySem PySem.Spec PyProof.Rows L2
def lcL (vs : List Nat) (g : WG) (wt : WT) (we : WE) : List D → Ev → (List D → Ev → Prop) → Prop
  | [], ρ, k => k [] ρ
  | d :: ds, ρ, k => g d ρ fun ρ1 => wt ρ1 fun b ρ2 => if b = true then we ρ2 fun y ρ3 => lcL vs g wt we ds (ρ3.wipe vs) fun ys ρ4 => k (y :: ys) ρ4 else lcL vs g wt we ds (ρ2.wipe vs) k
def wLc (vs : List Nat) (wi : WA) (g : WG) (wt : WT) (we : WE) : WE := fun ρ k => wi ρ fun ds ρ1 => ds.length ≤ sizeLine ∧ lcL vs g wt we ds (ρ1.wipe vs) fun ys ρ2 => k (.lst ys) ρ2
structure DTs (X : Cx) (kx : XC) (ifs : List Expr) (w : WT) : Prop where
  run : ∀ β, PTs X ifs (LT X kx β w)
def wYes : WT := fun ρ k => k true ρ
/-- no error -/
def no : XC := fun _ _ => False
theorem xno {X : Cx} {β : Base} : XOk X β no := ⟨fun _ _ _ => False, takes0, fun _ _ _ _ _ _ _ _ _ _ _ _ _ _ h => h.elim⟩
/-- over some ground, without errors -/
def LEe (G : Gd) (w : WE) : TE := fun σ H Q => ∃ β S ρ k, StOk G β S ρ σ H ∧ w ρ k ∧ ∀ d ρ' v H' S', Ext S H S' H' → StOk G β S' ρ' σ H' → Rep G S' H' d v → k d ρ' → Q v H'
def LTe (G : Gd) (w : WT) : TT := fun σ H Q => ∃ β S ρ k, StOk G β S ρ σ H ∧ w ρ k ∧ ∀ b ρ' H' S', Ext S H S' H' → StOk G β S' ρ' σ H' → k b ρ' → Q b H'
def LGe (G : Gd) (is : List Nat) (w : WG) : TG := fun v σ H Q => ∃ β, LG G β is w v σ H Q
section
variable {X : Cx} {kx : XC}
theorem DE.e {e : Expr} {w : WE} (h : DE X no e w) : PE X e (LEe (gd X) w) := ⟨fun pins s σ H Q I ⟨β, q⟩ => (h.run β).run pins s σ H Q I ⟨xno, q⟩⟩
theorem DTs.e {e : List Expr} {w : WT} (h : DTs X no e w) : PTs X e (LTe (gd X) w) := ⟨fun pins s σ H Q I ⟨β, q⟩ => (h.run β).run pins s σ H Q I ⟨xno, q⟩⟩
theorem DG.e {e : Expr} {is : List Nat} {w : WG} (h : DG X e is w) : PG X e (LGe (gd X) is w) := ⟨fun pins s σ H v u Q I r ⟨β, q⟩ => (h.run β).run pins s σ H v u Q I r q⟩
theorem dts_nil : DTs X kx [] wYes := ⟨fun β => ⟨fun pins s σ H Q I h => pts_nil.run pins s σ H Q I (by
  obtain ⟨xk, S, ρ, k, st, hw, hk⟩ := h
  exact hk true ρ H S .refl st hw)⟩⟩
theorem dts_one {c : Expr} {w : WT} (h : DT X kx c w) : DTs X kx [c] w := ⟨fun β => pts_one (h.run β)⟩
theorem wipe_wipe {σ : L2.St} {vs : List Nat} : L2.wipe (L2.wipe σ vs) vs = L2.wipe σ vs := wipe_agree (L2.wipe_length σ vs) fun j hj => by rw [wipe_get, if_neg hj]
/-- the heart: the loop of the block -/
theorem lc_turns {G : Gd} {β : Base} {vs is : List Nat} {g : WG} {wt : WT} {we : WE} {ds : List D} {J : It} {σ : L2.St} {S1 : Hid} {H1 : Hp} {ρ1 : Ev} {k : List D → Ev → Prop} {p : Addr} {Qd : Hp → Prop}
    (hsub : ∀ j ∈ is, j ∈ vs) (st1 : StOk G β S1 ρ1 σ H1) (wk : DWalk G J ds S1 H1) (hz : ds.length ≤ sizeLine) (np : H1 p = none)
    (hl : lcL vs g wt we ds (ρ1.wipe vs) k)
    (hk : ∀ ys ρ' acc H' S', Ext S1 H1 S' H' → StOk G (β.with p (.lst acc)) S' ρ' σ H' → RepL G S' H' ys acc → k ys ρ' → Qd H') :
    ∃ W : Nat → Nat → Hp → Prop, (∃ m, W 0 m (upd H1 p (.lst []))) ∧ ∀ i m H, W i m H →
      (J.stop i H ∧ Qd H) ∨ (J.go i H ∧ ∃ Nx : Hp → Prop, (∀ H', Nx H' → ∃ m', m' < m ∧ W (i + 1) m' H') ∧ ∀ x H', J.yld i H x H' → (LGe G is g) x (L2.wipe σ vs) H' fun σ2 H2 => L2.wipe σ2 vs = L2.wipe σ vs ∧ (LTe G wt) σ2 H2 fun b H3 =>
        if b = true then (LEe G we) σ2 H3 fun y H4 => ∃ acc, H4 p = some (.lst acc) ∧ acc.length < sizeLine ∧ Nx (upd H4 p (.lst (acc ++ [y]))) else Nx H3) := by
  obtain ⟨nS, nO, nm⟩ := st1.new_mine np
  refine ⟨fun i m H => m = ds.length - i ∧ i ≤ ds.length ∧ ∃ S' ρ' acc ys kk, Ext S1 H1 S' H ∧ StOk G (β.with p (.lst acc)) S' ρ' (L2.wipe σ vs) H ∧ RepL G S' H ys acc ∧ ys.length ≤ i ∧ (∀ j ∈ vs, ρ'.get j = .un) ∧ lcL vs g wt we (ds.drop i) ρ' kk ∧ (∀ zs ρ4, kk zs ρ4 → k (ys ++ zs) ρ4), ⟨ds.length, by simp, Nat.zero_le _, _, ρ1.wipe vs, [], [], k, ext_take np, (st1.hide np).wipe vs, repLnil.mpr rfl, Nat.le_refl _, fun j hj => Ev.wipe_un hj, hl, fun zs ρ4 q => q⟩, ?_⟩
  rintro i m H ⟨rfl, hi, S2, ρ2, acc, ys, kk, ex2, st2, ry, hly, hun, q2, hkk⟩
  by_cases hlt : i < ds.length
  · refine .inr ⟨wk.goes i S2 H hlt ex2, fun H' => ∃ S' ρ' acc ys kk, Ext S1 H1 S' H' ∧ StOk G (β.with p (.lst acc)) S' ρ' (L2.wipe σ vs) H' ∧ RepL G S' H' ys acc ∧ ys.length ≤ i + 1 ∧ (∀ j ∈ vs, ρ'.get j = .un) ∧ lcL vs g wt we (ds.drop (i + 1)) ρ' kk ∧ (∀ zs ρ4, kk zs ρ4 → k (ys ++ zs) ρ4), ?_, ?_⟩
    · rintro H' ⟨S', ρ', acc', ys', kk', a, b, c, d, e, f, g'⟩
      exact ⟨ds.length - (i + 1), by omega, rfl, hlt, S', ρ', acc', ys', kk', a, b, c, d, e, f, g'⟩
    · intro x H3 y
      obtain ⟨sm, rp⟩ := wk.yields i S2 H x H3 hlt ex2 st2.sdom y
      have ed : ds[i]? = some ds[i] := List.getElem?_eq_getElem hlt
      rw [List.drop_eq_getElem_cons hlt] at q2
      have st3 := st2.grow sm
      have ex3 : Ext S1 H1 S2 H3 := ex2.trans (.same sm)
      have ry3 := ry.up (Ext.same (S := S2) sm)
      refine ⟨β.with p (.lst acc), S2, ρ2, ds[i], _, st3, rp _ ed, q2, fun ρ4 σ4 H4 ex4 st4 l4 o4 q4 => ?_⟩
      have ex3 := ex3.trans ex4
      have ry3 := ry3.up ex4
      have hw : L2.wipe σ4 vs = L2.wipe σ vs := by
        rw [← wipe_wipe (σ := σ)]
        exact wipe_agree l4 fun j hj => o4 j fun z => hj (hsub j z)
      refine ⟨hw, β.with p (.lst acc), S2, ρ4, _, st4, q4, fun b ρ5 H5 S5 ex5 st5 q5 => ?_⟩
      cases b with
      | false =>
        rw [if_neg Bool.false_ne_true] at q5 ⊢
        refine ⟨S5, ρ5.wipe vs, acc, ys, kk, ex3.trans ex5, ?_, ry3.up ex5, Nat.le_succ_of_le hly, fun j hj => Ev.wipe_un hj, q5, hkk⟩
        rw [← hw]
        exact st5.wipe vs
      | true =>
        rw [if_pos rfl] at q5 ⊢
        refine ⟨β.with p (.lst acc), S5, ρ5, _, st5, q5, fun d ρ6 v H6 S6 ex6 st6 r6 q6 => ?_⟩
        have hp : H6 p = some (.lst acc) := st6.frame p _ (.inr ⟨rfl, rfl⟩)
        have hlen : acc.length = ys.length := ry.length
        have hpS : S6 p := st6.oS p (.inr rfl)
        have ex7 : Ext S6 H6 S6 (upd H6 p (.lst (acc ++ [v]))) := Ext.but hpS fun a u n e => by rw [upd_ne n]; exact e
        refine ⟨acc, hp, by omega, S6, ρ6.wipe vs, acc ++ [v], ys ++ [d], _, ((ex3.trans ex5).trans ex6).trans ex7, ?_, (((ry3.up ex5).up ex6).append (RepL.one r6)).up ex7, by rw [List.length_append]; exact Nat.succ_le_succ hly, fun j hj => Ev.wipe_un hj, q6, fun zs ρ7 q7 => ?_⟩
        · rw [← hw]
          exact (st6.poke nm).wipe vs
        · rw [List.append_assoc]
          exact hkk _ _ q7
  · have e' : i = ds.length := by omega
    subst e'
    rw [List.drop_length] at q2
    refine .inl ⟨wk.stops S2 H ex2, hk ys ρ2 acc H S2 ex2 (st2.unwipe hun) ry ?_⟩
    have := hkk [] ρ2 q2
    rw [List.append_nil] at this
    exact this
/-- the block's own context -/
theorem df_lc {elt tg iter : Expr} {ifs : List Expr} {scope : Scope} {own : List (Str × Nat)} {is : List Nat} {pos : Pos} {wi : WA} {g : WG} {wt : WT} {we : WE} (hc : X.calm = true) (hN : X.N.Nodup) (hi : DI X kx tg iter wi) (ok : BlkOk X.N X.env.scope scope own)
    (hg : ∀ (s : Shared) (H : Hp) (C : Addr) (cl : List (Str × Addr)) (fp : List Addr), DG (X.blk s H scope (compEnvC scope cl C X.env) fp) tg is g) (ht : ∀ (s : Shared) (H : Hp) (C : Addr) (cl : List (Str × Addr)) (fp : List Addr), DTs (X.blk s H scope (compEnvC scope cl C X.env) fp) no ifs wt)
    (he : ∀ (s : Shared) (H : Hp) (C : Addr) (cl : List (Str × Addr)) (fp : List Addr), DE (X.blk s H scope (compEnvC scope cl C X.env) fp) no elt we) (hsub : ∀ j ∈ is, j ∈ own.map (·.2)) (hs : ∀ x, foldedSetIterable iter X.env x = pure x := by intro _; rfl) :
    DF X kx (.ListComp elt [⟨tg, iter, ifs, 0⟩] scope pos) (wLc (own.map (·.2)) wi g wt we) :=
  ⟨fun β => PE.imp (pe_lc (g := LGe (gd X) is g) (tt := LTe (gd X) wt) (te := LEe (gd X) we) hc hN (hi.run β) ok (fun s H C cl fp => (hg s H C cl fp).e) (fun s H C cl fp => (ht s H C cl fp).e) (fun s H C cl fp => (he s H C cl fp).e) hs) fun σ H Q ⟨xk, S, ρ, k, st, hw, hk⟩ =>
    ⟨xk, S, ρ, _, st, hw, fun ds ρ1 J H1 S1 ex1 st1 q wk p np => lc_turns hsub st1 wk q.1 np q.2 fun ys ρ' acc H' S' ex st' ry qq =>
      hk (.lst ys) ρ' p (.lst acc) H' S' (ex1.trans ex) st' ⟨acc, st'.frame p _ (.inr ⟨rfl, rfl⟩), ry⟩ (st1.new_mine np).2.2 (st1.new_mine np).2.1 qq⟩⟩
/-- name = [..] -/
theorem ds_setLc {i : Nat} {y : Str} {py : Pos} {elt tg iter : Expr} {ifs : List Expr} {scope : Scope} {own : List (Str × Nat)} {is : List Nat} {pos spos : Pos} {wi : WA} {g : WG} {wt : WT} {we : WE} (hc : X.calm = true) (hN : X.N.Nodup) (hy : X.N[i]? = some y) (hyl : X.env.scope.names.lookup y = some .local)
    (hsw : swapsWith (.ListComp elt [⟨tg, iter, ifs, 0⟩] scope pos) (some (.Name y py)) spos.line X.env = pure true) (hi : DI X kx tg iter wi) (ok : BlkOk X.N X.env.scope scope own)
    (hg : ∀ (s : Shared) (H : Hp) (C : Addr) (cl : List (Str × Addr)) (fp : List Addr), DG (X.blk s H scope (compEnvC scope cl C X.env) fp) tg is g) (ht : ∀ (s : Shared) (H : Hp) (C : Addr) (cl : List (Str × Addr)) (fp : List Addr), DTs (X.blk s H scope (compEnvC scope cl C X.env) fp) no ifs wt)
    (he : ∀ (s : Shared) (H : Hp) (C : Addr) (cl : List (Str × Addr)) (fp : List Addr), DE (X.blk s H scope (compEnvC scope cl C X.env) fp) no elt we) (hsub : ∀ j ∈ is, j ∈ own.map (·.2)) (hs : ∀ x, foldedSetIterable iter X.env x = pure x := by intro _; rfl) :
    DS X kx (.Assign [.Name y py] (.ListComp elt [⟨tg, iter, ifs, 0⟩] scope pos) spos) (sSet (wLc (own.map (·.2)) wi g wt we) (gN i)) :=
  ⟨fun β => PS.imp (ps_setLc (g := LGe (gd X) is g) (tt := LTe (gd X) wt) (te := LEe (gd X) we) hc hN hy hyl hsw (hi.run β) ok (fun s H C cl fp => (hg s H C cl fp).e) (fun s H C cl fp => (ht s H C cl fp).e) (fun s H C cl fp => (he s H C cl fp).e) hs) fun Dn σ H ⟨xk, S, ρ, N, st, en, hw⟩ =>
    ⟨xk, S, ρ, _, st, hw, fun ds ρ1 J H1 S1 ex1 st1 q wk p np => lc_turns hsub st1 wk q.1 np q.2 fun ys ρ' acc H' S' ex st' ry qq => by
      obtain ⟨st2, ex2⟩ := st'.unhide (st1.new_mine np).2.1
      have rp : Rep (gd X) _ H' (.lst ys) (.ref p) := OwnAt.rep (p := p) (d := .lst ys) ⟨acc, st'.frame p _ (.inr ⟨rfl, rfl⟩), ry.up ex2⟩ fun z => z.2 rfl
      exact en.nx _ _ _ H' (ex1.trans (ex.trans ex2)) (st2.store rp) qq⟩⟩
theorem ds_ownLc {i : Nat} {y : Str} {py : Pos} {elt tg iter : Expr} {ifs : List Expr} {scope : Scope} {own : List (Str × Nat)} {is : List Nat} {pos spos : Pos} {wi : WA} {g : WG} {wt : WT} {we : WE} (hc : X.calm = true) (hN : X.N.Nodup) (hy : X.N[i]? = some y) (hyl : X.env.scope.names.lookup y = some .local)
    (hsw : swapsWith (.ListComp elt [⟨tg, iter, ifs, 0⟩] scope pos) (some (.Name y py)) spos.line X.env = pure true) (hi : DI X kx tg iter wi) (ok : BlkOk X.N X.env.scope scope own)
    (hg : ∀ (s : Shared) (H : Hp) (C : Addr) (cl : List (Str × Addr)) (fp : List Addr), DG (X.blk s H scope (compEnvC scope cl C X.env) fp) tg is g) (ht : ∀ (s : Shared) (H : Hp) (C : Addr) (cl : List (Str × Addr)) (fp : List Addr), DTs (X.blk s H scope (compEnvC scope cl C X.env) fp) no ifs wt)
    (he : ∀ (s : Shared) (H : Hp) (C : Addr) (cl : List (Str × Addr)) (fp : List Addr), DE (X.blk s H scope (compEnvC scope cl C X.env) fp) no elt we) (hsub : ∀ j ∈ is, j ∈ own.map (·.2)) (hs : ∀ x, foldedSetIterable iter X.env x = pure x := by intro _; rfl) :
    DS X kx (.Assign [.Name y py] (.ListComp elt [⟨tg, iter, ifs, 0⟩] scope pos) spos) (sOwn (wLc (own.map (·.2)) wi g wt we) i) :=
  ⟨fun β => PS.imp (ps_setLc (g := LGe (gd X) is g) (tt := LTe (gd X) wt) (te := LEe (gd X) we) hc hN hy hyl hsw (hi.run β) ok (fun s H C cl fp => (hg s H C cl fp).e) (fun s H C cl fp => (ht s H C cl fp).e) (fun s H C cl fp => (he s H C cl fp).e) hs) fun Dn σ H ⟨xk, S, ρ, N, st, en, hil, hw⟩ =>
    ⟨xk, S, ρ, _, st, hw, fun ds ρ1 J H1 S1 ex1 st1 q wk p np => lc_turns hsub st1 wk q.1 np q.2 fun ys ρ' acc H' S' ex st' ry qq =>
      en.nx _ _ _ H' (ex1.trans ex) (st'.adopt (s := .own (.lst ys)) (by rw [← st'.len, st.len]; exact hil) (st1.new_mine np).2.2 (show OwnAt _ _ _ _ _ ∧ _ from ⟨⟨acc, st'.frame p _ (.inr ⟨rfl, rfl⟩), ry⟩, (st1.new_mine np).2.1⟩)) qq⟩⟩
end
end Q
set_option Elab.async false
set_option linter.all false
set_option maxRecDepth 100000
set_option maxHeartbeats 2000000
/-! QGuard: promises that hold where no repr runs above; their calls; a law's end. -/
namespace Q
open PySem PySem.Spec PyProof.Rows L2
/-- no repr is under way -/
def Quiet (A : Around) : Prop := A.guards = some []
theorem Quiet.in1 {A : Around} (h : Quiet A) : Quiet A.in1 := h
theorem Quiet.deeper {A : Around} {env : Env} (h : Quiet A) : Quiet (A.deeper env) := h
/-- FnOk where no repr is under way -/
structure FnG (P : Program) (w : World) (K : PySem.W.Frag) (mg : Str → Option Value) (base : Heap) (CX : CXT) (k : Nat) (f : Addr) (fd : FuncData) (ps : List Str) (sp : Sp) : Prop where
  len : ∀ vs H Q E, sp vs H Q E → vs.length = ps.length
  go : ∀ (A : Around), Quiet A → ∀ (outer : List Env) (s : Shared) (H : Hp) (args : Args) (us : List Value) (vs : List V) (Q : VK) (E : XK), Room k A → Env0 P w K mg base A outer s H → BindsTo s fd args (ps.zip us) → Vals vs us → sp vs H Q E →
    codeAny (model P w) A (.call (.ref f) args) (CR CX outer P w H s Q E) s
section
variable {P : Program} {w : World} {K : PySem.W.Frag} {mg : Str → Option Value} {base : Heap} {CX : CXT} {k : Nat} {f : Addr} {fd : FuncData} {N ps : List Str} {sp : Sp} {x qual : Str} {pa : Arguments} {bd : List Stmt} {sc : Scope} {dvs : List V} {kws : List (Str × V)}
theorem FnG.of (F : FnOk P w K mg base CX k f fd ps sp) : FnG P w K mg base CX k f fd ps sp := ⟨F.len, fun A _ => F.run A⟩
/-- a def's promise by its body, no repr under way -/
theorem fnG_of (F : FunD K x qual pa bd sc dvs kws f fd) (S : FnScope N ps sc) (len : ∀ vs H Q E, sp vs H Q E → vs.length = ps.length)
    (hbody : ∀ (cdv : Value) (A : Around), Quiet A → ∀ (outer : List Env) (s : Shared) (H : Hp) (vs : List V) (Q : VK) (E : XK), Room k (A.deeper (envOfC qual sc s.heap.objs.size f cdv)) → sp vs H Q E →
      ∃ t, PSs (cxOf CX P w K mg base N qual sc f cdv A outer s H E) bd t ∧ t { nx := fun _ H' => Q .non H', rt := Q } (start N vs) H) : FnG P w K mg base CX (k + 1) f fd ps sp := by
  obtain ⟨oc, od, dV, kV, doc, pm, an, cdv, ct, osl, hfd, look, isCode, _, _⟩ := F.ex
  subst hfd
  refine ⟨len, fun A qa outer s H args us vs Q E room en0 binds rel prom => ?_⟩
  have ln := len vs H Q E prom
  have kin : K.In s.heap := en0.mod.kin.keeps fun b o q => (en0.bs b o q).1
  have nl : s.heap.NoLimit := en0.mod.nolimit.keeps fun b o q => (en0.bs b o q).1
  have kinds : ∀ y ∈ ps.zip us, sc.names.lookup y.1 = some .local ∨ (sc.names.lookup y.1 = some .cell ∧ ((cellsFrom (s.heap.objs.size + 1) sc.names []).lookup y.1).isSome = true) := by
    rintro ⟨n, v⟩ hy
    exact (S.par n (List.of_mem_zip hy).1).imp id fun q => ⟨q, PySem.W.cellsFrom_some _ _ _ (.inl q)⟩
  refine codeAny_call_function room.depth (kin _ _ look) rfl S.co S.gen rfl (PySem.W.codeRec_of kin isCode) (binds _ _ _ _ (wpAny_newFunctionEnv_cells S.kind kinds ?_))
  intro env eenv s1 entry
  subst eenv
  refine ⟨nl.keeps entry.toInCall.keep, codeAny_func ?_⟩
  obtain ⟨t, walk, reading⟩ := hbody cdv A qa outer s H vs Q E (room.deeper _) prom
  have inv : Inv (cxOf CX P w K mg base N qual sc f cdv A outer s H E) [] (start N vs) H s1 := inv_start S room.hd en0 ln rel entry
  have out : ∀ {σ' : L2.St} {H' : Hp} {v : V} {u : Value} {s' : Shared}, Inv (cxOf CX P w K mg base N qual sc f cdv A outer s H E) [] σ' H' s' → RelV v u → Q v H' → CE outer P w H s Q u s' :=
    fun J rv q => ⟨_, _, J.os, J.bare, J.base, J.hok, rv, q⟩
  refine wpAny_mono (walk.run [] s1 (start N vs) H _ inv reading) ?_ fun _ _ z => z
  intro flow s' fin
  cases flow with
  | next => obtain ⟨σ', H', J, q⟩ := fin; exact out (v := V.non) (u := Value.none) J rfl q
  | ret u => obtain ⟨v, σ', H', J, rv, q⟩ := fin; exact out J rv q
  | brk => obtain ⟨_, _, _, q⟩ := fin; exact q.elim
  | cont => obtain ⟨_, _, _, q⟩ := fin; exact q.elim
end
section
variable {X : Cx} {CX : CXT} {k : Nat} {f : Addr} {fd : FuncData} {ps : List Str} {sp : Sp} {dvs : List V} {ds : List Value} {E : XK} {x : Str} {p pos : Pos} {e : Expr} {es : List Expr} {t : TA}
theorem runG (F : FnG X.prog X.w X.K X.mg X.base CX k f fd ps sp) (qa : Quiet X.A) (hr : Room k X.A) (hb : Binds X.K fd ps ds) (hd : Vals dvs ds) (hx : Passes CX X E) {pins : List (Addr × Obj)} {σ : L2.St} {H : Hp} {s : Shared} {Q : VK} {us : List Value} {vs : List V}
    (I : L2.Inv X pins σ H s) (r : Vals vs us) (h : sp (vs ++ dvs) H Q E) : wpAny (model X.prog X.w) X.A (call (.ref f) us) (EP X pins σ Q) X.xe s := by
  have both := r.append hd
  have ln : (us ++ ds).length = ps.length := by rw [← both.length]; exact F.len (vs ++ dvs) H Q E h
  refine wpAny_call (codeAny_mono (F.go X.A qa X.stack s H ⟨us, []⟩ (us ++ ds) (vs ++ dvs) Q E hr I.env0 (hb s us I.kIn ln) both h) ?_)
  intro res s' fin
  cases res with
  | error err => exact hx pins σ H s err s' I fin
  | ok flow => cases flow with
    | ret u => exact I.after fin
    | _ => exact fin.elim
theorem pe_callG (F : FnG X.prog X.w X.K X.mg X.base CX k f fd ps sp) (qa : Quiet X.A) (hr : Room k X.A) (hg : Gl X x) (hm : X.mg x = some (.ref f)) (hk : PySem.W.keepIn X.K (.ref f) = true) (hb : Binds X.K fd ps ds) (hd : Vals dvs ds) (hx : Passes CX X E) (ha : PA X (e :: es) t)
    (hdb : (x == ("__debug__" : Str)) = false := by decide) (he : starEach (e :: es) X.env = (false, eval e X.env) :: starEach es X.env := by rfl) (hpl : (backTo pos (starEach es X.env)).any (·.1) = false := by rfl) : PE X (.Call (.Name x p) (e :: es) [] pos) (tCall sp dvs E t) :=
  ⟨fun pins s σ H Q I h => wpAny_Call_Name_kw (ld_glob I hg hm (PySem.W.callWith_K (h₀ := X.base) I.ok.mod.kin hk (thn (ha.run pos pins s σ H _ I h) fun us s1 ⟨vs, H1, I1, r, q⟩ => ⟨I1.kIn, runG F qa hr hb hd hx I1 r q⟩) he hpl) hdb)⟩
theorem pe_callG0 (F : FnG X.prog X.w X.K X.mg X.base CX k f fd ps sp) (qa : Quiet X.A) (hr : Room k X.A) (hg : Gl X x) (hm : X.mg x = some (.ref f)) (hk : PySem.W.keepIn X.K (.ref f) = true) (hb : Binds X.K fd ps ds) (hd : Vals dvs ds) (hx : Passes CX X E)
    (hdb : (x == ("__debug__" : Str)) = false := by decide) : PE X (.Call (.Name x p) [] [] pos) (tCall sp dvs E tNil) :=
  ⟨fun pins s σ H Q I h => wpAny_Call_Name_kw (ld_glob I hg hm (PySem.W.callWith_K0 I.kIn hk (runG (us := []) F qa hr hb hd hx I .nil h)) hdb)⟩
end
/-! ### a law's end -/
section
variable {P : Program} {w : World} {K : PySem.W.Frag} {mg mb : Str → Option Value} {CX : CXT} {k : Nat} {fa a : Addr} {fd : FuncData} {x : Str} {sp : Sp} {s₁ : Shared} {vs : List Value} {ns : List Int}
/-- the run from an abstract heap with the script alone -/
theorem lawG_core {H : Hp} (kin : K.In s₁.heap) (gns : s₁.heap.Ns mainGlobals mg) (bns : s₁.heap.Ns builtinsNs mb) (bb : ∀ x : Str, x ≠ "__name__" → mb x = bootBuiltins x) (nl : s₁.heap.NoLimit) (hg : s₁.gens = #[])
    (obj : s₁.heap.get? a = some { cls := .type "list", data := .seq vs.toArray }) (hr : Room k callerA)
    (F : ∀ base : Heap, K.In base → base.Ns mainGlobals mg → FnG P w K mg base CX k fa fd [x] sp) (hbind : ∀ (s : Shared) (u : Value), BindsTo s fd ⟨[u], []⟩ [(x, u)])
    (hsp : sp [.ref a] H (fun v _ => v = .bl true) fun _ _ _ => False) (hCX : ∀ H e s', CX [] H s₁ (fun _ _ _ => False) e s' → False)
    (only : Only H) (hok : HOk P w H s₁.heap) (onlyA : ∀ b, H b ≠ none → b = a) (notK : H a ≠ none → K.lookup a = none) :
    codeAny (model P w) callerA (.call (.ref fa) ⟨[.ref a], []⟩) (fun r s' => r = .ok (.ret (.bool true)) ∧ OldK s₁.heap s'.heap ∧ s'.os = s₁.os ∧ AllBare s'.gens) s₁ := by
  have free : ∀ {b : Addr}, b ≠ a → H b = none := fun {b} n => Classical.byContradiction fun z => n (onlyA b z)
  have dict : ∀ {b : Addr} {o : Obj} {es : Array DictEntry} {ep : Nat}, s₁.heap.get? b = some o → o.data = .dict es ep → b ≠ a := by
    intro b o es ep e1 e2 z
    subst z
    rw [obj] at e1
    cases e1
    cases (show Data.seq vs.toArray _ = Data.dict es ep from e2)
  have ns : ∀ {b : Addr} {m : Str → Option Value}, s₁.heap.Ns b m → (hidT s₁.heap H).Ns b m := fun ⟨o, es, ep, e, d, r⟩ => ⟨o, es, ep, hidT_get e (free (dict e d)), d, r⟩
  have kinB : K.In (hidT s₁.heap H) := fun b o e => hidT_get (kin b o e) (Classical.byContradiction fun z => by
    have q := notK (by rw [← onlyA b z]; exact z)
    rw [← onlyA b z, e] at q
    cases q)
  have en0 : Env0 P w K mg (hidT s₁.heap H) callerA [] s₁ H :=
    ⟨rfl, ⟨kinB, ns gns, ⟨mb, ns bns, bb⟩, let ⟨mc, h1, h2⟩ := nl; ⟨mc, ns h1, h2⟩⟩, fun b o e => of_hidT e, Nat.le_of_eq (hidT_size _ _), trivial, fun b hb => absurd (show b ∈ ([] : List Addr) from hb) (by simp), hok, .of_eq hg⟩
  refine codeAny_mono ((F _ kinB (ns gns)).go callerA rfl [] s₁ H ⟨[.ref a], []⟩ [.ref a] [.ref a] _ _ hr en0 (hbind s₁ (.ref a)) (.cons rfl .nil) hsp) ?_
  intro res s' fin
  cases res with
  | error err => exact (hCX H err s' fin).elim
  | ok flow => cases flow with
    | ret u =>
      obtain ⟨v, H', hos, hbare, un, hok', rv, hv⟩ := fin
      have ev : v = V.bl true := hv
      subst ev
      obtain rfl : u = Value.bool true := rv
      refine ⟨rfl, OldK.of_keep fun b o e => ?_, hos, hbare⟩
      rcases only b with z | ⟨ob, xs, z⟩
      · exact un.keep b o e z (by intro q; exact absurd (show b ∈ ([] : List Addr) from q) (by simp)) (by simp)
      · obtain ⟨h1, _⟩ := hok b _ z
        obtain ⟨h2, _⟩ := hok' b _ (un.frzs b ob _ z)
        rw [e] at h1
        cases h1
        exact h2
    | _ => exact fin.elim
theorem lawG (kin : K.In s₁.heap) (gns : s₁.heap.Ns mainGlobals mg) (bns : s₁.heap.Ns builtinsNs mb) (bb : ∀ x : Str, x ≠ "__name__" → mb x = bootBuiltins x) (nl : s₁.heap.NoLimit) (hg : s₁.gens = #[])
    (obj : s₁.heap.get? a = some { cls := .type "list", data := .seq vs.toArray }) (hi : IntsAre vs ns) (hl : ns.length ≤ sizeLine) (hr : Room k callerA)
    (F : ∀ base : Heap, K.In base → base.Ns mainGlobals mg → FnG P w K mg base CX k fa fd [x] sp) (hbind : ∀ (s : Shared) (u : Value), BindsTo s fd ⟨[u], []⟩ [(x, u)])
    (hsp : ∀ H : Hp, Only H → SqL K H a (ns.map V.int) → sp [.ref a] H (fun v _ => v = .bl true) fun _ _ _ => False) (hCX : ∀ H e s', CX [] H s₁ (fun _ _ _ => False) e s' → False) :
    codeAny (model P w) callerA (.call (.ref fa) ⟨[.ref a], []⟩) (fun r s' => r = .ok (.ret (.bool true)) ∧ OldK s₁.heap s'.heap ∧ s'.os = s₁.os ∧ AllBare s'.gens) s₁ := by
  have vals := vals_ints hi
  cases inK : K.lookup a with
  | some o =>
    have e := kin a o inK
    rw [obj] at e
    cases e
    let H0 : Hp := fun _ => none
    have on : Only H0 := fun _ => .inl rfl
    have sq : SqL K H0 a (ns.map V.int) := .inr ⟨_, vs.toArray, _, inK, rfl, rfl, rfl, by rw [List.size_toArray, hi.length]; exact hl, by simpa using vals⟩
    exact lawG_core (H := H0) kin gns bns bb nl hg obj hr F hbind (hsp H0 on sq) hCX on (fun b u z => by cases (show (none : Option HO) = some u from z)) (fun b z => absurd rfl z) fun z => absurd rfl z
  | none =>
    let H1 : Hp := fun b => if b = a then some (.frz { cls := .type "list", data := .seq vs.toArray } (.lst (ns.map V.int))) else none
    have at_ : H1 a = some (.frz { cls := .type "list", data := .seq vs.toArray } (.lst (ns.map V.int))) := if_pos rfl
    have off : ∀ {b}, b ≠ a → H1 b = none := fun n => if_neg n
    have on : Only H1 := fun b => by
      by_cases hb : b = a
      · subst hb; exact .inr ⟨_, _, at_⟩
      · exact .inl (off hb)
    refine lawG_core (H := H1) kin gns bns bb nl hg obj hr F hbind (hsp H1 on (.inl (.inr ⟨_, at_⟩))) hCX on (fun b u z => ?_) (fun b z => Classical.byContradiction fun n => z (off n)) fun _ => inK
    by_cases hb : b = a
    · subst hb
      rw [at_] at z
      cases z
      exact ⟨obj, by rw [List.length_map]; exact hl, vs, _, vals, obj⟩
    · rw [off hb] at z
      cases z
end
theorem walkG {l : PySem.W.OpenLaw} {n k : Nat} {q : Program} {loose : List Str} {XP : (Str → Option Value) → Heap → Prop} {YP : World → Heap → Prop} {d : DefRec} {CX : CXT} {x : Str}
    (hn : l.most = some n) (hn2 : n ≤ sizeLine) (hdf : d.params.defaults = []) (hr : Room k callerA)
    (F : ∀ (w : World) (mg : Str → Option Value) (fa : Addr) (h : Heap), YP w h → h.Ns mainGlobals mg → mg d.name = some (.ref fa) → ∃ (K : PySem.W.Frag) (fd : FuncData) (sp : Sp), K.In h ∧
      (∀ (s : Shared) (u : Value), BindsTo s fd ⟨[u], []⟩ [(x, u)]) ∧ (∀ (H : Hp) (a : Addr) (ns : List Int), ns.length ≤ n → Only H → SqL K H a (ns.map V.int) → sp [.ref a] H (fun v _ => v = .bl true) fun _ _ _ => False) ∧
      ∀ base : Heap, K.In base → base.Ns mainGlobals mg → FnG l.prog w K mg base CX k fa fd [x] sp)
    (hCX : ∀ (H : Hp) (s : Shared) (e : Value) (s' : Shared), CX [] H s (fun _ _ _ => False) e s' → False) : PySem.W.WalkO q loose XP YP l.row.toRowW d [] (fun f vs => PySem.call f vs) := by
  refine Att.attach_call hn hdf fun w s₀ s₁ mg mb fa o pm cd doc a vs ns G Y ho hd hcd hmg hobj hints hlen hg => ?_
  obtain ⟨K, fd, sp, kin, hb, hsp, hF⟩ := F w mg fa _ Y G.T.g hmg
  exact lawG kin G.T.g G.T.b G.T.builtins G.T.nolimit hg hobj hints (Nat.le_trans hlen hn2) hr hF hb (fun H hO hS => hsp H a ns hlen hO hS) fun H e s' => hCX H s₁ e s'
end Q
set_option Elab.async false
set_option linter.all false
set_option maxRecDepth 100000
set_option maxHeartbeats 2000000
/-! QCall: promises over plain data; calls of defs, of classes, of methods; a def's own promise. -/
namespace Q
open PySem PySem.Spec PyProof.Rows L2

abbrev Con := List D → (D → Prop) → XC → Prop
abbrev ConI := List D → (List (Str × D) → Prop) → XC → Prop
def con0 (f : (D → Prop) → XC → Prop) : Con := fun ds k kx => ds = [] ∧ f k kx
def con1 (f : D → (D → Prop) → XC → Prop) : Con := fun ds k kx => ∃ a, ds = [a] ∧ f a k kx
def con2 (f : D → D → (D → Prop) → XC → Prop) : Con := fun ds k kx => ∃ a b, ds = [a, b] ∧ f a b k kx
def con3 (f : D → D → D → (D → Prop) → XC → Prop) : Con := fun ds k kx => ∃ a b c, ds = [a, b, c] ∧ f a b c k kx
def con4 (f : D → D → D → D → (D → Prop) → XC → Prop) : Con := fun ds k kx => ∃ a b c d, ds = [a, b, c, d] ∧ f a b c d k kx
def con5 (f : D → D → D → D → D → (D → Prop) → XC → Prop) : Con := fun ds k kx => ∃ a b c d e, ds = [a, b, c, d, e] ∧ f a b c d e k kx

/-- the errors that a promise lets out -/
def XOut (G : Gd) (S : Hid) (H : Hp) (kx : XC) (E : XK) : Prop := ∀ cn fs C dd ws H', Same H H' → G.mg cn = some (.ref C) → ¬ S dd → H' dd = some (.xd ws) → RepF G S H' fs ws → kx cn fs → E (.ref C) (some dd) H'
def spD (G : Gd) (c : Con) : Sp := fun vs H Q E => ∃ S ds k kx, (∀ a, S a → ∃ o, H a = some o) ∧ RepL G S H ds vs ∧ c ds k kx ∧ (∀ d v H', Same H H' → Rep G S H' d v → k d → Q v H') ∧ XOut G S H kx E
/-- the first parameter is the purse -/
def spP (G : Gd) (c : Con) : Sp := fun vs H Q E => ∃ S p ds vs' k, vs = .ref p :: vs' ∧ S p ∧ (∀ a, S a → ∃ o, H a = some o) ∧ PurseAt H p ∧ RepL G S H ds vs' ∧ c ds k no ∧
  (∀ d v H', (∀ a o, a ≠ p → H a = some o → H' a = some o) → PurseAt H' p → Rep G S H' d v → k d → Q v H')
/-- a new container comes back -/
def spF (G : Gd) (c : Con) : Sp := fun vs H Q E => ∃ S ds k, (∀ a, S a → ∃ o, H a = some o) ∧ RepL G S H ds vs ∧ c ds k no ∧ (∀ d p H', Same H H' → H p = none → OwnAt G (fun a => S a ∨ a = p) H' p d → k d → Q (.ref p) H')
/-- an __init__ -/
def spI (G : Gd) (cn : Str) (c : ConI) : Sp := fun vs H Q E => ∃ S p C dx ds vs' k kx, vs = .ref p :: vs' ∧ S p ∧ (∀ a, S a → ∃ o, H a = some o) ∧ G.mg cn = some (.ref C) ∧ H p = some (.ins C dx []) ∧ RepL G S H ds vs' ∧ c ds k kx ∧
  (∀ fs dx' ws H', (∀ a o, a ≠ p → H a = some o → H' a = some o) → H' p = some (.ins C dx' ws) → RepF G S H' fs ws → k fs → Q .non H') ∧
  (∀ cn fs C dd ws H', (∀ a o, a ≠ p → H a = some o → H' a = some o) → G.mg cn = some (.ref C) → ¬ S dd → H' dd = some (.xd ws) → RepF G S H' fs ws → kx cn fs → E (.ref C) (some dd) H')

section
variable (P : Program) (w : World) (K : PySem.W.Frag) (mg : Str → Option Value) (base : Heap)
structure FnAt (k : Nat) (x : Str) (sp : Sp) : Prop where
  ex : ∃ f fd ps, mg x = some (.ref f) ∧ PySem.W.keepIn K (.ref f) = true ∧ Binds K fd ps [] ∧ FnOk P w K mg base (L2.CX P w) k f fd ps sp
structure FnGt (k : Nat) (x : Str) (sp : Sp) : Prop where
  ex : ∃ f fd ps, mg x = some (.ref f) ∧ PySem.W.keepIn K (.ref f) = true ∧ Binds K fd ps [] ∧ FnG P w K mg base (L2.CX P w) k f fd ps sp
/-- a def of the module keeps c -/
abbrev FnD (k : Nat) (x : Str) (c : Con) : Prop := FnAt P w K mg base k x (spD ⟨K, mg⟩ c)
abbrev FnP (k : Nat) (x : Str) (c : Con) : Prop := FnGt P w K mg base k x (spP ⟨K, mg⟩ c)
abbrev FnGD (k : Nat) (x : Str) (c : Con) : Prop := FnGt P w K mg base k x (spD ⟨K, mg⟩ c)
abbrev FnF (k : Nat) (x : Str) (c : Con) : Prop := FnGt P w K mg base k x (spF ⟨K, mg⟩ c)
structure MkD (k : Nat) (x : Str) (c : ConI) : Prop where
  ex : ∃ C f fd ps, mg x = some (.ref C) ∧ Mk K C f ∧ Binds K fd ps [] ∧ FnOk P w K mg base (L2.CX P w) k f fd ps (spI ⟨K, mg⟩ x c)
structure MtD (k : Nat) (x m : Str) (c : Con) : Prop where
  ex : ∃ C f fd ps, mg x = some (.ref C) ∧ Cls K C ∧ Meth K C m f ∧ Binds K fd ps [] ∧ FnOk P w K mg base (L2.CX P w) k f fd ps (spD ⟨K, mg⟩ c)
end
section
variable {X : Cx} {kx : XC} {e e0 o : Expr} {es : List Expr} {w wo : WE} {wa : WA} {pos p apos : Pos} {k : Nat} {x cn m : Str} {c : Con} {ci : ConI}

/-- what a raising call hands on -/
theorem xout {β : Base} {E : XK} {S : Hid} {ρ : Ev} {σ : L2.St} {H : Hp} (st : StOk (gd X) β S ρ σ H)
    (h : ∀ cn fs C dd ws S ρ σ H, StOk (gd X) β S ρ σ H → X.mg cn = some (.ref C) → ¬ S dd → H dd = some (.xd ws) → RepF (gd X) S H fs ws → kx cn fs → E (.ref C) (some dd) H) : XOut (gd X) S H kx E :=
  fun cn fs C dd ws H' sm hm nd hd hf q => h cn fs C dd ws S ρ σ H' (st.grow sm) hm nd hd hf q

def wCall (c : Con) (kx : XC) (wa : WA) : WE := fun ρ k => wa ρ fun ds ρ1 => c ds (fun d => k d ρ1) kx
theorem de_call (F : FnD X.prog X.w X.K X.mg X.base k x c) (hr : Room k X.A) (hg : Gl X x) (ha : DA X kx (e :: es) wa) (hdb : (x == ("__debug__" : Str)) = false := by decide)
    (he : starEach (e :: es) X.env = (false, eval e X.env) :: starEach es X.env := by rfl) (hpl : (backTo pos (starEach es X.env)).any (·.1) = false := by rfl) : DE X kx (.Call (.Name x p) (e :: es) [] pos) (wCall c kx wa) := by
  obtain ⟨f, fd, ps, hm, hk, hb, F⟩ := F.ex
  refine ⟨fun β => ⟨fun pins s σ H Q I h => ?_⟩⟩
  obtain ⟨⟨E, tk, hE⟩, S, ρ, kk, st, hw, hkk⟩ := h
  refine (pe_call (E := E) F hr hg hm hk hb .nil (passes_call tk fun _ _ _ _ q => q) (ha.run β) hdb he hpl).run pins s σ H Q I ?_
  refine ⟨⟨E, tk, hE⟩, S, ρ, _, st, hw, fun ds ρ1 vs H1 S1 ex1 st1 r1 q => ?_⟩
  simp only [List.append_nil]
  exact ⟨S1, ds, _, kx, st1.sdom, r1, q, fun d v H' sm rp q' => hkk d ρ1 v H' S1 (ex1.trans (.same sm)) (st1.grow sm) rp q', xout st1 hE⟩
theorem de_call0 (F : FnD X.prog X.w X.K X.mg X.base k x c) (hr : Room k X.A) (hg : Gl X x) (hdb : (x == ("__debug__" : Str)) = false := by decide) : DE X kx (.Call (.Name x p) [] [] pos) (wCall c kx wNil) := by
  obtain ⟨f, fd, ps, hm, hk, hb, F⟩ := F.ex
  refine ⟨fun β => ⟨fun pins s σ H Q I h => ?_⟩⟩
  obtain ⟨⟨E, tk, hE⟩, S, ρ, kk, st, hw, hkk⟩ := h
  refine (pe_call0 (E := E) F hr hg hm hk hb .nil (passes_call tk fun _ _ _ _ q => q) hdb).run pins s σ H Q I ?_
  exact ⟨S, [], _, kx, st.sdom, repLnil.mpr rfl, hw, fun d v H' sm rp q' => hkk d ρ v H' S (.same sm) (st.grow sm) rp q', xout st hE⟩

theorem de_callG (F : FnGD X.prog X.w X.K X.mg X.base k x c) (qa : Quiet X.A) (hr : Room k X.A) (hg : Gl X x) (ha : DA X kx (e :: es) wa) (hdb : (x == ("__debug__" : Str)) = false := by decide)
    (he : starEach (e :: es) X.env = (false, eval e X.env) :: starEach es X.env := by rfl) (hpl : (backTo pos (starEach es X.env)).any (·.1) = false := by rfl) : DE X kx (.Call (.Name x p) (e :: es) [] pos) (wCall c kx wa) := by
  obtain ⟨f, fd, ps, hm, hk, hb, F⟩ := F.ex
  refine ⟨fun β => ⟨fun pins s σ H Q I h => ?_⟩⟩
  obtain ⟨⟨E, tk, hE⟩, S, ρ, kk, st, hw, hkk⟩ := h
  refine (pe_callG (E := E) F qa hr hg hm hk hb .nil (passes_call tk fun _ _ _ _ q => q) (ha.run β) hdb he hpl).run pins s σ H Q I ?_
  refine ⟨⟨E, tk, hE⟩, S, ρ, _, st, hw, fun ds ρ1 vs H1 S1 ex1 st1 r1 q => ?_⟩
  simp only [List.append_nil]
  exact ⟨S1, ds, _, kx, st1.sdom, r1, q, fun d v H' sm rp q' => hkk d ρ1 v H' S1 (ex1.trans (.same sm)) (st1.grow sm) rp q', xout st1 hE⟩
theorem de_callG0 (F : FnGD X.prog X.w X.K X.mg X.base k x c) (qa : Quiet X.A) (hr : Room k X.A) (hg : Gl X x) (hdb : (x == ("__debug__" : Str)) = false := by decide) : DE X kx (.Call (.Name x p) [] [] pos) (wCall c kx wNil) := by
  obtain ⟨f, fd, ps, hm, hk, hb, F⟩ := F.ex
  refine ⟨fun β => ⟨fun pins s σ H Q I h => ?_⟩⟩
  obtain ⟨⟨E, tk, hE⟩, S, ρ, kk, st, hw, hkk⟩ := h
  refine (pe_callG0 (E := E) F qa hr hg hm hk hb .nil (passes_call tk fun _ _ _ _ q => q) hdb).run pins s σ H Q I ?_
  exact ⟨S, [], _, kx, st.sdom, repLnil.mpr rfl, hw, fun d v H' sm rp q' => hkk d ρ v H' S (.same sm) (st.grow sm) rp q', xout st hE⟩

theorem StOk.hide' {G : Gd} {β : Base} {S : Hid} {ρ : Ev} {σ : L2.St} {H H' : Hp} (h : StOk G β S ρ σ H) {p : Addr} {o : HO} (np : H p = none) (sm : Same H H') (hp : H' p = some o) : StOk G (β.with p o) (fun a => S a ∨ a = p) ρ σ H' := by
  obtain ⟨nS, nO, mi⟩ := h.new_mine np
  refine h.re (fun a u z => ?_) (fun a z => z.imp (h.oS a) id) (fun a z => ?_) (fun a u n e => ⟨fun z => z.elim n (ne_of_none e np), sm a u e⟩) fun i p' _ _ q m _ => ?_
  · rcases z with z | ⟨z1, z2⟩
    · exact sm a u (h.frame a u z)
    · subst z1 z2; exact hp
  · rcases z with z | z
    · obtain ⟨u, q⟩ := h.sdom a z; exact ⟨u, sm a u q⟩
    · exact ⟨o, by rw [z]; exact hp⟩
  · have ne : p' ≠ p := fun z => nS (z ▸ q)
    obtain ⟨u, q'⟩ := h.sdom p' q
    exact ⟨.inl q, (sm p' u q').trans q'.symm, fun u z => z.elim (m u) fun z => ne z.1, ⟨fun n z => z.elim n ne, fun n => n⟩⟩
/-- a call that gives a new container -/
theorem df_callF (F : FnF X.prog X.w X.K X.mg X.base k x c) (qa : Quiet X.A) (hr : Room k X.A) (hg : Gl X x) (ha : DA X kx (e :: es) wa) (hdb : (x == ("__debug__" : Str)) = false := by decide)
    (he : starEach (e :: es) X.env = (false, eval e X.env) :: starEach es X.env := by rfl) (hpl : (backTo pos (starEach es X.env)).any (·.1) = false := by rfl) : DF X kx (.Call (.Name x p) (e :: es) [] pos) (wCall c no wa) := by
  obtain ⟨f, fd, ps, hm, hk, hb, F⟩ := F.ex
  refine ⟨fun β => ⟨fun pins s σ H Q I h => ?_⟩⟩
  obtain ⟨⟨E, tk, hE⟩, S, ρ, kk, st, hw, hkk⟩ := h
  refine (pe_callG (E := E) F qa hr hg hm hk hb .nil (passes_call tk fun _ _ _ _ q => q) (ha.run β) hdb he hpl).run pins s σ H Q I ?_
  refine ⟨⟨E, tk, hE⟩, S, ρ, _, st, hw, fun ds ρ1 vs H1 S1 ex1 st1 r1 q => ?_⟩
  simp only [List.append_nil]
  refine ⟨S1, ds, _, st1.sdom, r1, q, fun d p' H' sm np own q' => ?_⟩
  obtain ⟨o, ho⟩ := own.some
  obtain ⟨_, nO, mi⟩ := st1.new_mine np
  exact hkk d ρ1 p' o H' _ (ex1.trans fun a u n e => ⟨fun z => z.elim n (ne_of_none e np), sm a u e⟩) (st1.hide' np sm ho) own mi nO q'

/-! ### the purse -/
def Slot.isPurse : Slot → Bool
  | .purse => true
  | .pown => true
  | _ => false
theorem Ev.set_same : ∀ {ρ : Ev} {i : Nat}, ρ.set i (ρ.get i) = ρ
  | [], _ => rfl
  | _ :: _, 0 => rfl
  | t :: r, n + 1 => congrArg (List.cons t) (Ev.set_same (ρ := r))
theorem StOk.purse {G : Gd} {β : Base} {S : Hid} {ρ : Ev} {σ : L2.St} {H H' : Hp} (h : StOk G β S ρ σ H) {i : Nat} {p : Addr} (hi : sg σ i = some (.ref p)) (ho : (ρ.get i).isPurse = true) (e : ∀ a o, a ≠ p → H a = some o → H' a = some o) (hp : PurseAt H' p) : StOk G β S ρ σ H' := by
  have own : (ρ.get i).isOwn = true := by
    cases hs : ρ.get i with
    | purse => rfl
    | pown => rfl
    | _ => rw [hs] at ho; cases ho
  have q := h.slot i
  rw [hi] at q
  have hh : HoldAt G β S H' p (ρ.get i) := by
    cases hs : ρ.get i with
    | purse =>
      rw [hs] at q
      obtain ⟨p', e1, _, _, _, q2⟩ := q
      cases e1
      exact ⟨hp, q2⟩
    | pown => exact hp
    | _ => rw [hs] at ho; cases ho
  have := h.write hi own e hh
  rwa [Ev.set_same] at this
theorem StOk.purse_at {G : Gd} {β : Base} {S : Hid} {ρ : Ev} {σ : L2.St} {H : Hp} (h : StOk G β S ρ σ H) {i : Nat} (ho : (ρ.get i).isPurse = true) : ∃ p, sg σ i = some (.ref p) ∧ S p ∧ PurseAt H p := by
  have q := h.slot i
  cases hs : ρ.get i with
  | purse =>
    rw [hs] at q
    obtain ⟨p, e1, h1, _, h2, _⟩ := q
    exact ⟨p, e1, h1, h2⟩
  | pown =>
    rw [hs] at q
    obtain ⟨p, e1, h1, _, h2⟩ := q
    exact ⟨p, e1, h1, h2⟩
  | _ => rw [hs] at ho; cases ho
def wCallP (i : Nat) (c : Con) (wa : WA) : WE := fun ρ k => (ρ.get i).isPurse = true ∧ wa ρ fun ds ρ1 => (ρ1.get i).isPurse = true ∧ c ds (fun d => k d ρ1) no
theorem de_callP {i : Nat} (F : FnP X.prog X.w X.K X.mg X.base k x c) (qa : Quiet X.A) (hr : Room k X.A) (hg : Gl X x) (h0 : PE X e0 (tVar i)) (ha : DA X kx es wa) (hdb : (x == ("__debug__" : Str)) = false := by decide)
    (he : starEach (e0 :: es) X.env = (false, eval e0 X.env) :: starEach es X.env := by rfl) (hpl : (backTo pos (starEach es X.env)).any (·.1) = false := by rfl) : DE X kx (.Call (.Name x p) (e0 :: es) [] pos) (wCallP i c wa) := by
  obtain ⟨f, fd, ps, hm, hk, hb, F⟩ := F.ex
  refine ⟨fun β => ⟨fun pins s σ H Q I h => ?_⟩⟩
  obtain ⟨⟨E, tk, hE⟩, S, ρ, kk, st, ⟨hp, hw⟩, hkk⟩ := h
  obtain ⟨pa, e1, _, _⟩ := st.purse_at hp
  refine (pe_callG (E := E) F qa hr hg hm hk hb .nil (passes_call tk fun _ _ _ _ q => q) (pa_cons h0 (ha.run β) he) hdb he hpl).run pins s σ H Q I ?_
  refine ⟨_, sg_some.mp e1, ⟨E, tk, hE⟩, S, ρ, _, st, hw, fun ds ρ1 vs H1 S1 ex1 st1 r1 q => ?_⟩
  simp only [List.append_nil]
  obtain ⟨pa', e2, s2, hpa⟩ := st1.purse_at q.1
  rw [e1] at e2; cases e2
  exact ⟨S1, pa, ds, vs, _, rfl, s2, st1.sdom, hpa, r1, q.2, fun d v H' sm pu rp q' => hkk d ρ1 v H' S1 (ex1.trans (.but s2 sm)) (st1.purse e1 q.1 sm pu) rp q'⟩

/-- the purse is a new container, dropped behind the call -/
def purseD : D → Prop
  | .lst [.int a, .int b, .int c] => 0 ≤ a ∧ 0 ≤ b ∧ b < 2147483563
  | _ => False
theorem purse_own {G : Gd} {S : Hid} {H : Hp} {p : Addr} {d : D} (h : OwnAt G S H p d) (hp : purseD d) : PurseAt H p := by
  unfold purseD at hp
  split at hp
  · obtain ⟨vs, h1, h2⟩ := h
    obtain ⟨v1, w1, rfl, r1, h2⟩ := repLcons.mp h2
    obtain ⟨v2, w2, rfl, r2, h2⟩ := repLcons.mp h2
    obtain ⟨v3, w3, rfl, r3, h2⟩ := repLcons.mp h2
    rw [repLnil] at h2; subst h2
    rw [repInt] at r1 r2 r3
    subst r1 r2 r3
    exact ⟨_, _, _, h1, hp⟩
  · exact hp.elim
theorem XOk.with {kx : XC} {β : Base} {p : Addr} {o : HO} (h : XOk X β kx) (nO : ¬ β.O p) : XOk X (β.with p o) kx := by
  obtain ⟨E, tk, hE⟩ := h
  refine ⟨E, tk, fun cn fs C dd ws S ρ σ H st hm nd hd hf q => ?_⟩
  obtain ⟨st2, ex2⟩ := st.unhide nO
  exact hE cn fs C dd ws _ ρ σ H st2 hm (fun z => nd z.1) hd (hf.up ex2) q
def wCallPF (c : Con) (w0 : WE) (wa : WA) : WE := fun ρ k => w0 ρ fun d ρ1 => purseD d ∧ wa ρ1 fun ds ρ2 => c ds (fun r => k r ρ2) no
theorem de_callPF (F : FnP X.prog X.w X.K X.mg X.base k x c) (qa : Quiet X.A) (hr : Room k X.A) (hg : Gl X x) (h0 : DF X kx e0 w) (ha : DA X kx es wa) (hdb : (x == ("__debug__" : Str)) = false := by decide)
    (he : starEach (e0 :: es) X.env = (false, eval e0 X.env) :: starEach es X.env := by rfl) (hpl : (backTo pos (starEach es X.env)).any (·.1) = false := by rfl) : DE X kx (.Call (.Name x p) (e0 :: es) [] pos) (wCallPF c w wa) := by
  obtain ⟨f, fd, ps, hm, hk, hb, F⟩ := F.ex
  refine ⟨fun β => ⟨fun pins s σ H Q I h => ?_⟩⟩
  obtain ⟨⟨E, tk, hE⟩, S, ρ, kk, st, hw, hkk⟩ := h
  let ta : TA := fun σ H Q => ∃ p' o, β.Mine p' ∧ ¬ β.O p' ∧ LA X kx (β.with p' o) wa σ H Q
  have hta : PA X es ta := ⟨fun pos pins s σ H Q I ⟨p', o, _, _, q⟩ => (ha.run (β.with p' o)).run pos pins s σ H Q I q⟩
  refine (pe_callG (E := E) F qa hr hg hm hk hb .nil (passes_call tk fun _ _ _ _ q => q) (pa_cons (h0.run β) hta he) hdb he hpl).run pins s σ H Q I ?_
  refine ⟨⟨E, tk, hE⟩, S, ρ, _, st, hw, fun d ρ1 p' o H1 S1 ex1 st1 own nm nO q => ?_⟩
  refine ⟨p', o, nm, nO, XOk.with ⟨E, tk, hE⟩ nO, S1, ρ1, _, st1, q.2, fun ds ρ2 vs H2 S2 ex2 st2 r2 q2 => ?_⟩
  simp only [List.append_nil]
  have hp2 : H2 p' = H1 p' := (st2.frame p' o (.inr ⟨rfl, rfl⟩)).trans (st1.frame p' o (.inr ⟨rfl, rfl⟩)).symm
  have hS2 : S2 p' := st2.oS p' (.inr rfl)
  refine ⟨S2, p', ds, vs, _, rfl, hS2, st2.sdom, (purse_own own q.1).up hp2, r2, q2, fun d v H' sm pu rp q' => ?_⟩
  have st3 : StOk (gd X) β S2 ρ2 σ H' := by
    refine st2.re (fun a u z => ?_) (fun a z => st2.oS a (.inl z)) (fun a z => ?_) (.but hS2 sm) fun i p2 _ _ q m _ => ?_
    · exact sm a u (fun z2 => nm u (z2 ▸ z)) (st2.frame a u (.inl z))
    · by_cases h : a = p'
      · obtain ⟨a1, b1, c1, h1, _⟩ := pu; exact ⟨_, h ▸ h1⟩
      · obtain ⟨u, q⟩ := st2.sdom a z; exact ⟨u, sm a u h q⟩
    · have ne : p2 ≠ p' := fun z => m o (.inr ⟨z, rfl⟩)
      obtain ⟨u, q'⟩ := st2.sdom p2 q
      exact ⟨q, (sm p2 u ne q').trans q'.symm, fun u z => m u (.inl z), ⟨fun n z => n (.inl z), fun n => n⟩⟩
  exact hkk d ρ2 v H' S2 ((ex1.trans ex2).trans (.but hS2 sm)) st3 rp q'
/-- name = a new purse -/
def sOwnP (w : WE) (i : Nat) : WS := fun N ρ => i < ρ.length ∧ w ρ fun d ρ1 => purseD d ∧ N.nx (ρ1.set i .pown)
theorem ds_ownP {i : Nat} {pos' : Pos} (hN : X.N.Nodup) (hi : X.N[i]? = some x) (hx : Loc X.env.scope x) (he : DF X kx e w) (hs : swapsWith e (some (.Name x pos')) pos.line X.env = pure false := by rfl) (hf : X.fn x = true ∨ X.env.scope.names.lookup x = some .local := by first | exact .inl rfl | exact .inr rfl | assumption) :
    DS X kx (.Assign [.Name x pos'] e pos) (sOwnP w i) := ⟨fun β => PS.imp (ps_set hN hi hx (he.run β) hs hf) fun Dn σ H ⟨xk, S, ρ, N, st, en, hi', hw⟩ =>
      ⟨xk, S, ρ, _, st, hw, fun d ρ1 p o H1 S1 ex st1 own nm nO q => en.nx _ _ _ _ ex (st1.adopt (s := .pown) (by rw [st.len_eq st1]; exact hi') nm (purse_own own q.1)) q.2⟩⟩

/-! ### an instance made -/
def wMake (cn : Str) (c : ConI) (kx : XC) (wa : WA) : WE := fun ρ k => wa ρ fun ds ρ1 => c ds (fun fs => k (.ins cn fs) ρ1) kx
theorem make_end {β : Base} {E : XK} {ρ1 : Ev} {σ : L2.St} {H1 : Hp} {S1 : Hid} {C : Addr} {ds : List D} {vs : List V} {kk : D → Ev → Prop} {Q : VK} (hm : X.mg x = some (.ref C)) (st1 : StOk (gd X) β S1 ρ1 σ H1) (r1 : RepL (gd X) S1 H1 ds vs)
    (q : ci ds (fun fs => kk (.ins x fs) ρ1) kx) (hE : ∀ cn fs C dd ws S ρ σ H, StOk (gd X) β S ρ σ H → X.mg cn = some (.ref C) → ¬ S dd → H dd = some (.xd ws) → RepF (gd X) S H fs ws → kx cn fs → E (.ref C) (some dd) H)
    (hkk : ∀ d v H', Same H1 H' → Rep (gd X) S1 H' d v → kk d ρ1 → Q v H') (a dx : Addr) (n1 : H1 a = none) (n2 : H1 dx = none) (ne : dx ≠ a) :
    spI (gd X) x ci (.ref a :: vs) (upd (upd H1 dx (.own a)) a (.ins C dx [])) (fun v H2 => v = .non ∧ Q (.ref a) H2) E := by
  have nS : ¬ S1 a := (st1.new_mine n1).1
  have n1' : upd H1 dx (.own a) a = none := by rw [upd_ne (Ne.symm ne)]; exact n1
  have sm : Same H1 (upd (upd H1 dx (.own a)) a (.ins C dx [])) := (same_upd n2).trans (same_upd n1')
  refine ⟨fun b => S1 b ∨ b = a, a, C, dx, ds, vs, _, kx, rfl, .inr rfl, fun b hb => ?_, hm, upd_same, r1.up fun b o nb eb => ?_, q, fun fs dx' ws H' sm' hp hf q' => ⟨rfl, ?_⟩, fun cn fs C' dd ws H' sm' hm' nd hd hf q' => ?_⟩
  · rcases hb with hb | hb
    · obtain ⟨o, q⟩ := st1.sdom b hb; exact ⟨o, sm b o q⟩
    · exact ⟨_, by rw [hb]; exact upd_same⟩
  · exact ⟨fun z => z.elim nb (ne_of_none eb n1), sm b o eb⟩
  · have sm2 : Same H1 H' := fun b o e => sm' b o (ne_of_none e n1) (sm b o e)
    exact hkk (.ins x fs) (.ref a) H' sm2 (repIns.mpr ⟨a, C, dx', ws, rfl, hm, ⟨nS, hp⟩, hf.up (.less fun b hb => .inl hb)⟩) q'
  · have sm2 : Same H1 H' := fun b o e => sm' b o (ne_of_none e n1) (sm b o e)
    exact hE cn fs C' dd ws S1 ρ1 σ H' (st1.grow sm2) hm' (fun z => nd (.inl z)) hd (hf.up (.less fun b hb => .inl hb)) q'
theorem de_make (M : MkD X.prog X.w X.K X.mg X.base k x ci) (hr : Room (k + 1) X.A) (hg : Gl X x) (ha : DA X kx (e :: es) wa) (hdb : (x == ("__debug__" : Str)) = false := by decide)
    (he : starEach (e :: es) X.env = (false, eval e X.env) :: starEach es X.env := by rfl) (hpl : (backTo pos (starEach es X.env)).any (·.1) = false := by rfl) : DE X kx (.Call (.Name x p) (e :: es) [] pos) (wMake x ci kx wa) := by
  obtain ⟨C, f, fd, ps, hm, M, hb, F⟩ := M.ex
  refine ⟨fun β => ⟨fun pins s σ H Q I h => ?_⟩⟩
  obtain ⟨⟨E, tk, hE⟩, S, ρ, kk, st, hw, hkk⟩ := h
  refine (pe_make (E := E) M F hr hg hm hb .nil (passes_call tk fun _ _ _ _ q => q) (ha.run β) hdb he hpl).run pins s σ H Q I ?_
  refine ⟨⟨E, tk, hE⟩, S, ρ, _, st, hw, fun ds ρ1 vs H1 S1 ex1 st1 r1 q a dx n1 n2 ne => ?_⟩
  simp only [List.append_nil]
  exact make_end hm st1 r1 q hE (fun d v H' sm rp q' => hkk d ρ1 v H' S1 (ex1.trans (.same sm)) (st1.grow sm) rp q') a dx n1 n2 ne

/-! ### methods -/
def wMeth (cn m : Str) (c : Con) (kx : XC) (wo : WE) (wa : WA) : WE := fun ρ k => wo ρ fun d ρ1 => match d with
  | .ins cn' fs => cn' = cn ∧ fs.lookup m = none ∧ wa ρ1 fun ds ρ2 => c (.ins cn' fs :: ds) (fun r => k r ρ2) kx
  | _ => False
theorem de_meth {pl : Sem Bool} (M : MtD X.prog X.w X.K X.mg X.base k cn m c) (hr : Room k X.A) (ho : DE X kx o wo) (ha : DA X kx (e :: es) wa)
    (hst : starEach (e :: es) X.env = (false, eval e X.env) :: starEach es X.env := by rfl) (hpl : (backTo pos (starEach es X.env)).any (·.1) = false := by rfl)
    (ht : eval (.Call (.Attribute o m apos) (e :: es) [] pos) X.env = (do
      let ov ← eval o X.env
      standAt apos.atName
      let (f, first) ← holding [ov] (getMethod ov m pl)
      callWith pos f first (backTo pos (starEach (e :: es) X.env)) (backToKw pos (keywordEach [] X.env))) := by rfl) :
    DE X kx (.Call (.Attribute o m apos) (e :: es) [] pos) (wMeth cn m c kx wo wa) := by
  obtain ⟨C, f, fd, ps, hm, hc, hme, hb, F⟩ := M.ex
  refine ⟨fun β => ⟨fun pins s σ H Q I h => ?_⟩⟩
  obtain ⟨⟨E, tk, hE⟩, S, ρ, kk, st, hw, hkk⟩ := h
  refine (pe_meth (pl := pl) (E := E) (ho.run β) hc hme F hr hb .nil (passes_call tk fun _ _ _ _ q => q) (ha.run β) hst hpl ht).run pins s σ H Q I ?_
  refine ⟨⟨E, tk, hE⟩, S, ρ, _, st, hw, fun d ρ1 v H1 S1 ex1 st1 r1 q => ?_⟩
  cases d with
  | ins cn' fs =>
    obtain ⟨rfl, hl, q⟩ := q
    obtain ⟨a, C', dx, ws, rfl, hm', ⟨nS, ha'⟩, hf⟩ := repIns.mp r1
    have hm2 : X.mg cn' = some (.ref C') := hm'
    rw [hm] at hm2; cases hm2
    refine ⟨a, dx, ws, rfl, ha', hf.lookup_none hl, ⟨E, tk, hE⟩, S1, ρ1, _, st1, q, fun ds ρ2 vs H2 S2 ex2 st2 r2 q2 => ?_⟩
    simp only [List.append_nil]
    exact ⟨S2, .ins cn' fs :: ds, _, kx, st2.sdom, repLcons.mpr ⟨_, vs, rfl, r1.up ex2, r2⟩, q2, fun d v H' sm rp q' => hkk d ρ2 v H' S2 ((ex1.trans ex2).trans (.same sm)) (st2.grow sm) rp q', xout st2 hE⟩
  | _ => exact q.elim
theorem de_meth0 {pl : Sem Bool} (M : MtD X.prog X.w X.K X.mg X.base k cn m c) (hr : Room k X.A) (ho : DE X kx o wo)
    (ht : eval (.Call (.Attribute o m apos) [] [] pos) X.env = (do
      let ov ← eval o X.env
      standAt apos.atName
      let (f, first) ← holding [ov] (getMethod ov m pl)
      callWith pos f first (backTo pos (starEach [] X.env)) (backToKw pos (keywordEach [] X.env))) := by rfl) :
    DE X kx (.Call (.Attribute o m apos) [] [] pos) (wMeth cn m c kx wo wNil) := by
  obtain ⟨C, f, fd, ps, hm, hc, hme, hb, F⟩ := M.ex
  refine ⟨fun β => ⟨fun pins s σ H Q I h => ?_⟩⟩
  obtain ⟨⟨E, tk, hE⟩, S, ρ, kk, st, hw, hkk⟩ := h
  refine (pe_meth0 (pl := pl) (E := E) (ho.run β) hc hme F hr hb .nil (passes_call tk fun _ _ _ _ q => q) ht).run pins s σ H Q I ?_
  refine ⟨⟨E, tk, hE⟩, S, ρ, _, st, hw, fun d ρ1 v H1 S1 ex1 st1 r1 q => ?_⟩
  cases d with
  | ins cn' fs =>
    obtain ⟨rfl, hl, q⟩ := q
    obtain ⟨a, C', dx, ws, rfl, hm', ⟨nS, ha'⟩, hf⟩ := repIns.mp r1
    have hm2 : X.mg cn' = some (.ref C') := hm'
    rw [hm] at hm2; cases hm2
    refine ⟨a, dx, ws, rfl, ha', hf.lookup_none hl, ?_⟩
    exact ⟨S1, [.ins cn' fs], _, kx, st1.sdom, repLcons.mpr ⟨_, [], rfl, r1, repLnil.mpr rfl⟩, q, fun d v H' sm rp q' => hkk d ρ1 v H' S1 (ex1.trans (.same sm)) (st1.grow sm) rp q', xout st1 hE⟩
  | _ => exact q.elim
/-! ### fields -/
def wFld (f : Str) (wo : WE) : WE := fun ρ k => wo ρ fun d ρ1 => match d with
  | .ins _ fs => match fs.lookup f with
    | some v => k v ρ1
    | none => False
  | _ => False
/-- the class's facts for reading and storing its attribute f -/
structure FldOk (K : PySem.W.Frag) (mg : Str → Option Value) (cn f : Str) : Prop where
  ex : ∃ C, mg cn = some (.ref C) ∧ Cls K C ∧ NoAttr K C f
def wFldC (cn f : Str) (wo : WE) : WE := fun ρ k => wo ρ fun d ρ1 => match d with
  | .ins cn' fs => cn' = cn ∧ match fs.lookup f with
    | some v => k v ρ1
    | none => False
  | _ => False
theorem de_fld {f : Str} (hf : FldOk X.K X.mg cn f) (ho : DE X kx o wo) (hb : attributeBase o f X.env (eval o X.env) = eval o X.env := by rfl) : DE X kx (.Attribute o f pos) (wFldC cn f wo) := by
  obtain ⟨C, hm, hc, hn⟩ := hf.ex
  refine ⟨fun β => PE.imp (pe_fld (ho.run β) hb) fun σ H Q ⟨xk, S, ρ, kk, st, hw, hkk⟩ => ⟨xk, S, ρ, _, st, hw, fun d ρ1 v H1 S1 ex1 st1 r1 q => ?_⟩⟩
  cases d with
  | ins cn' fs =>
    obtain ⟨rfl, q⟩ := q
    obtain ⟨a, C', dx, ws, rfl, hm', ⟨nS, ha'⟩, hfs⟩ := repIns.mp r1
    have hm2 : X.mg cn' = some (.ref C') := hm'
    rw [hm] at hm2; cases hm2
    cases hl : fs.lookup f with
    | none => rw [hl] at q; exact q.elim
    | some v =>
      rw [hl] at q
      obtain ⟨u, h1, h2⟩ := hfs.lookup hl
      exact ⟨a, C, dx, ws, u, rfl, ha', hc, hn, h1, hkk v ρ1 u H1 S1 ex1 st1 h2 q⟩
  | _ => exact q.elim
/-- self.f = e within an __init__ (self in slot i) -/
def sFldI (cn : Str) (i : Nat) (f : Str) (w : WE) : WS := fun N ρ => w ρ fun d ρ1 => match ρ1.get i with
  | .slf (.ins cn' fs) => cn' = cn ∧ fs.length < 1000 ∧ N.nx (ρ1.set i (.slf (.ins cn' (putD f d fs))))
  | _ => False
theorem RepF.put {G : Gd} {S : Hid} {H : Hp} {f : Str} {d : D} {v : V} (hd : Rep G S H d v) : ∀ {fs : List (Str × D)} {ws : List (Str × V)}, RepF G S H fs ws → RepF G S H (putD f d fs) (putF f v ws)
  | [], _, h => by
    rw [repFnil] at h; subst h
    exact repFcons.mpr ⟨v, [], rfl, hd, repFnil.mpr rfl⟩
  | (g, e) :: fs, _, h => by
    rw [repFcons] at h
    obtain ⟨u, ws, rfl, h1, h2⟩ := h
    show RepF G S H (if g = f then (g, d) :: fs else (g, e) :: putD f d fs) (if g = f then (g, v) :: ws else (g, u) :: putF f v ws)
    by_cases hg : g = f
    · rw [if_pos hg, if_pos hg]
      exact repFcons.mpr ⟨v, ws, rfl, hd, h2⟩
    · rw [if_neg hg, if_neg hg]
      exact repFcons.mpr ⟨u, _, rfl, h1, RepF.put hd h2⟩
theorem ds_fldI {i : Nat} {f : Str} {pos' : Pos} (hf : FldOk X.K X.mg cn f) (ho : PE X o (tVar i)) (hv : DE X kx e w) (hs : swapsWith e (some (.Attribute o f pos')) pos.line X.env = pure false := by rfl) :
    DS X kx (.Assign [.Attribute o f pos'] e pos) (sFldI cn i f w) := by
  obtain ⟨C, hm, hcl, hn⟩ := hf.ex
  refine ⟨fun β => PS.imp (ps_fld ho (hv.run β) hs) fun Dn σ H ⟨xk, S, ρ, N, st, en, hw⟩ => ⟨xk, S, ρ, _, st, hw, fun d ρ1 v H1 S1 ex1 st1 r1 q => ?_⟩⟩
  have sl := st1.slot i
  split at q
  · rename_i cn' fs hs
    obtain ⟨rfl, hz, q⟩ := q
    rw [hs] at sl
    obtain ⟨p, hp, hS, hmi, ⟨C', dx, ws, hm', hi, hfs⟩, hL⟩ := sl
    have hm2 : X.mg cn' = some (.ref C') := hm'
    rw [hm] at hm2; cases hm2
    refine ⟨.ref p, sg_some.mp hp, p, C, dx, ws, rfl, hi, hcl, hn, by rw [hfs.length]; exact hz, ?_⟩
    have ex2 : Ext S1 H1 S1 (upd H1 p (.ins C dx (putF f v ws))) := .but hS fun a o n e => by rw [upd_ne n]; exact e
    refine en.nx S1 _ σ _ (ex1.trans ex2) (st1.write hp (by rw [hs]; rfl) (fun a o n e => by rw [upd_ne n]; exact e) (s := .slf (.ins cn' (putD f d fs))) ?_) q
    exact ⟨⟨C, dx, putF f v ws, hm, upd_same, (RepF.put r1 hfs).up ex2⟩, hL⟩
  · exact q.elim
end
section
variable {P : Program} {w : World} {K : PySem.W.Frag} {mg : Str → Option Value} {base : Heap} {x qual : Str} {st : Stmt} {f : Addr} {fd : FuncData} {N ps : List Str} {k : Nat} {c : Con} {ci : ConI} {cn : Str} {dvs : List V} {kws : List (Str × V)}
def startE (n : Nat) (ds : List D) : Ev := ds.map Slot.val ++ List.replicate (n - ds.length) .un
theorem Ev.get_app : ∀ (l r : Ev) (i : Nat), Ev.get (l ++ r) i = if i < l.length then Ev.get l i else Ev.get r (i - l.length)
  | [], r, i => by simp
  | a :: l, r, 0 => by simp [Ev.get]
  | a :: l, r, i + 1 => by
    show Ev.get (l ++ r) i = _
    rw [Ev.get_app l r i]
    simp [Ev.get]
theorem Ev.get_rep : ∀ (n i : Nat), Ev.get (List.replicate n Slot.un) i = .un
  | 0, i => rfl
  | n + 1, 0 => rfl
  | n + 1, i + 1 => Ev.get_rep n i
theorem Ev.get_map : ∀ (ds : List D) (i : Nat), Ev.get (ds.map Slot.val) i = match ds[i]? with | some d => .val d | none => .un
  | [], i => by simp [Ev.get]
  | d :: ds, 0 => by simp [Ev.get]
  | d :: ds, i + 1 => by
    show Ev.get (ds.map Slot.val) i = _
    rw [Ev.get_map ds i]
    simp
theorem startE_get (n : Nat) (ds : List D) (i : Nat) : (startE n ds).get i = match ds[i]? with | some d => .val d | none => .un := by
  unfold startE
  rw [Ev.get_app]
  by_cases h : i < (ds.map Slot.val).length
  · rw [if_pos h, Ev.get_map]
  · rw [if_neg h, Ev.get_rep]
    have : ds[i]? = none := List.getElem?_eq_none (by simpa using h)
    rw [this]
theorem start_sg (vs : List V) (N : List Str) (i : Nat) : sg (start N vs) i = vs[i]? := by
  unfold sg L2.start
  by_cases h : i < vs.length
  · rw [List.getElem?_append_left (by simpa using h), List.getElem?_map]
    rw [List.getElem?_eq_getElem h]
    rfl
  · rw [List.getElem?_append_right (by simpa using h), List.getElem?_eq_none (Nat.le_of_not_lt h)]
    rw [List.getElem?_replicate]
    split <;> rfl
/-- a def's own promise -/
theorem fnD_mk (F : FunD K x qual (defArgs st) (defBody st) (defScope st) dvs kws f fd) (S : FnScope N ps (defScope st)) (hn : ∀ ds k kx, c ds k kx → ds.length = ps.length)
    (body : ∀ (cdv : Value) (A : Around) (outer : List Env) (s : Shared) (H : Hp) (E : XK) (kx : XC), Room k (A.deeper (envOfC qual (defScope st) s.heap.objs.size f cdv)) →
      ∃ ws, DSs (cxOf (L2.CX P w) P w K mg base N qual (defScope st) f cdv A outer s H E) kx (defBody st) ws ∧ ∀ ds kk, c ds kk kx → ws { nx := fun _ => kk .non, rt := fun d _ => kk d } (startE N.length ds)) :
    FnOk P w K mg base (L2.CX P w) (k + 1) f fd ps (spD ⟨K, mg⟩ c) := by
  refine F.ok S (fun vs H Q E h => ?_) (fun cdv A outer s H vs Q E hr h => ?_)
  · obtain ⟨S, ds, k, kx, _, r, hc, _⟩ := h
    rw [r.length]
    exact hn ds k kx hc
  · obtain ⟨S0, ds, kk, kx, hd, r, hc, hQ, hE⟩ := h
    obtain ⟨ws, hb, hw⟩ := body cdv A outer s H E kx hr
    have hlen := hn ds kk kx hc
    have hpN : ps.length ≤ N.length := by
      have := S.pre
      have h2 := congrArg List.length this
      rw [List.length_take] at h2
      omega
    let β : Base := ⟨fun a o => H a = some o, S0, fun _ => False⟩
    have st0 : StOk ⟨K, mg⟩ β S0 (startE N.length ds) (start N vs) H := by
      refine ⟨fun a o q => q, fun a q => q, hd, ?_, fun i => ?_, fun i j p h1 => ?_⟩
      · unfold L2.start startE
        simp [r.length]
      · rw [startE_get, start_sg]
        cases e : ds[i]? with
        | none => trivial
        | some d =>
          obtain ⟨v, e1, e2⟩ := r.get e
          exact ⟨v, e1, e2⟩
      · rw [startE_get] at h1
        cases e : ds[i]? <;> rw [e] at h1 <;> cases h1
    refine ⟨_, hb.run β, ⟨E, takes_of rfl rfl rfl rfl, ?_⟩, S0, _, _, st0, ⟨?_, ?_, ?_, ?_, ?_⟩, hw ds kk hc⟩
    · intro cn fs C dd ws S' ρ σ H' st' hm nd hd' hf q
      exact hE cn fs C dd ws H' (fun a o e => st'.frame a o e) hm (fun z => nd (st'.oS dd z)) hd' (hf.up (.less fun a z => st'.oS a z)) q
    · intro S' ρ σ H' ex st' q
      exact hQ .non .non H' (fun a o e => st'.frame a o e) (repNon.mpr rfl) q
    · intro S' ρ σ H' d v ex st' rp q
      exact hQ d v H' (fun a o e => st'.frame a o e) (rp.up (.less fun a z => st'.oS a z)) q
    · exact fun S' ρ σ H' ex st' q => q.elim
    · exact fun S' ρ σ H' ex st' q => q.elim
    · exact fun S' ρ σ H' d p o ex st' ow m nO q => q.elim
/-- a def's own promise, no repr under way -/
theorem fnGD_mk (F : FunD K x qual (defArgs st) (defBody st) (defScope st) dvs kws f fd) (S : FnScope N ps (defScope st)) (hn : ∀ ds k kx, c ds k kx → ds.length = ps.length)
    (body : ∀ (cdv : Value) (A : Around), Quiet A → ∀ (outer : List Env) (s : Shared) (H : Hp) (E : XK) (kx : XC), Room k (A.deeper (envOfC qual (defScope st) s.heap.objs.size f cdv)) →
      ∃ ws, DSs (cxOf (L2.CX P w) P w K mg base N qual (defScope st) f cdv A outer s H E) kx (defBody st) ws ∧ ∀ ds kk, c ds kk kx → ws { nx := fun _ => kk .non, rt := fun d _ => kk d } (startE N.length ds)) :
    FnG P w K mg base (L2.CX P w) (k + 1) f fd ps (spD ⟨K, mg⟩ c) := by
  refine fnG_of F S (fun vs H Q E h => ?_) (fun cdv A qa outer s H vs Q E hr h => ?_)
  · obtain ⟨S, ds, k, kx, _, r, hc, _⟩ := h
    rw [r.length]
    exact hn ds k kx hc
  · obtain ⟨S0, ds, kk, kx, hd, r, hc, hQ, hE⟩ := h
    obtain ⟨ws, hb, hw⟩ := body cdv A qa outer s H E kx hr
    have hlen := hn ds kk kx hc
    have hpN : ps.length ≤ N.length := by
      have := S.pre
      have h2 := congrArg List.length this
      rw [List.length_take] at h2
      omega
    let β : Base := ⟨fun a o => H a = some o, S0, fun _ => False⟩
    have st0 : StOk ⟨K, mg⟩ β S0 (startE N.length ds) (start N vs) H := by
      refine ⟨fun a o q => q, fun a q => q, hd, ?_, fun i => ?_, fun i j p h1 => ?_⟩
      · unfold L2.start startE
        simp [r.length]
      · rw [startE_get, start_sg]
        cases e : ds[i]? with
        | none => trivial
        | some d =>
          obtain ⟨v, e1, e2⟩ := r.get e
          exact ⟨v, e1, e2⟩
      · rw [startE_get] at h1
        cases e : ds[i]? <;> rw [e] at h1 <;> cases h1
    refine ⟨_, hb.run β, ⟨E, takes_of rfl rfl rfl rfl, ?_⟩, S0, _, _, st0, ⟨?_, ?_, ?_, ?_, ?_⟩, hw ds kk hc⟩
    · intro cn fs C dd ws S' ρ σ H' st' hm nd hd' hf q
      exact hE cn fs C dd ws H' (fun a o e => st'.frame a o e) hm (fun z => nd (st'.oS dd z)) hd' (hf.up (.less fun a z => st'.oS a z)) q
    · intro S' ρ σ H' ex st' q
      exact hQ .non .non H' (fun a o e => st'.frame a o e) (repNon.mpr rfl) q
    · intro S' ρ σ H' d v ex st' rp q
      exact hQ d v H' (fun a o e => st'.frame a o e) (rp.up (.less fun a z => st'.oS a z)) q
    · exact fun S' ρ σ H' ex st' q => q.elim
    · exact fun S' ρ σ H' ex st' q => q.elim
    · exact fun S' ρ σ H' d p o ex st' ow m nO q => q.elim
/-- a def that gives a new container -/
theorem fnF_mk (F : FunD K x qual (defArgs st) (defBody st) (defScope st) dvs kws f fd) (S : FnScope N ps (defScope st)) (hn : ∀ ds k kx, c ds k kx → ds.length = ps.length)
    (body : ∀ (cdv : Value) (A : Around), Quiet A → ∀ (outer : List Env) (s : Shared) (H : Hp) (E : XK), Room k (A.deeper (envOfC qual (defScope st) s.heap.objs.size f cdv)) →
      ∃ ws, DSs (cxOf (L2.CX P w) P w K mg base N qual (defScope st) f cdv A outer s H E) no (defBody st) ws ∧ ∀ ds kk, c ds kk no → ws { nx := fun _ => False, rt := fun _ _ => False, rf := fun d _ => kk d } (startE N.length ds)) :
    FnG P w K mg base (L2.CX P w) (k + 1) f fd ps (spF ⟨K, mg⟩ c) := by
  refine fnG_of F S (fun vs H Q E h => ?_) (fun cdv A qa outer s H vs Q E hr h => ?_)
  · obtain ⟨S, ds, k, _, r, hc, _⟩ := h
    rw [r.length]
    exact hn ds k no hc
  · obtain ⟨S0, ds, kk, hd, r, hc, hQ⟩ := h
    obtain ⟨ws, hb, hw⟩ := body cdv A qa outer s H E hr
    have hlen := hn ds kk no hc
    have hpN : ps.length ≤ N.length := by
      have := S.pre
      have h2 := congrArg List.length this
      rw [List.length_take] at h2
      omega
    let β : Base := ⟨fun a o => H a = some o, S0, fun _ => False⟩
    have st0 : StOk ⟨K, mg⟩ β S0 (startE N.length ds) (start N vs) H := by
      refine ⟨fun a o q => q, fun a q => q, hd, ?_, fun i => ?_, fun i j p h1 => ?_⟩
      · unfold L2.start startE
        simp [r.length]
      · rw [startE_get, start_sg]
        cases e : ds[i]? with
        | none => trivial
        | some d =>
          obtain ⟨v, e1, e2⟩ := r.get e
          exact ⟨v, e1, e2⟩
      · rw [startE_get] at h1
        cases e : ds[i]? <;> rw [e] at h1 <;> cases h1
    refine ⟨_, hb.run β, xno, S0, _, _, st0, ⟨?_, ?_, ?_, ?_, ?_⟩, hw ds kk hc⟩
    · exact fun S' ρ σ H' ex st' q => q.elim
    · exact fun S' ρ σ H' d v ex st' rp q => q.elim
    · exact fun S' ρ σ H' ex st' q => q.elim
    · exact fun S' ρ σ H' ex st' q => q.elim
    · intro S' ρ σ H' d p o ex st' ow m nO q
      have np : H p = none := by
        cases e : H p with
        | none => rfl
        | some u => exact (m u e).elim
      exact hQ d p H' (fun a o e => st'.frame a o (.inl e)) np (ow.up (.less fun a z => z.elim (fun z => st'.oS a (.inl z)) fun z => st'.oS a (.inr z)) rfl) q
/-- a def whose first parameter is the purse -/
theorem fnP_mk (F : FunD K x qual (defArgs st) (defBody st) (defScope st) dvs kws f fd) (S : FnScope N ps (defScope st)) (hn : ∀ ds k kx, c ds k kx → ds.length + 1 = ps.length)
    (body : ∀ (cdv : Value) (A : Around), Quiet A → ∀ (outer : List Env) (s : Shared) (H : Hp) (E : XK), Room k (A.deeper (envOfC qual (defScope st) s.heap.objs.size f cdv)) →
      ∃ ws, DSs (cxOf (L2.CX P w) P w K mg base N qual (defScope st) f cdv A outer s H E) no (defBody st) ws ∧ ∀ ds kk, c ds kk no → ws { nx := fun ρ => ρ.get 0 = .purse ∧ kk .non, rt := fun d ρ => ρ.get 0 = .purse ∧ kk d } (.purse :: startE (N.length - 1) ds)) :
    FnG P w K mg base (L2.CX P w) (k + 1) f fd ps (spP ⟨K, mg⟩ c) := by
  refine fnG_of F S (fun vs H Q E h => ?_) (fun cdv A qa outer s H vs Q E hr h => ?_)
  · obtain ⟨S, p, ds, vs', k, rfl, _, _, _, r, hc, _⟩ := h
    rw [List.length_cons, r.length]
    exact hn ds k no hc
  · obtain ⟨S0, p, ds, vs', kk, rfl, hSp, hd, hpu, r, hc, hQ⟩ := h
    obtain ⟨ws, hb, hw⟩ := body cdv A qa outer s H E hr
    have hlen := hn ds kk no hc
    have hpN : ps.length ≤ N.length := by
      have := S.pre
      have h2 := congrArg List.length this
      rw [List.length_take] at h2
      omega
    let β : Base := ⟨fun a o => a ≠ p ∧ H a = some o, S0, fun a => a = p⟩
    have hmine : β.Mine p := fun o q => q.1 rfl
    have st0 : StOk ⟨K, mg⟩ β S0 (.purse :: startE (N.length - 1) ds) (start N (.ref p :: vs')) H := by
      refine ⟨fun a o q => q.2, fun a q => q, hd, ?_, fun i => ?_, fun i j p' h1 h2 _ _ => ?_⟩
      · unfold L2.start startE
        simp [r.length]
        omega
      · rw [start_sg]
        cases i with
        | zero => exact ⟨p, rfl, hSp, hmine, hpu, rfl⟩
        | succ i =>
          show SlotOk _ _ _ _ ((startE (N.length - 1) ds).get i) ((V.ref p :: vs')[i + 1]?)
          rw [startE_get, List.getElem?_cons_succ]
          cases e : ds[i]? with
          | none => trivial
          | some d =>
            obtain ⟨v, e1, e2⟩ := r.get e
            exact ⟨v, e1, e2⟩
      · have z : ∀ i, (Ev.get (.purse :: startE (N.length - 1) ds) i).isOwn = true → i = 0 := fun i h => by
          cases i with
          | zero => rfl
          | succ i =>
            have h' : ((startE (N.length - 1) ds).get i).isOwn = true := h
            rw [startE_get] at h'
            cases e : ds[i]? <;> rw [e] at h' <;> cases h'
        rw [z i h1, z j h2]
    have out : ∀ S' ρ σ H', StOk ⟨K, mg⟩ β S' ρ σ H' → ρ.get 0 = .purse → PurseAt H' p := fun S' ρ σ H' st' h0 => by
      have q := st'.slot 0
      rw [h0] at q
      obtain ⟨p', _, _, _, q1, q2⟩ := q
      have : p' = p := q2
      rw [← this]
      exact q1
    refine ⟨_, hb.run β, ⟨E, takes_of rfl rfl rfl rfl, fun _ _ _ _ _ _ _ _ _ _ _ _ _ _ q => q.elim⟩, S0, _, _, st0, ⟨?_, ?_, ?_, ?_, ?_⟩, hw ds kk hc⟩
    · intro S' ρ σ H' ex st' q
      exact hQ .non .non H' (fun a o n e => st'.frame a o ⟨n, e⟩) (out S' ρ σ H' st' q.1) (repNon.mpr rfl) q.2
    · intro S' ρ σ H' d v ex st' rp q
      exact hQ d v H' (fun a o n e => st'.frame a o ⟨n, e⟩) (out S' ρ σ H' st' q.1) (rp.up (.less fun a z => st'.oS a z)) q.2
    · exact fun S' ρ σ H' ex st' q => q.elim
    · exact fun S' ρ σ H' ex st' q => q.elim
    · exact fun S' ρ σ H' d p o ex st' ow m nO q => q.elim
/-- an __init__: self in slot 0 -/
theorem fnI_mk (F : FunD K x qual (defArgs st) (defBody st) (defScope st) dvs kws f fd) (S : FnScope N ps (defScope st)) (hn : ∀ ds k kx, ci ds k kx → ds.length + 1 = ps.length)
    (body : ∀ (cdv : Value) (A : Around) (outer : List Env) (s : Shared) (H : Hp) (E : XK) (kx : XC), Room k (A.deeper (envOfC qual (defScope st) s.heap.objs.size f cdv)) →
      ∃ ws, DSs (cxOf (L2.CX P w) P w K mg base N qual (defScope st) f cdv A outer s H E) kx (defBody st) ws ∧ ∀ ds kk, ci ds kk kx → ws { nx := fun ρ => ∃ fs, ρ.get 0 = .slf (.ins cn fs) ∧ kk fs, rt := fun d ρ => False } (.slf (.ins cn []) :: startE (N.length - 1) ds)) :
    FnOk P w K mg base (L2.CX P w) (k + 1) f fd ps (spI ⟨K, mg⟩ cn ci) := by
  refine F.ok S (fun vs H Q E h => ?_) (fun cdv A outer s H vs Q E hr h => ?_)
  · obtain ⟨S, p, C, dx, ds, vs', k, kx, rfl, _, _, _, _, r, hc, _⟩ := h
    rw [List.length_cons, r.length]
    exact hn ds k kx hc
  · obtain ⟨S0, p, C, dx, ds, vs', kk, kx, rfl, hSp, hd, hm, hi, r, hc, hQ, hE⟩ := h
    obtain ⟨ws, hb, hw⟩ := body cdv A outer s H E kx hr
    have hlen := hn ds kk kx hc
    have hpN : ps.length ≤ N.length := by
      have := S.pre
      have h2 := congrArg List.length this
      rw [List.length_take] at h2
      omega
    let β : Base := ⟨fun a o => a ≠ p ∧ H a = some o, S0, fun a => a = p⟩
    have hmine : β.Mine p := fun o q => q.1 rfl
    have st0 : StOk ⟨K, mg⟩ β S0 (.slf (.ins cn []) :: startE (N.length - 1) ds) (start N (.ref p :: vs')) H := by
      refine ⟨fun a o q => q.2, fun a q => q, hd, ?_, fun i => ?_, fun i j p' h1 h2 _ _ => ?_⟩
      · unfold L2.start startE
        simp [r.length]
        omega
      · rw [start_sg]
        cases i with
        | zero => exact ⟨p, rfl, hSp, hmine, ⟨C, dx, [], hm, hi, repFnil.mpr rfl⟩, rfl⟩
        | succ i =>
          show SlotOk _ _ _ _ ((startE (N.length - 1) ds).get i) ((V.ref p :: vs')[i + 1]?)
          rw [startE_get, List.getElem?_cons_succ]
          cases e : ds[i]? with
          | none => trivial
          | some d =>
            obtain ⟨v, e1, e2⟩ := r.get e
            exact ⟨v, e1, e2⟩
      · have z : ∀ i, (Ev.get (.slf (.ins cn []) :: startE (N.length - 1) ds) i).isOwn = true → i = 0 := fun i h => by
          cases i with
          | zero => rfl
          | succ i =>
            have h' : ((startE (N.length - 1) ds).get i).isOwn = true := h
            rw [startE_get] at h'
            cases e : ds[i]? <;> rw [e] at h' <;> cases h'
        rw [z i h1, z j h2]
    refine ⟨_, hb.run β, ⟨E, takes_of rfl rfl rfl rfl, ?_⟩, S0, _, _, st0, ⟨?_, ?_, ?_, ?_, ?_⟩, hw ds kk hc⟩
    · intro cn' fs C' dd ws' S' ρ σ H' st' hm' nd hd' hf q
      exact hE cn' fs C' dd ws' H' (fun a o n e => st'.frame a o ⟨n, e⟩) hm' (fun z => nd (st'.oS dd z)) hd' (hf.up (.less fun a z => st'.oS a z)) q
    · rintro S' ρ σ H' ex st' ⟨fs, h0, q⟩
      have sl := st'.slot 0
      rw [h0] at sl
      obtain ⟨p', _, _, _, ⟨C', dx', ws', hm', hi', hf'⟩, hL⟩ := sl
      have hL' : p' = p := hL
      subst hL'
      have hm2 : mg cn = some (.ref C') := hm'
      have hm3 : mg cn = some (.ref C) := hm
      rw [hm3] at hm2; cases hm2
      exact hQ fs dx' ws' H' (fun a o n e => st'.frame a o ⟨n, e⟩) hi' (hf'.up (.less fun a z => st'.oS a z)) q
    · exact fun S' ρ σ H' d v ex st' rp q => q.elim
    · exact fun S' ρ σ H' ex st' q => q.elim
    · exact fun S' ρ σ H' ex st' q => q.elim
    · exact fun S' ρ σ H' d p o ex st' ow m nO q => q.elim
end
end Q
set_option Elab.async false
set_option linter.all false
set_option maxRecDepth 100000
set_option maxHeartbeats 2000000
/-! QOps: operators and comparisons by plain data. -/
namespace Q
open PySem PySem.Spec PyProof.Rows L2
section
variable {X : Cx} {kx : XC}
/-! ### arithmetic -/
/-- list + list, whatever lists -/
theorem op_catG {a b : Addr} {xs ys : List V} {pins : List (Addr × Obj)} {s : Shared} {σ : L2.St} {H : Hp} {Q : VK} (I : L2.Inv X pins σ H s) (ha : SqL X.K H a xs) (hb : SqL X.K H b ys) (hz : xs.length + ys.length ≤ sizeLine)
    (q : ∀ p, H p = none → Q (.ref p) (upd H p (.lst (xs ++ ys)))) : wpAny (model X.prog X.w) X.A (binaryOp .Add (.ref a) (.ref b)) (EP X pins σ Q) X.xe s := by
  obtain ⟨its, rv, pl, _⟩ := I.list ha
  obtain ⟨its2, rv2, pl2, _⟩ := I.list hb
  obtain ⟨⟨cls, dd, data, sl⟩, ho, hc, n, hd⟩ := pl.isList
  obtain ⟨⟨cls2, dd2, data2, sl2⟩, ho2, hc2, n2, hd2⟩ := pl2.isList
  simp only at hc hd hc2 hd2
  subst hc hd hc2 hd2
  have l1 := rv.length
  have l2 := rv2.length
  have e : its.toArray ++ its2.toArray = (its ++ its2).toArray := by simp
  refine concat_meets ⟨_, ho, rfl⟩ ⟨_, ho2, rfl⟩ noFill_list_add seq_list_add PySem.F.slot_list_add PySem.F.entry_list_add (PySem.F.args_list_add_2 _ _) (list_addW a b its.toArray its2.toArray n n2 dd dd2 sl sl2 (by simp; omega)) ⟨ho, ho2, ?_⟩
  rw [e]
  exact ⟨.ref _, _, I.lnew (t' := s.toks) (rv.append rv2) (by rw [List.length_append]; omega), rfl, q _ I.fresh⟩
def dAdd : RD2 := fun x y k => match x, y with
  | .int i, .int j => k (.int (i + j))
  | .str a, .str b => a.length + b.length ≤ sizeLine ∧ k (.str (a ++ b))
  | .lst xs, .lst ys => xs.length + ys.length ≤ sizeLine ∧ k (.lst (xs ++ ys))
  | .tup xs, .tup ys => (xs ≠ [] ∧ xs.length + ys.length ≤ sizeLine) ∧ k (.tup (xs ++ ys))
  | _, _ => False
theorem hid_new {S : Hid} {H : Hp} {p : Addr} (hd : ∀ a, S a → ∃ o, H a = some o) (hn : H p = none) : ¬ S p := fun z => by obtain ⟨o, q⟩ := hd p z; rw [hn] at q; cases q
theorem do_add : DOp X (binaryOp .Add) dAdd := by
  intro pins s σ H x y v u Q I rx ry h
  obtain ⟨S, dx, dy, k, hd, r1, r2, hr, hk⟩ := h
  cases dx with
  | int i =>
    cases dy with
    | int j =>
      rw [repInt] at r1 r2; subst r1 r2
      exact op_add pins s σ H _ _ v u Q I rx ry ⟨i, j, rfl, rfl, hk _ _ H (Same.refl _) (repInt.mpr rfl) hr⟩
    | _ => exact hr.elim
  | str i =>
    cases dy with
    | str j =>
      rw [repStr] at r1 r2; subst r1 r2
      exact op_add_str pins s σ H _ _ v u Q I rx ry ⟨i, j, rfl, rfl, hr.1, hk _ _ H (Same.refl _) (repStr.mpr rfl) hr.2⟩
    | _ => exact hr.elim
  | lst xs =>
    cases dy with
    | lst ys =>
      obtain ⟨a, vs, rfl, h1, h2⟩ := repLst.mp r1
      obtain ⟨b, ws, rfl, h3, h4⟩ := repLst.mp r2
      cases rx; cases ry
      refine op_catG I h1.seq h3.seq (by rw [h2.length, h4.length]; exact hr.1) fun p hn => ?_
      exact hk _ _ _ (same_upd hn) (repLst.mpr ⟨p, _, rfl, .inl ⟨hid_new hd hn, .inl upd_same⟩, (h2.append h4).up (.same (same_upd hn))⟩) hr.2
    | _ => exact hr.elim
  | tup xs =>
    cases dy with
    | tup ys =>
      obtain ⟨a, vs, rfl, h1, h2⟩ := repTup.mp r1
      obtain ⟨b, ws, rfl, h3, h4⟩ := repTup.mp r2
      obtain ⟨⟨hx, hz⟩, hr⟩ := hr
      have l1 := h2.length
      have l2 := h4.length
      refine op_catT pins s σ H _ _ v u Q I rx ry ⟨a, b, vs, ws, rfl, rfl, h1.seq, h3.seq, ?_, by omega, fun e => ?_, fun _ p => ?_⟩
      · intro e
        apply hx
        rw [e] at l1
        exact List.length_eq_zero_iff.mp l1.symm
      · have ey : ys = [] := by rw [e] at l2; exact List.length_eq_zero_iff.mp l2.symm
        subst ey
        rw [List.append_nil] at hr
        exact hk _ _ H (Same.refl _) r1 hr
      · intro hn
        exact hk _ _ _ (same_upd hn) (repTup.mpr ⟨p, _, rfl, .inl ⟨hid_new hd hn, .inl upd_same⟩, (h2.append h4).up (.same (same_upd hn))⟩) hr
    | _ => exact hr.elim
  | _ => exact hr.elim
def dSub : RD2 := fun x y k => match x, y with
  | .int i, .int j => k (.int (i - j))
  | _, _ => False
def dMul : RD2 := fun x y k => match x, y with
  | .int i, .int j => CMul i j ∧ k (.int (i * j))
  | _, _ => False
def dMod : RD2 := fun x y k => match x, y with
  | .int i, .int j => 0 < j ∧ k (.int (i % j))
  | _, _ => False
def dFdiv : RD2 := fun x y k => match x, y with
  | .int i, .int j => CDiv i j ∧ k (.int (i / j))
  | _, _ => False
def dPow : RD2 := fun x y k => match x, y with
  | .int i, .int j => CPow i j ∧ k (.int (i ^ j.toNat))
  | _, _ => False
theorem do_int {f : Value → Value → Sem Value} {C : Int → Int → Prop} {g : Int → Int → Int} {r : RD2} (h : OpR X f (rI C fun i j => .int (g i j))) (hr : ∀ dx dy k, r dx dy k → ∃ i j, dx = .int i ∧ dy = .int j ∧ C i j ∧ k (.int (g i j))) : DOp X f r := by
  intro pins s σ H x y v u Q I rx ry h'
  obtain ⟨S, dx, dy, k, hd, r1, r2, hr', hk⟩ := h'
  obtain ⟨i, j, rfl, rfl, hc, hq⟩ := hr dx dy k hr'
  rw [repInt] at r1 r2; subst r1 r2
  exact h pins s σ H _ _ v u Q I rx ry ⟨i, j, rfl, rfl, hc, hk _ _ H (Same.refl _) (repInt.mpr rfl) hq⟩
theorem do_int0 {f : Value → Value → Sem Value} {g : Int → Int → Int} {r : RD2} (h : OpR X f (rI0 fun i j => .int (g i j))) (hr : ∀ dx dy k, r dx dy k → ∃ i j, dx = .int i ∧ dy = .int j ∧ k (.int (g i j))) : DOp X f r := by
  intro pins s σ H x y v u Q I rx ry h'
  obtain ⟨S, dx, dy, k, hd, r1, r2, hr', hk⟩ := h'
  obtain ⟨i, j, rfl, rfl, hq⟩ := hr dx dy k hr'
  rw [repInt] at r1 r2; subst r1 r2
  exact h pins s σ H _ _ v u Q I rx ry ⟨i, j, rfl, rfl, hk _ _ H (Same.refl _) (repInt.mpr rfl) hq⟩
theorem do_cmp {f : Value → Value → Sem Value} {g : Int → Int → Bool} {r : RD2} (h : OpR X f (rI0 fun i j => .bl (g i j))) (hr : ∀ dx dy k, r dx dy k → ∃ i j, dx = .int i ∧ dy = .int j ∧ k (.bl (g i j))) : DOp X f r := by
  intro pins s σ H x y v u Q I rx ry h'
  obtain ⟨S, dx, dy, k, hd, r1, r2, hr', hk⟩ := h'
  obtain ⟨i, j, rfl, rfl, hq⟩ := hr dx dy k hr'
  rw [repInt] at r1 r2; subst r1 r2
  exact h pins s σ H _ _ v u Q I rx ry ⟨i, j, rfl, rfl, hk _ _ H (Same.refl _) (repBl.mpr rfl) hq⟩
theorem do_sub : DOp X (binaryOp .Sub) dSub := do_int0 op_sub fun dx dy k h => by
  unfold dSub at h
  split at h
  · exact ⟨_, _, rfl, rfl, h⟩
  · exact h.elim
theorem do_mul : DOp X (binaryOp .Mult) dMul := do_int op_mul fun dx dy k h => by
  unfold dMul at h
  split at h
  · exact ⟨_, _, rfl, rfl, h.1, h.2⟩
  · exact h.elim
theorem do_mod : DOp X (binaryOp .Mod) dMod := do_int op_mod fun dx dy k h => by
  unfold dMod at h
  split at h
  · exact ⟨_, _, rfl, rfl, h.1, h.2⟩
  · exact h.elim
theorem do_fdiv : DOp X (binaryOp .FloorDiv) dFdiv := do_int op_fdiv fun dx dy k h => by
  unfold dFdiv at h
  split at h
  · exact ⟨_, _, rfl, rfl, h.1, h.2⟩
  · exact h.elim
theorem do_pow : DOp X (binaryOp .Pow) dPow := do_int op_pow fun dx dy k h => by
  unfold dPow at h
  split at h
  · exact ⟨_, _, rfl, rfl, h.1, h.2⟩
  · exact h.elim
def dLt : RD2 := fun x y k => match x, y with
  | .int i, .int j => k (.bl (decide (i < j)))
  | _, _ => False
def dLe : RD2 := fun x y k => match x, y with
  | .int i, .int j => k (.bl (decide (i ≤ j)))
  | _, _ => False
def dGt : RD2 := fun x y k => match x, y with
  | .int i, .int j => k (.bl (decide (j < i)))
  | _, _ => False
def dGe : RD2 := fun x y k => match x, y with
  | .int i, .int j => k (.bl (decide (j ≤ i)))
  | _, _ => False
theorem do_lt : DOp X (compareOp .Lt) dLt := do_cmp op_lt fun dx dy k h => by
  unfold dLt at h
  split at h
  · exact ⟨_, _, rfl, rfl, h⟩
  · exact h.elim
theorem do_le : DOp X (compareOp .LtE) dLe := do_cmp op_le fun dx dy k h => by
  unfold dLe at h
  split at h
  · exact ⟨_, _, rfl, rfl, h⟩
  · exact h.elim
theorem do_gt : DOp X (compareOp .Gt) dGt := do_cmp op_gt fun dx dy k h => by
  unfold dGt at h
  split at h
  · exact ⟨_, _, rfl, rfl, h⟩
  · exact h.elim
theorem do_ge : DOp X (compareOp .GtE) dGe := do_cmp op_ge fun dx dy k h => by
  unfold dGe at h
  split at h
  · exact ⟨_, _, rfl, rfl, h⟩
  · exact h.elim
def dNeg (x : D) (k : D → Prop) : Prop := match x with
  | .int i => k (.int (-i))
  | _ => False
theorem du_neg : UnR X (unaryOp .USub) (LUn (gd X) dNeg) := by
  intro pins s σ H x v Q I rx h
  obtain ⟨S, dx, k, hd, r1, hr, hk⟩ := h
  cases dx with
  | int i =>
    rw [repInt] at r1; subst r1
    exact un_neg pins s σ H _ v Q I rx ⟨i, rfl, hk _ _ H (Same.refl _) (repInt.mpr rfl) hr⟩
  | _ => exact hr.elim
/-! ### is None -/
def D.isNon : D → Bool
  | .non => true
  | _ => false
def dIs : RD2 := fun x y k => match y with
  | .non => k (.bl x.isNon)
  | _ => False
def dIsNot : RD2 := fun x y k => match y with
  | .non => k (.bl (!x.isNon))
  | _ => False
theorem Rep.isNon {G : Gd} {S : Hid} {H : Hp} {d : D} {v : V} (h : Rep G S H d v) : decide (v = .non) = d.isNon := by
  cases d with
  | non => rw [repNon] at h; subst h; rfl
  | bl b => rw [repBl] at h; subst h; rfl
  | int b => rw [repInt] at h; subst h; rfl
  | str b => rw [repStr] at h; subst h; rfl
  | tup b => obtain ⟨a, _, rfl, _⟩ := repTup.mp h; rfl
  | lst b => obtain ⟨a, _, rfl, _⟩ := repLst.mp h; rfl
  | dK b => obtain ⟨a, _, rfl, _⟩ := repDK.mp h; rfl
  | dT b => obtain ⟨a, _, rfl, _⟩ := repDT.mp h; rfl
  | ins c b => obtain ⟨a, _, _, _, rfl, _⟩ := repIns.mp h; rfl
theorem do_is : DOp X (compareOp .Is) dIs := by
  intro pins s σ H x y v u Q I rx ry h
  obtain ⟨S, dx, dy, k, hd, r1, r2, hr, hk⟩ := h
  cases dy with
  | non =>
    rw [repNon] at r2; subst r2
    exact op_isN pins s σ H _ _ v u Q I rx ry ⟨rfl, by rw [r1.isNon]; exact hk _ _ H (Same.refl _) (repBl.mpr rfl) hr⟩
  | _ => exact hr.elim
theorem do_isNot : DOp X (compareOp .IsNot) dIsNot := by
  intro pins s σ H x y v u Q I rx ry h
  obtain ⟨S, dx, dy, k, hd, r1, r2, hr, hk⟩ := h
  cases dy with
  | non =>
    rw [repNon] at r2; subst r2
    exact op_notN pins s σ H _ _ v u Q I rx ry ⟨rfl, by rw [r1.isNon]; exact hk _ _ H (Same.refl _) (repBl.mpr rfl) hr⟩
  | _ => exact hr.elim
/-! ### == of data -/
mutual
def D.py : D → Option PyData
  | .non => some .none
  | .bl b => some (.bool b)
  | .int i => some (.int i)
  | .str x => some (.str x)
  | .tup xs => (D.pyL xs).map .tuple
  | .lst xs => (D.pyL xs).map .list
  | _ => none
def D.pyL : List D → Option (List PyData)
  | [] => some []
  | x :: xs => match D.py x, D.pyL xs with
    | some a, some as => some (a :: as)
    | _, _ => none
end
mutual
theorem Rep.dp {G : Gd} {S : Hid} {H : Hp} : ∀ (d : D) (v : V) (p : PyData), Rep G S H d v → d.py = some p → Dp G.K H v p
  | .non, v, p, h, e => by rw [repNon] at h; subst h; simp [D.py] at e; subst e; exact .non
  | .bl b, v, p, h, e => by rw [repBl] at h; subst h; simp [D.py] at e; subst e; exact .bl b
  | .int b, v, p, h, e => by rw [repInt] at h; subst h; simp [D.py] at e; subst e; exact .int b
  | .str b, v, p, h, e => by rw [repStr] at h; subst h; simp [D.py] at e; subst e; exact .str b
  | .tup ds, v, p, h, e => by
    obtain ⟨a, vs, rfl, h1, h2⟩ := repTup.mp h
    unfold D.py at e
    obtain ⟨ps, e1, e2⟩ := Option.map_eq_some_iff.mp e
    subst e2
    exact .tup h1.seq (RepL.dp ds vs ps h2 e1)
  | .lst ds, v, p, h, e => by
    obtain ⟨a, vs, rfl, h1, h2⟩ := repLst.mp h
    unfold D.py at e
    obtain ⟨ps, e1, e2⟩ := Option.map_eq_some_iff.mp e
    subst e2
    exact .lst h1.seq (RepL.dp ds vs ps h2 e1)
  | .dK _, _, _, _, e => by simp [D.py] at e
  | .dT _, _, _, _, e => by simp [D.py] at e
  | .ins _ _, _, _, _, e => by simp [D.py] at e
theorem RepL.dp {G : Gd} {S : Hid} {H : Hp} : ∀ (ds : List D) (vs : List V) (ps : List PyData), RepL G S H ds vs → D.pyL ds = some ps → DpAll G.K H vs ps
  | [], vs, ps, h, e => by rw [repLnil] at h; subst h; simp [D.pyL] at e; subst e; exact .nil
  | d :: ds, vs, ps, h, e => by
    obtain ⟨v, ws, rfl, h1, h2⟩ := repLcons.mp h
    unfold D.pyL at e
    cases e1 : d.py with
    | none => rw [e1] at e; cases e
    | some a =>
      rw [e1] at e
      cases e2 : D.pyL ds with
      | none => rw [e2] at e; cases e
      | some as =>
        rw [e2] at e
        cases e
        exact .cons (Rep.dp d v a h1 e1) (RepL.dp ds ws as h2 e2)
end
/-- == of what is told apart at once, or of data -/
def dEq : RD2 := fun x y k => match x, y with
  | .int i, .int j => k (.bl (decide (i = j)))
  | .str a, .str b => k (.bl (decide (a = b)))
  | x, y => ∃ p q, x.py = some p ∧ y.py = some q ∧ SeqAt.shaped p = true ∧ SeqAt.shaped q = true ∧ k (.bl (PyData.eqv p q))
def dNe : RD2 := fun x y k => match x, y with
  | .int i, .int j => k (.bl (!decide (i = j)))
  | .str a, .str b => k (.bl (!decide (a = b)))
  | x, y => ∃ p q, x.py = some p ∧ y.py = some q ∧ SeqAt.shaped p = true ∧ SeqAt.shaped q = true ∧ k (.bl (!PyData.eqv p q))
theorem do_eq (hu : X.A.units + 64 < cLine) : DOp X (compareOp .Eq) dEq := by
  intro pins s σ H x y v u Q I rx ry h
  obtain ⟨S, dx, dy, k, hd, r1, r2, hr, hk⟩ := h
  unfold dEq at hr
  split at hr
  · rw [repInt] at r1 r2; subst r1 r2
    refine op_eq pins s σ H _ _ v u Q I rx ry ⟨rfl, ?_⟩
    rw [dec_int, Bool.beq_eq_decide_eq]
    exact hk _ _ H (Same.refl _) (repBl.mpr rfl) hr
  · rw [repStr] at r1 r2; subst r1 r2
    refine op_eq pins s σ H _ _ v u Q I rx ry ⟨rfl, ?_⟩
    rw [dec_str, Bool.beq_eq_decide_eq]
    exact hk _ _ H (Same.refl _) (repBl.mpr rfl) hr
  · obtain ⟨p, q, e1, e2, s1, s2, hr⟩ := hr
    exact op_eqD hu pins s σ H _ _ v u Q I rx ry ⟨p, q, Rep.dp _ _ _ r1 e1, Rep.dp _ _ _ r2 e2, s1, s2, hk _ _ H (Same.refl _) (repBl.mpr rfl) hr⟩
theorem do_ne (hu : X.A.units + 64 < cLine) : DOp X (compareOp .NotEq) dNe := by
  intro pins s σ H x y v u Q I rx ry h
  obtain ⟨S, dx, dy, k, hd, r1, r2, hr, hk⟩ := h
  unfold dNe at hr
  split at hr
  · rw [repInt] at r1 r2; subst r1 r2
    refine op_ne pins s σ H _ _ v u Q I rx ry ⟨rfl, ?_⟩
    rw [dec_int, Bool.beq_eq_decide_eq]
    exact hk _ _ H (Same.refl _) (repBl.mpr rfl) hr
  · rw [repStr] at r1 r2; subst r1 r2
    refine op_ne pins s σ H _ _ v u Q I rx ry ⟨rfl, ?_⟩
    rw [dec_str, Bool.beq_eq_decide_eq]
    exact hk _ _ H (Same.refl _) (repBl.mpr rfl) hr
  · obtain ⟨p, q, e1, e2, s1, s2, hr⟩ := hr
    exact op_neD hu pins s σ H _ _ v u Q I rx ry ⟨p, q, Rep.dp _ _ _ r1 e1, Rep.dp _ _ _ r2 e2, s1, s2, hk _ _ H (Same.refl _) (repBl.mpr rfl) hr⟩
/-! ### in -/
def inStr (a b : Str) : Bool := !(Builtin.Str.occurrences b a 0 b.length 1).isEmpty
theorem inStr_one (c : Nat) (z : Str) : inStr ⟨#[c]⟩ z = decide (c ∈ z.cps.toList) := PySem.StrLaws.found_one z c
/-- == of flat data -/
def feq : D → D → Bool
  | .non, .non => true
  | .bl a, .bl b => a == b
  | .bl a, .int b => (if a then 1 else 0) == b
  | .int a, .bl b => a == (if b then 1 else 0)
  | .int a, .int b => a == b
  | .str a, .str b => a == b
  | _, _ => false
def inD (x : D) (xs : List D) : Bool := xs.any fun y => feq y x
theorem Rep.flatV {G : Gd} {S : Hid} {H : Hp} {d : D} {v : V} (h : Rep G S H d v) (f : d.flat = true) : flatV v = true := by
  cases d with
  | non => rw [repNon] at h; subst h; rfl
  | bl b => rw [repBl] at h; subst h; rfl
  | int b => rw [repInt] at h; subst h; rfl
  | str b => rw [repStr] at h; subst h; rfl
  | _ => cases f
theorem Rep.feq {G : Gd} {S : Hid} {H : Hp} {d e : D} {v w : V} (h : Rep G S H d v) (h' : Rep G S H e w) (f : d.flat = true) (f' : e.flat = true) : eqV v w = feq d e := by
  cases d with
  | non => rw [repNon] at h; subst h; cases e with
    | non => rw [repNon] at h'; subst h'; rfl
    | bl b => rw [repBl] at h'; subst h'; rfl
    | int b => rw [repInt] at h'; subst h'; rfl
    | str b => rw [repStr] at h'; subst h'; rfl
    | _ => cases f'
  | bl b => rw [repBl] at h; subst h; cases e with
    | non => rw [repNon] at h'; subst h'; rfl
    | bl b => rw [repBl] at h'; subst h'; rfl
    | int b => rw [repInt] at h'; subst h'; rfl
    | str b => rw [repStr] at h'; subst h'; rfl
    | _ => cases f'
  | int b => rw [repInt] at h; subst h; cases e with
    | non => rw [repNon] at h'; subst h'; rfl
    | bl b => rw [repBl] at h'; subst h'; rfl
    | int b => rw [repInt] at h'; subst h'; rfl
    | str b => rw [repStr] at h'; subst h'; rfl
    | _ => cases f'
  | str b => rw [repStr] at h; subst h; cases e with
    | non => rw [repNon] at h'; subst h'; rfl
    | bl b => rw [repBl] at h'; subst h'; rfl
    | int b => rw [repInt] at h'; subst h'; rfl
    | str b => rw [repStr] at h'; subst h'; rfl
    | _ => cases f'
  | _ => cases f
theorem RepL.allFlat {G : Gd} {S : Hid} {H : Hp} : ∀ {ds : List D} {vs : List V}, RepL G S H ds vs → ds.all D.flat = true → vs.all L2.flatV = true
  | [], _, h, _ => by rw [repLnil] at h; subst h; rfl
  | d :: ds, _, h, f => by
    obtain ⟨v, ws, rfl, h1, h2⟩ := repLcons.mp h
    simp only [List.all_cons, Bool.and_eq_true] at f ⊢
    exact ⟨h1.flatV f.1, RepL.allFlat h2 f.2⟩
theorem RepL.inV {G : Gd} {S : Hid} {H : Hp} {x : D} {v : V} (hx : Rep G S H x v) (fx : x.flat = true) : ∀ {ds : List D} {vs : List V}, RepL G S H ds vs → ds.all D.flat = true → L2.inV v vs = inD x ds
  | [], _, h, _ => by rw [repLnil] at h; subst h; rfl
  | d :: ds, _, h, f => by
    obtain ⟨w, ws, rfl, h1, h2⟩ := repLcons.mp h
    simp only [List.all_cons, Bool.and_eq_true] at f
    have ih := RepL.inV hx fx h2 f.2
    unfold L2.inV at ih ⊢
    unfold inD at ih ⊢
    rw [List.any_cons, List.any_cons, ih, h1.feq hx f.1 fx]
def keyD : D → Option Key
  | .int i => some (.inl i)
  | .str x => some (.inr x)
  | _ => none
def lookD {κ : Type} [DecidableEq κ] (kvs : List (κ × D)) (k : κ) : Option D := (kvs.find? fun kv => decide (kv.1 = k)).map (·.2)
theorem RepK.val {G : Gd} {S : Hid} {H : Hp} {k : Key} : ∀ {kvs : List (Key × D)} {ws : List (Key × V)}, RepK G S H kvs ws → match lookD kvs k with
    | some d => ∃ v, valV ws k = some v ∧ Rep G S H d v
    | none => valV ws k = none
  | [], _, h => by rw [repKnil] at h; subst h; rfl
  | (k', d) :: kvs, _, h => by
    obtain ⟨v, ws, rfl, h1, h2⟩ := repKcons.mp h
    by_cases hk : k' = k
    · have e1 : lookD ((k', d) :: kvs) k = some d := by simp [lookD, hk]
      have e2 : valV ((k', v) :: ws) k = some v := by simp [valV, hk]
      rw [e1]
      exact ⟨v, e2, h1⟩
    · have e1 : lookD ((k', d) :: kvs) k = lookD kvs k := by simp [lookD, hk]
      have e2 : valV ((k', v) :: ws) k = valV ws k := by simp [valV, hk]
      rw [e1, e2]
      exact RepK.val h2
theorem keyD_rep {G : Gd} {S : Hid} {H : Hp} {d : D} {v : V} {k : Key} (h : Rep G S H d v) (e : keyD d = some k) : v = kV k := by
  cases d with
  | int i => rw [repInt] at h; cases e; exact h
  | str i => rw [repStr] at h; cases e; exact h
  | _ => cases e
/-- == by the kinds alone, or of flat data -/
def D.isSq : D → Bool
  | .tup _ => true
  | .lst _ => true
  | _ => false
def eqK (x y : D) : Option Bool :=
  if x.flat && y.flat then some (feq x y)
  else if (x.isSq && y.flat) || (x.flat && y.isSq) then some false
  else match x, y with
    | .tup _, .lst _ => some false
    | .lst _, .tup _ => some false
    | _, _ => none
theorem sq_flat {G : Gd} {S : Hid} {H : Hp} {pins : List (Addr × Obj)} {σ : L2.St} {s : Shared} {d e : D} {v w : V} {u u' : Value} {A : Around} (I : L2.Inv X pins σ H s) (r1 : Rep (gd X) S H d v) (r2 : Rep (gd X) S H e w) (q1 : RelV v u) (q2 : RelV w u') (h1 : d.isSq = true) (h2 : e.flat = true) (hu : A.units < cLine) :
    SeqAt.EqAt A s u u' false ∧ SeqAt.EqAt A s u' u false := by
  cases d with
  | tup ds =>
    obtain ⟨a, vs, rfl, h, _⟩ := repTup.mp r1
    cases q1
    obtain ⟨its, rv, p, _⟩ := I.tuple h.seq
    have p : s.heap.IsTuple a its.toArray := p
    cases e with
    | non => rw [repNon] at r2; subst r2; cases q2; exact ⟨.tuple_none p hu, .none_tuple p hu⟩
    | bl b => rw [repBl] at r2; subst r2; cases q2; exact ⟨.tuple_bool b p hu, .bool_tuple b p hu⟩
    | int b => rw [repInt] at r2; subst r2; obtain ⟨t, rfl⟩ := q2; exact ⟨.tuple_int b t p hu, .int_tuple b t p hu⟩
    | str b => rw [repStr] at r2; subst r2; obtain ⟨t, rfl⟩ := q2; exact ⟨.tuple_str b t p hu, .str_tuple b t p hu⟩
    | _ => cases h2
  | lst ds =>
    obtain ⟨a, vs, rfl, h, _⟩ := repLst.mp r1
    cases q1
    obtain ⟨its, rv, pl, _⟩ := I.list h.seq
    have p : s.heap.IsList a its.toArray := pl.isList
    cases e with
    | non => rw [repNon] at r2; subst r2; cases q2; exact ⟨.list_none p hu, .none_list p hu⟩
    | bl b => rw [repBl] at r2; subst r2; cases q2; exact ⟨.list_bool b p hu, .bool_list b p hu⟩
    | int b => rw [repInt] at r2; subst r2; obtain ⟨t, rfl⟩ := q2; exact ⟨.list_int b t p hu, .int_list b t p hu⟩
    | str b => rw [repStr] at r2; subst r2; obtain ⟨t, rfl⟩ := q2; exact ⟨.list_str b t p hu, .str_list b t p hu⟩
    | _ => cases h2
  | _ => cases h1
theorem eqK_at {S : Hid} {H : Hp} {pins : List (Addr × Obj)} {σ : L2.St} {s : Shared} {d e : D} {v w : V} {u u' : Value} {A : Around} {b : Bool} (I : L2.Inv X pins σ H s) (r1 : Rep (gd X) S H d v) (r2 : Rep (gd X) S H e w) (q1 : RelV v u) (q2 : RelV w u') (h : eqK d e = some b) (hu : A.units < cLine) :
    SeqAt.EqAt A s u u' b := by
  unfold eqK at h
  split at h
  · rename_i hf
    simp only [Bool.and_eq_true] at hf
    cases h
    rw [← r1.feq r2 hf.1 hf.2]
    exact eqAt_V q1 q2 (r1.flatV hf.1) (r2.flatV hf.2)
  · split at h
    · rename_i hf
      cases h
      simp only [Bool.or_eq_true, Bool.and_eq_true] at hf
      rcases hf with hf | hf
      · exact (sq_flat (G := gd X) I r1 r2 q1 q2 hf.1 hf.2 hu).1
      · exact (sq_flat (G := gd X) I r2 r1 q2 q1 hf.2 hf.1 hu).2
    · split at h
      · cases h
        obtain ⟨a, vs, rfl, h1, _⟩ := repTup.mp r1
        obtain ⟨a', vs', rfl, h2, _⟩ := repLst.mp r2
        cases q1; cases q2
        obtain ⟨its, rv, p, _⟩ := I.tuple h1.seq
        obtain ⟨its', rv', p', _⟩ := I.list h2.seq
        exact .tuple_list (show s.heap.IsTuple a its.toArray from p) p'.isList hu
      · cases h
        obtain ⟨a, vs, rfl, h1, _⟩ := repLst.mp r1
        obtain ⟨a', vs', rfl, h2, _⟩ := repTup.mp r2
        cases q1; cases q2
        obtain ⟨its, rv, p, _⟩ := I.list h1.seq
        obtain ⟨its', rv', p', _⟩ := I.tuple h2.seq
        exact .list_tuple p.isList (show s.heap.IsTuple a' its'.toArray from p') hu
      · cases h
/-- x in ys, by eqK -/
def inK (x : D) (ys : List D) : Option Bool := match ys with
  | [] => some false
  | y :: r => match eqK y x, inK x r with
    | some b, some c => some (b || c)
    | _, _ => none
theorem eqK_V {G : Gd} {S : Hid} {H : Hp} {d e : D} {v w : V} {b : Bool} (r1 : Rep G S H d v) (r2 : Rep G S H e w) (h : eqK d e = some b) : eqV v w = b := by
  unfold eqK at h
  have ref1 : ∀ a, eqV (.ref a) w = false := fun a => by cases w <;> rfl
  have ref2 : ∀ a, eqV v (.ref a) = false := fun a => by cases v <;> rfl
  split at h
  · rename_i hf
    simp only [Bool.and_eq_true] at hf
    cases h
    exact r1.feq r2 hf.1 hf.2
  · split at h
    · rename_i hf
      cases h
      simp only [Bool.or_eq_true, Bool.and_eq_true] at hf
      rcases hf with hf | hf
      · cases d with
        | tup ds => obtain ⟨a, vs, rfl, _⟩ := repTup.mp r1; exact ref1 a
        | lst ds => obtain ⟨a, vs, rfl, _⟩ := repLst.mp r1; exact ref1 a
        | _ => cases hf.1
      · cases e with
        | tup ds => obtain ⟨a, vs, rfl, _⟩ := repTup.mp r2; exact ref2 a
        | lst ds => obtain ⟨a, vs, rfl, _⟩ := repLst.mp r2; exact ref2 a
        | _ => cases hf.2
    · split at h
      · cases h
        obtain ⟨a, vs, rfl, _⟩ := repTup.mp r1; exact ref1 a
      · cases h
        obtain ⟨a, vs, rfl, _⟩ := repLst.mp r1; exact ref1 a
      · cases h
def eqW (v : V) (y : Value) : Bool := match absV y with
  | some v' => eqV v' v
  | none => false
theorem inK_at {S : Hid} {H : Hp} {pins : List (Addr × Obj)} {σ : L2.St} {s : Shared} {x : D} {v : V} {u : Value} {A : Around} (I : L2.Inv X pins σ H s) (r : Rep (gd X) S H x v) (q : RelV v u) (hu : A.units < cLine) :
    ∀ (ys : List D) (vs : List V) (us : List Value) (b : Bool), RepL (gd X) S H ys vs → Vals vs us → inK x ys = some b → (∀ y ∈ us, SeqAt.EqAt A s y u (eqW v y)) ∧ us.any (eqW v) = b
  | [], vs, us, b, hr, hv, h => by
    rw [repLnil] at hr; subst hr
    cases hv
    cases h
    exact ⟨fun _ z => (by cases z), rfl⟩
  | d :: ds, vs, us, b, hr, hv, h => by
    obtain ⟨w, ws, rfl, h1, h2⟩ := repLcons.mp hr
    cases hv with
    | cons rv hv =>
      rename_i y us
      unfold inK at h
      cases e1 : eqK d x with
      | none => rw [e1] at h; cases h
      | some b1 =>
        rw [e1] at h
        cases e2 : inK x ds with
        | none => rw [e2] at h; cases h
        | some b2 =>
          rw [e2] at h
          cases h
          obtain ⟨ih1, ih2⟩ := inK_at I r q hu ds ws us b2 h2 hv e2
          have ew : eqW v y = b1 := by
            unfold eqW
            rw [rv.abs]
            exact eqK_V h1 r e1
          refine ⟨fun z hz => ?_, by rw [List.any_cons, ew, ih2]⟩
          rcases List.mem_cons.mp hz with rfl | hz
          · rw [ew]
            exact eqK_at I h1 r rv q e1 hu
          · exact ih1 z hz
def dIn : RD2 := fun x y k => match y with
  | .str b => match x with
    | .str a => k (.bl (inStr a b))
    | _ => False
  | .lst ys => match inK x ys with
    | some b => k (.bl b)
    | none => False
  | .tup ys => match inK x ys with
    | some b => k (.bl b)
    | none => False
  | .dK kvs => match keyD x with
    | some key => k (.bl (lookD kvs key).isSome)
    | none => False
  | _ => False
def dNotIn : RD2 := fun x y k => match y with
  | .str b => match x with
    | .str a => k (.bl (!inStr a b))
    | _ => False
  | .lst ys => match inK x ys with
    | some b => k (.bl (!b))
    | none => False
  | .tup ys => match inK x ys with
    | some b => k (.bl (!b))
    | none => False
  | .dK kvs => match keyD x with
    | some key => k (.bl (!(lookD kvs key).isSome))
    | none => False
  | _ => False
theorem lookD_some {G : Gd} {S : Hid} {H : Hp} {k : Key} {kvs : List (Key × D)} {ws : List (Key × V)} (h : RepK G S H kvs ws) : (valV ws k).isSome = (lookD kvs k).isSome := by
  have q := h.val (k := k)
  cases e : lookD kvs k with
  | none => rw [e] at q; rw [q]; rfl
  | some d => rw [e] at q; obtain ⟨v, q1, _⟩ := q; rw [q1]; rfl
theorem do_in (hu : X.A.units + 2 < cLine) : DOp X (compareOp .In) dIn := by
  intro pins s σ H x y v u Q I rx ry h
  obtain ⟨S, dx, dy, k, hd, r1, r2, hr, hk⟩ := h
  have fin : ∀ b, k (.bl b) → Q (.bl b) H := fun b hb => hk _ _ H (Same.refl _) (repBl.mpr rfl) hb
  have hu1 : X.A.in1.units < cLine := by show X.A.units + 1 < cLine; omega
  cases dy with
  | str b =>
    cases dx with
    | str a =>
      rw [repStr] at r1 r2; subst r1 r2
      exact op_in_str pins s σ H _ _ v u Q I rx ry ⟨a, b, rfl, rfl, fin _ hr⟩
    | _ => exact hr.elim
  | lst ys =>
    obtain ⟨a, vs, rfl, h1, h2⟩ := repLst.mp r2
    cases ry
    unfold dIn at hr
    dsimp only at hr
    cases e : inK dx ys with
    | none => rw [e] at hr; exact hr.elim
    | some b =>
      rw [e] at hr
      obtain ⟨its, rv, pl, _⟩ := I.list h1.seq
      obtain ⟨q1, q2⟩ := inK_at (A := X.A.in1) I r1 rx hu1 ys vs its b h2 rv e
      refine SeqAt.in_listAt (eqW x) pl.isList (fun y hy => q1 y (by simpa using hy)) ⟨.bl b, H, I, ?_, fin _ hr⟩
      rw [show its.toArray.any (eqW x) = its.any (eqW x) by simp, q2]
      rfl
  | tup ys =>
    obtain ⟨a, vs, rfl, h1, h2⟩ := repTup.mp r2
    cases ry
    unfold dIn at hr
    dsimp only at hr
    cases e : inK dx ys with
    | none => rw [e] at hr; exact hr.elim
    | some b =>
      rw [e] at hr
      obtain ⟨its, rv, pl, _⟩ := I.tuple h1.seq
      obtain ⟨q1, q2⟩ := inK_at (A := X.A.in1) I r1 rx hu1 ys vs its b h2 rv e
      refine SeqAt.in_tupleAt (eqW x) (show s.heap.IsTuple a its.toArray from pl) (fun y hy => q1 y (by simpa using hy)) ⟨.bl b, H, I, ?_, fin _ hr⟩
      rw [show its.toArray.any (eqW x) = its.any (eqW x) by simp, q2]
      rfl
  | dK kvs =>
    obtain ⟨a, ws, rfl, ⟨_, h1⟩, h2⟩ := repDK.mp r2
    cases ry
    unfold dIn at hr
    dsimp only at hr
    cases e : keyD dx with
    | none => rw [e] at hr; exact hr.elim
    | some key =>
      rw [e] at hr
      have ek := keyD_rep r1 e
      subst ek
      refine d_in (by omega) I (DGet.k h1) rx fun s' I' => ⟨.bl _, H, I', rfl, ?_⟩
      rw [lookD_some h2]
      exact fin _ hr
  | _ => exact hr.elim
theorem do_notIn (hu : X.A.units + 2 < cLine) : DOp X (compareOp .NotIn) dNotIn := by
  intro pins s σ H x y v u Q I rx ry h
  obtain ⟨S, dx, dy, k, hd, r1, r2, hr, hk⟩ := h
  have fin : ∀ b, k (.bl b) → Q (.bl b) H := fun b hb => hk _ _ H (Same.refl _) (repBl.mpr rfl) hb
  have hu1 : X.A.in1.units < cLine := by show X.A.units + 1 < cLine; omega
  cases dy with
  | str b =>
    cases dx with
    | str a =>
      rw [repStr] at r1 r2; subst r1 r2
      exact op_notin_str pins s σ H _ _ v u Q I rx ry ⟨a, b, rfl, rfl, fin _ hr⟩
    | _ => exact hr.elim
  | lst ys =>
    obtain ⟨a, vs, rfl, h1, h2⟩ := repLst.mp r2
    cases ry
    unfold dNotIn at hr
    dsimp only at hr
    cases e : inK dx ys with
    | none => rw [e] at hr; exact hr.elim
    | some b =>
      rw [e] at hr
      obtain ⟨its, rv, pl, _⟩ := I.list h1.seq
      obtain ⟨q1, q2⟩ := inK_at (A := X.A.in1) I r1 rx hu1 ys vs its b h2 rv e
      refine SeqAt.notIn_listAt (eqW x) pl.isList (fun y hy => q1 y (by simpa using hy)) ⟨.bl (!b), H, I, ?_, fin _ hr⟩
      rw [show its.toArray.any (eqW x) = its.any (eqW x) by simp, q2]
      rfl
  | tup ys =>
    obtain ⟨a, vs, rfl, h1, h2⟩ := repTup.mp r2
    cases ry
    unfold dNotIn at hr
    dsimp only at hr
    cases e : inK dx ys with
    | none => rw [e] at hr; exact hr.elim
    | some b =>
      rw [e] at hr
      obtain ⟨its, rv, pl, _⟩ := I.tuple h1.seq
      obtain ⟨q1, q2⟩ := inK_at (A := X.A.in1) I r1 rx hu1 ys vs its b h2 rv e
      refine SeqAt.notIn_tupleAt (eqW x) (show s.heap.IsTuple a its.toArray from pl) (fun y hy => q1 y (by simpa using hy)) ⟨.bl (!b), H, I, ?_, fin _ hr⟩
      rw [show its.toArray.any (eqW x) = its.any (eqW x) by simp, q2]
      rfl
  | dK kvs =>
    obtain ⟨a, ws, rfl, ⟨_, h1⟩, h2⟩ := repDK.mp r2
    cases ry
    unfold dNotIn at hr
    dsimp only at hr
    cases e : keyD dx with
    | none => rw [e] at hr; exact hr.elim
    | some key =>
      rw [e] at hr
      have ek := keyD_rep r1 e
      subst ek
      refine d_notIn (by omega) I (DGet.k h1) rx fun s' I' => ⟨.bl _, H, I', rfl, ?_⟩
      rw [lookD_some h2]
      exact fin _ hr
  | _ => exact hr.elim
end
end Q
set_option Elab.async false
set_option linter.all false
set_option maxRecDepth 100000
set_option maxHeartbeats 2000000
/-! QBi: built-in functions, subscripts, slices, methods of texts and lists, by plain data. -/
namespace Q
open PySem PySem.Spec PyProof.Rows L2
section
variable {X : Cx} {kx : XC} {e e1 e2 o a b : Expr} {es : List Expr} {w wo wa' wb : WE} {wa : WA} {pos p apos cpos p2 : Pos} {x : Str} {bid T : String}
/-! ### calls -/
def DCa (X : Cx) (f : Value) (r : RDs) : Prop := CallR X f (LCa (gd X) r)
def wB (r : RDs) (wa : WA) : WE := fun ρ k => wa ρ fun ds ρ1 => r ds fun z => k z ρ1
theorem lcb {β : Base} {r : RDs} {σ : L2.St} {H : Hp} {Q : VK} (h : LE X kx β (wB r wa) σ H Q) : tCB (LCa (gd X) r) (LA X kx β wa) σ H Q := by
  obtain ⟨xk, S, ρ, k, st, hw, hk⟩ := h
  exact ⟨xk, S, ρ, _, st, hw, fun ds ρ1 vs H1 S1 ex1 st1 r1 q => ⟨S1, ds, _, st1.sdom, r1, q, fun d v H' sm rp q => hk d ρ1 v H' S1 (ex1.trans (.same sm)) (st1.grow sm) rp q⟩⟩
theorem de_callB {r : RDs} (hc : DCa X (.builtin bid) r) (hg : Gl X x) (hm : X.mg x = none) (hv : bootBuiltins x = some (.builtin bid)) (ha : DA X kx (e :: es) wa) (hn : x ≠ "__name__" := by decide) (hdb : (x == ("__debug__" : Str)) = false := by decide)
    (he : starEach (e :: es) X.env = (false, eval e X.env) :: starEach es X.env := by rfl) (hpl : (backTo pos (starEach es X.env)).any (·.1) = false := by rfl) : DE X kx (.Call (.Name x p) (e :: es) [] pos) (wB r wa) :=
  ⟨fun β => PE.imp (pe_callB hc hg hm hv (ha.run β) hn hdb he hpl) fun _ _ _ h => lcb h⟩
theorem de_callTy {r : RDs} (hc : DCa X (.type T) r) (hg : Gl X x) (hm : X.mg x = none) (hv : bootBuiltins x = some (.type T)) (ha : DA X kx (e :: es) wa) (hn : x ≠ "__name__" := by decide) (hdb : (x == ("__debug__" : Str)) = false := by decide)
    (he : starEach (e :: es) X.env = (false, eval e X.env) :: starEach es X.env := by rfl) (hpl : (backTo pos (starEach es X.env)).any (·.1) = false := by rfl) : DE X kx (.Call (.Name x p) (e :: es) [] pos) (wB r wa) :=
  ⟨fun β => PE.imp (pe_callTy hc hg hm hv (ha.run β) hn hdb he hpl) fun _ _ _ h => lcb h⟩
/-- a call that makes a new container -/
def LCaF (G : Gd) (r : RDs) : List V → Hp → VK → Prop := fun xs H Q => ∃ S ds k, (∀ a, S a → ∃ o, H a = some o) ∧ RepL G S H ds xs ∧ r ds k ∧ ∀ d p H', Same H H' → H p = none → OwnAt G (fun a => S a ∨ a = p) H' p d → k d → Q (.ref p) H'
theorem lcf {β : Base} {r : RDs} {σ : L2.St} {H : Hp} {Q : VK} (h : LF X kx β (wB r wa) σ H Q) : tCB (LCaF (gd X) r) (LA X kx β wa) σ H Q := by
  obtain ⟨xk, S, ρ, k, st, hw, hk⟩ := h
  refine ⟨xk, S, ρ, _, st, hw, fun ds ρ1 vs H1 S1 ex1 st1 r1 q => ⟨S1, ds, _, st1.sdom, r1, q, fun d p H' sm np own q => ?_⟩⟩
  obtain ⟨o, ho⟩ := own.some
  obtain ⟨_, nO, mi⟩ := st1.new_mine np
  exact hk d ρ1 p o H' _ (ex1.trans fun a u n e => ⟨fun z => z.elim n (ne_of_none e np), sm a u e⟩) (st1.hide' np sm ho) own mi nO q
def DCaF (X : Cx) (f : Value) (r : RDs) : Prop := CallR X f (LCaF (gd X) r)
theorem df_callTy {r : RDs} (hc : DCaF X (.type T) r) (hg : Gl X x) (hm : X.mg x = none) (hv : bootBuiltins x = some (.type T)) (ha : DA X kx (e :: es) wa) (hn : x ≠ "__name__" := by decide) (hdb : (x == ("__debug__" : Str)) = false := by decide)
    (he : starEach (e :: es) X.env = (false, eval e X.env) :: starEach es X.env := by rfl) (hpl : (backTo pos (starEach es X.env)).any (·.1) = false := by rfl) : DF X kx (.Call (.Name x p) (e :: es) [] pos) (wB r wa) :=
  ⟨fun β => PE.imp (pe_callTy hc hg hm hv (ha.run β) hn hdb he hpl) fun _ _ _ h => lcf h⟩
theorem OwnAt.newL {G : Gd} {S : Hid} {H : Hp} {p : Addr} {ds : List D} {vs : List V} (np : H p = none) (r : RepL G S H ds vs) : OwnAt G (fun a => S a ∨ a = p) (upd H p (.lst vs)) p (.lst ds) := ⟨vs, upd_same, r.up (ext_take np)⟩
/-! ### length -/
def rLenD : RDs := fun ds k => match ds with
  | [.str z] => z.length ≤ sizeLine ∧ k (.int z.length)
  | [.lst xs] => k (.int xs.length)
  | [.tup xs] => k (.int xs.length)
  | [.dK xs] => k (.int xs.length)
  | _ => False
theorem RepK.length {G : Gd} {S : Hid} {H : Hp} : ∀ {ds : List (Key × D)} {vs : List (Key × V)}, RepK G S H ds vs → vs.length = ds.length
  | [], _, h => by rw [repKnil] at h; rw [h]; rfl
  | (k, d) :: ds, _, h => by
    rw [repKcons] at h
    obtain ⟨v, ws, rfl, _, h2⟩ := h
    simp [RepK.length h2]
theorem dc_len : DCa X (.builtin "len") rLenD := by
  intro pins s σ H xs us Q I r h
  obtain ⟨S, ds, k, hd, rp, hr, hk⟩ := h
  unfold rLenD at hr
  have fin : ∀ n : Int, k (.int n) → Q (.int n) H := fun n q => hk _ _ H (Same.refl _) (repInt.mpr rfl) q
  split at hr
  · obtain ⟨v, rfl, r1⟩ := rep1 rp
    rw [repStr] at r1; subst r1
    exact call_len pins s σ H _ us Q I r ⟨_, _, rfl, ⟨hr.1, rfl⟩, fin _ hr.2⟩
  · obtain ⟨v, rfl, r1⟩ := rep1 rp
    obtain ⟨a, vs, rfl, h1, h2⟩ := repLst.mp r1
    exact call_len pins s σ H _ us Q I r ⟨_, _, rfl, .inl ⟨vs, h1.seq, rfl⟩, by rw [h2.length]; exact fin _ hr⟩
  · obtain ⟨v, rfl, r1⟩ := rep1 rp
    obtain ⟨a, vs, rfl, h1, h2⟩ := repTup.mp r1
    exact call_len pins s σ H _ us Q I r ⟨_, _, rfl, .inr ⟨vs, h1.seq, rfl⟩, by rw [h2.length]; exact fin _ hr⟩
  · obtain ⟨v, rfl, r1⟩ := rep1 rp
    obtain ⟨a, vs, rfl, ⟨_, h1⟩, h2⟩ := repDK.mp r1
    exact call_lenD pins s σ H _ us Q I r ⟨a, vs, rfl, h1, by rw [h2.length]; exact fin _ hr⟩
  · exact hr.elim
/-! ### all, any -/
def rAllD : RDs := fun ds k => ∃ bs : List Bool, ds = [.lst (bs.map D.bl)] ∧ k (.bl (bs.all id))
def rAnyD : RDs := fun ds k => ∃ bs : List Bool, ds = [.lst (bs.map D.bl)] ∧ k (.bl (bs.any id))
theorem RepL.bls {G : Gd} {S : Hid} {H : Hp} : ∀ {bs : List Bool} {vs : List V}, RepL G S H (bs.map D.bl) vs → vs = bs.map V.bl
  | [], _, h => by rw [List.map_nil, repLnil] at h; rw [h]; rfl
  | b :: bs, _, h => by
    rw [List.map_cons, repLcons] at h
    obtain ⟨v, ws, rfl, h1, h2⟩ := h
    rw [repBl] at h1; subst h1
    rw [RepL.bls h2]; rfl
theorem RepL.strs {G : Gd} {S : Hid} {H : Hp} : ∀ {bs : List Str} {vs : List V}, RepL G S H (bs.map D.str) vs → vs = bs.map V.str
  | [], _, h => by rw [List.map_nil, repLnil] at h; rw [h]; rfl
  | b :: bs, _, h => by
    rw [List.map_cons, repLcons] at h
    obtain ⟨v, ws, rfl, h1, h2⟩ := h
    rw [repStr] at h1; subst h1
    rw [RepL.strs h2]; rfl
theorem RepL.intsE {G : Gd} {S : Hid} {H : Hp} : ∀ {bs : List Int} {vs : List V}, RepL G S H (bs.map D.int) vs → vs = bs.map V.int
  | [], _, h => by rw [List.map_nil, repLnil] at h; rw [h]; rfl
  | b :: bs, _, h => by
    rw [List.map_cons, repLcons] at h
    obtain ⟨v, ws, rfl, h1, h2⟩ := h
    rw [repInt] at h1; subst h1
    rw [RepL.intsE h2]; rfl
theorem RepL.mkStrs {G : Gd} {S : Hid} {H : Hp} {ns : List Str} : RepL G S H (ns.map D.str) (ns.map V.str) := by
  refine RepL.of_get (by simp) fun i d v e1 e2 => ?_
  rw [List.getElem?_map] at e1 e2
  cases e : ns[i]? with
  | none => rw [e] at e1; cases e1
  | some n =>
    rw [e] at e1 e2
    cases e1; cases e2
    exact repStr.mpr rfl
theorem dc_all (hc : X.calm = true) : DCa X (.builtin "all") rAllD := by
  intro pins s σ H xs us Q I r h
  obtain ⟨S, ds, k, hd, rp, ⟨bs, rfl, hr⟩, hk⟩ := h
  obtain ⟨v, rfl, r1⟩ := rep1 rp
  obtain ⟨a, vs, rfl, h1, h2⟩ := repLst.mp r1
  obtain rfl := h2.bls
  exact cr_all hc pins s σ H _ us Q I r ⟨a, bs, rfl, h1.seq, hk _ _ H (Same.refl _) (repBl.mpr rfl) hr⟩
theorem dc_any (hc : X.calm = true) : DCa X (.builtin "any") rAnyD := by
  intro pins s σ H xs us Q I r h
  obtain ⟨S, ds, k, hd, rp, ⟨bs, rfl, hr⟩, hk⟩ := h
  obtain ⟨v, rfl, r1⟩ := rep1 rp
  obtain ⟨a, vs, rfl, h1, h2⟩ := repLst.mp r1
  obtain rfl := h2.bls
  exact cr_any hc pins s σ H _ us Q I r ⟨a, bs, rfl, h1.seq, hk _ _ H (Same.refl _) (repBl.mpr rfl) hr⟩
/-! ### tuple, list -/
def rTupOf : RDs := fun ds k => match ds with
  | [.lst xs] => k (.tup xs)
  | [.tup xs] => k (.tup xs)
  | _ => False
theorem dc_tuple : DCa X (.type "tuple") rTupOf := by
  intro pins s σ H xs us Q I r h
  obtain ⟨S, ds, k, hd, rp, hr, hk⟩ := h
  unfold rTupOf at hr
  split at hr
  · obtain ⟨v, rfl, r1⟩ := rep1 rp
    obtain ⟨a, vs, rfl, h1, h2⟩ := repLst.mp r1
    exact call_tuple_of pins s σ H _ us Q I r ⟨a, vs, rfl, .inl ⟨h1.seq, fun l hl => hk _ _ _ (same_upd hl) (repTup.mpr ⟨l, vs, rfl, .inl ⟨hid_new hd hl, .inl upd_same⟩, h2.up (.same (same_upd hl))⟩) hr⟩⟩
  · obtain ⟨v, rfl, r1⟩ := rep1 rp
    have r1' := r1
    obtain ⟨a, vs, rfl, h1, h2⟩ := repTup.mp r1
    exact call_tuple_of pins s σ H _ us Q I r ⟨a, vs, rfl, .inr ⟨h1.seq, hk _ _ H (Same.refl _) r1' hr⟩⟩
  · exact hr.elim
def rLstOf : RDs := fun ds k => match ds with
  | [.lst xs] => k (.lst xs)
  | [.tup xs] => k (.lst xs)
  | _ => False
theorem dc_list : DCaF X (.type "list") rLstOf := by
  intro pins s σ H xs us Q I r h
  obtain ⟨S, ds, k, hd, rp, hr, hk⟩ := h
  unfold rLstOf at hr
  split at hr
  · obtain ⟨v, rfl, r1⟩ := rep1 rp
    obtain ⟨a, vs, rfl, h1, h2⟩ := repLst.mp r1
    exact call_list_of pins s σ H _ us Q I r ⟨a, vs, rfl, .inl h1.seq, fun l hl => hk _ l _ (same_upd hl) hl (OwnAt.newL hl h2) hr⟩
  · obtain ⟨v, rfl, r1⟩ := rep1 rp
    obtain ⟨a, vs, rfl, h1, h2⟩ := repTup.mp r1
    exact call_list_of pins s σ H _ us Q I r ⟨a, vs, rfl, .inr h1.seq, fun l hl => hk _ l _ (same_upd hl) hl (OwnAt.newL hl h2) hr⟩
  · exact hr.elim
/-! ### numbers -/
def rMax2 : RDs := fun ds k => match ds with
  | [.int i, .int j] => k (.int (if j > i then j else i))
  | _ => False
def rMin2 : RDs := fun ds k => match ds with
  | [.int i, .int j] => k (.int (if j < i then j else i))
  | _ => False
def rAbs : RDs := fun ds k => match ds with
  | [.int i] => k (.int (if i < 0 then -i else i))
  | _ => False
theorem dc_max2 (hc : X.calm = true) : DCa X (.builtin "max") rMax2 := by
  intro pins s σ H xs us Q I r h
  obtain ⟨S, ds, k, hd, rp, hr, hk⟩ := h
  unfold rMax2 at hr
  split at hr
  · obtain ⟨v, w, rfl, r1, r2⟩ := rep2 rp
    rw [repInt] at r1 r2; subst r1 r2
    exact call_max2 hc pins s σ H _ us Q I r ⟨_, _, rfl, hk _ _ H (Same.refl _) (repInt.mpr rfl) hr⟩
  · exact hr.elim
theorem dc_min2 (hc : X.calm = true) : DCa X (.builtin "min") rMin2 := by
  intro pins s σ H xs us Q I r h
  obtain ⟨S, ds, k, hd, rp, hr, hk⟩ := h
  unfold rMin2 at hr
  split at hr
  · obtain ⟨v, w, rfl, r1, r2⟩ := rep2 rp
    rw [repInt] at r1 r2; subst r1 r2
    exact call_min2 hc pins s σ H _ us Q I r ⟨_, _, rfl, hk _ _ H (Same.refl _) (repInt.mpr rfl) hr⟩
  · exact hr.elim
theorem dc_abs : DCa X (.builtin "abs") rAbs := by
  intro pins s σ H xs us Q I r h
  obtain ⟨S, ds, k, hd, rp, hr, hk⟩ := h
  unfold rAbs at hr
  split at hr
  · obtain ⟨v, rfl, r1⟩ := rep1 rp
    rw [repInt] at r1; subst r1
    exact call_abs pins s σ H _ us Q I r ⟨_, rfl, hk _ _ H (Same.refl _) (repInt.mpr rfl) hr⟩
  · exact hr.elim
/-- int(x): an int, a bool, a text -/
def rIntOf : RDs := fun ds k => match ds with
  | [.int i] => k (.int i)
  | [.bl b] => k (.int (if b then 1 else 0))
  | [.str z] => z.length ≤ 640 ∧ ∃ n, PySem.intText? z = some n ∧ k (.int n)
  | _ => False
theorem dc_int : DCa X (.type "int") rIntOf := by
  intro pins s σ H xs us Q I r h
  obtain ⟨S, ds, k, hd, rp, hr, hk⟩ := h
  unfold rIntOf at hr
  split at hr
  · obtain ⟨v, rfl, r1⟩ := rep1 rp
    rw [repInt] at r1; subst r1
    exact call_int1 pins s σ H _ us Q I r (.inl ⟨_, rfl, hk _ _ H (Same.refl _) (repInt.mpr rfl) hr⟩)
  · obtain ⟨v, rfl, r1⟩ := rep1 rp
    rw [repBl] at r1; subst r1
    exact call_int1 pins s σ H _ us Q I r (.inr ⟨_, rfl, hk _ _ H (Same.refl _) (repInt.mpr rfl) hr⟩)
  · obtain ⟨v, rfl, r1⟩ := rep1 rp
    rw [repStr] at r1; subst r1
    obtain ⟨hz, n, e, hr⟩ := hr
    exact call_int_str pins s σ H _ us Q I r ⟨_, n, rfl, e, hz, hk _ _ H (Same.refl _) (repInt.mpr rfl) hr⟩
  · exact hr.elim
/-- str(x): an int, a text -/
def rStrOf : RDs := fun ds k => match ds with
  | [.int i] => i.natAbs.log2 < 1920 ∧ k (.str (toString i))
  | [.str z] => k (.str z)
  | _ => False
theorem dc_str : DCa X (.type "str") rStrOf := by
  intro pins s σ H xs us Q I r h
  obtain ⟨S, ds, k, hd, rp, hr, hk⟩ := h
  unfold rStrOf at hr
  split at hr
  · obtain ⟨v, rfl, r1⟩ := rep1 rp
    rw [repInt] at r1; subst r1
    exact call_str_int pins s σ H _ us Q I r ⟨_, rfl, hr.1, hk _ _ H (Same.refl _) (repStr.mpr rfl) hr.2⟩
  · obtain ⟨v, rfl, r1⟩ := rep1 rp
    rw [repStr] at r1; subst r1
    exact SkE.call_str_str pins s σ H _ us Q I r ⟨_, rfl, hk _ _ H (Same.refl _) (repStr.mpr rfl) hr⟩
  · exact hr.elim
def rDivmod : RDs := fun ds k => match ds with
  | [.int i, .int j] => CDiv i j ∧ k (.tup [.int (i / j), .int (i % j)])
  | _ => False
theorem dc_divmod : DCa X (.builtin "divmod") rDivmod := by
  intro pins s σ H xs us Q I r h
  obtain ⟨S, ds, k, hd, rp, hr, hk⟩ := h
  unfold rDivmod at hr
  split at hr
  · obtain ⟨v, w, rfl, r1, r2⟩ := rep2 rp
    rw [repInt] at r1 r2; subst r1 r2
    exact call_divmod pins s σ H _ us Q I r ⟨_, _, rfl, hr.1, fun l hl => hk _ _ _ (same_upd hl) (repTup.mpr ⟨l, _, rfl, .inl ⟨hid_new hd hl, .inl upd_same⟩, repLcons.mpr ⟨_, _, rfl, repInt.mpr rfl, .one (repInt.mpr rfl)⟩⟩) hr.2⟩
  · exact hr.elim
/-! ### isinstance of a built-in class -/
def D.ty : D → String
  | .non => "NoneType"
  | .bl _ => "bool"
  | .int _ => "int"
  | .str _ => "str"
  | .tup _ => "tuple"
  | .lst _ => "list"
  | .dK _ => "dict"
  | .dT _ => "dict"
  | .ins _ _ => ""
theorem Rep.tyx {G : Gd} {S : Hid} {H : Hp} {d : D} {v : V} (h : Rep G S H d v) (n : d.ty ≠ "") : TyX G.K H v (.type d.ty) := by
  cases d with
  | non => rw [repNon] at h; subst h; exact .base .non
  | bl b => rw [repBl] at h; subst h; exact .base (.bl b)
  | int b => rw [repInt] at h; subst h; exact .base (.int b)
  | str b => rw [repStr] at h; subst h; exact .base (.str b)
  | tup ds =>
    obtain ⟨a, vs, rfl, h1, _⟩ := repTup.mp h
    rcases h1 with ⟨_, h1 | ⟨o, h1⟩⟩ | ⟨o, its, n, h1, h2, _⟩
    · exact .base (.tup h1)
    · exact .fTuple h1
    · exact .kTuple h1 h2
  | lst ds =>
    obtain ⟨a, vs, rfl, h1, _⟩ := repLst.mp h
    rcases h1 with ⟨_, h1 | ⟨o, h1⟩⟩ | ⟨o, its, n, h1, h2, _⟩
    · exact .base (.lst h1)
    · exact .base (.frz h1)
    · exact .kList h1 h2
  | dK ds => obtain ⟨a, vs, rfl, ⟨_, h1⟩, _⟩ := repDK.mp h; exact .base (.dK h1)
  | dT ds => obtain ⟨a, vs, rfl, ⟨_, h1⟩, _⟩ := repDT.mp h; exact .base (.dT h1)
  | ins c fs => exact absurd rfl n
/-- is d of the built-in class T -/
def D.isa (T : String) (d : D) : Option Bool := if d.ty = "" then none else kitB d.ty T
def wIsi (T : String) (w : WE) : WE := fun ρ k => w ρ fun d ρ1 => match d.isa T with
  | some b => k (.bl b) ρ1
  | none => False
theorem de_isi {y : Str} {py : Pos} (hg : Gl X "isinstance") (hm : X.mg "isinstance" = none) (hgy : Gl X y) (hmy : X.mg y = none) (hv : bootBuiltins y = some (.type T)) (h : DE X kx e w) (hny : y ≠ "__name__" := by decide) (hdb : (y == ("__debug__" : Str)) = false := by decide)
    (hb : bootBuiltins "isinstance" = some (.builtin "isinstance")) (hs : starEach [e, .Name y py] X.env = [(false, eval e X.env), (false, eval (.Name y py) X.env)] := by rfl) (hs2 : starEach [.Name y py] X.env = [(false, eval (.Name y py) X.env)] := by rfl) (hpl : (backTo pos (starEach [.Name y py] X.env)).any (·.1) = false := by rfl) :
    DE X kx (.Call (.Name "isinstance" p) [e, .Name y py] [] pos) (wIsi T w) :=
  ⟨fun β => PE.imp (pe_callB call_isi hg hm hb (pa_cons (h.run β) (pa_cons (pe_bltn (v := .ty T) hgy hmy hv rfl hny hdb) pa_nil hs2) hs) (by decide) (by decide) hs hpl) fun σ H Q ⟨xk, S, ρ, k, st, hw, hk⟩ => ⟨xk, S, ρ, _, st, hw, fun d ρ1 v H1 S1 ex1 st1 r1 q => by
    unfold D.isa at q
    by_cases n : d.ty = ""
    · rw [if_pos n] at q; exact q.elim
    · rw [if_neg n] at q
      cases e : kitB d.ty T with
      | none => rw [e] at q; exact q.elim
      | some b =>
        rw [e] at q
        exact ⟨v, .ty T, _, _, b, rfl, .ty T, r1.tyx n, kit_ty e, hk _ ρ1 _ H1 S1 ex1 st1 (repBl.mpr rfl) q⟩⟩⟩
/-! ### subscripts -/
theorem RepL.atI {G : Gd} {S : Hid} {H : Hp} {ds : List D} {vs : List V} {i : Int} {d : D} (h : RepL G S H ds vs) (e : atI ds i = some d) : ∃ v, L2.atI vs i = some v ∧ Rep G S H d v := by
  unfold L2.atI at e ⊢
  rw [h.length]
  cases q : ixN ds.length i with
  | none => rw [q] at e; cases e
  | some j =>
    rw [q] at e
    obtain ⟨v, e1, e2⟩ := h.get (i := j) e
    exact ⟨v, e1, e2⟩
def dIx : RD2 := fun x y k => match y with
  | .int i => match x with
    | .lst xs => match atI xs i with
      | some d => k d
      | none => False
    | .tup xs => match atI xs i with
      | some d => k d
      | none => False
    | .str z => z.length ≤ sizeLine ∧ match atI z.cps.toList i with
      | some c => k (.str ⟨#[c]⟩)
      | none => False
    | _ => False
  | _ => False
theorem di_ix : IxR X (LOp (gd X) dIx) := by
  intro value slice pins s σ H x y v u Q I rx ry h hsub
  obtain ⟨S, dx, dy, k, hd, r1, r2, hr, hk⟩ := h
  cases dy with
  | int i =>
    rw [repInt] at r2; subst r2
    cases dx with
    | lst xs =>
      obtain ⟨a, vs, rfl, h1, h2⟩ := repLst.mp r1
      unfold dIx at hr
      dsimp only at hr
      cases e : atI xs i with
      | none => rw [e] at hr; exact hr.elim
      | some d =>
        rw [e] at hr
        obtain ⟨z, e1, e2⟩ := h2.atI e
        exact ix_list value slice pins s σ H _ _ v u Q I rx ry ⟨a, vs, i, z, rfl, rfl, h1.seq, e1, hk d z H (Same.refl _) e2 hr⟩ hsub
    | tup xs =>
      obtain ⟨a, vs, rfl, h1, h2⟩ := repTup.mp r1
      unfold dIx at hr
      dsimp only at hr
      cases e : atI xs i with
      | none => rw [e] at hr; exact hr.elim
      | some d =>
        rw [e] at hr
        obtain ⟨z, e1, e2⟩ := h2.atI e
        exact ix_tup value slice pins s σ H _ _ v u Q I rx ry ⟨a, vs, i, z, rfl, rfl, h1.seq, e1, hk d z H (Same.refl _) e2 hr⟩ hsub
    | str z =>
      rw [repStr] at r1; subst r1
      unfold dIx at hr
      dsimp only at hr
      cases e : atI z.cps.toList i with
      | none => rw [e] at hr; exact hr.2.elim
      | some c =>
        rw [e] at hr
        exact ix_str value slice pins s σ H _ _ v u Q I rx ry ⟨z, i, c, rfl, rfl, hr.1, e, hk _ _ H (Same.refl _) (repStr.mpr rfl) hr.2⟩ hsub
    | _ => exact hr.elim
  | _ => exact hr.elim
theorem de_ix (ha : DE X kx a w) (hb : DE X kx b wb) (hs : PlainIx b := by exact fun _ _ => rfl) : DE X kx (.Subscript a b pos) (wOp dIx w wb) :=
  ⟨fun β => PE.imp (pe_ix di_ix (ha.run β) (hb.run β) hs) fun _ _ _ h => lop h⟩
/-- d[k], d a dict -/
def dGet : RD2 := fun x y k => match x with
  | .dK kvs => match keyD y with
    | some key => match lookD kvs key with
      | some d => k d
      | none => False
    | none => False
  | _ => False
theorem de_dget (hu : X.A.units + 1 < cLine) (ha : DE X kx a w) (hb : DE X kx b wb) (hs : NoSl b := by exact fun _ _ => rfl) : DE X kx (.Subscript a b pos) (wOp dGet w wb) :=
  ⟨fun β => PE.imp (pe_dget hu (ha.run β) (hb.run β) hs) fun σ H Q ⟨xk, S, ρ, k, st, hw, hk⟩ => by
    refine ⟨xk, S, ρ, _, st, hw, fun x ρ1 v1 H1 S1 ex1 st1 r1 hw1 => ?_⟩
    refine ⟨xk, S1, ρ1, _, st1, hw1, fun y ρ2 v2 H2 S2 ex2 st2 r2 hw2 => ?_⟩
    cases x with
    | dK kvs =>
      unfold dGet at hw2
      dsimp only at hw2
      cases e : keyD y with
      | none => rw [e] at hw2; exact hw2.elim
      | some key =>
        rw [e] at hw2
        dsimp only at hw2
        cases e2 : lookD kvs key with
        | none => rw [e2] at hw2; exact hw2.elim
        | some d =>
          rw [e2] at hw2
          obtain ⟨a, ws, rfl, ⟨nS, h1⟩, h2⟩ := repDK.mp (r1.up ex2)
          have ek := keyD_rep r2 e
          subst ek
          have hv := h2.val (k := key)
          rw [e2] at hv
          obtain ⟨u, q1, q2⟩ := hv
          refine ⟨a, u, rfl, ?_, hk d ρ2 u H2 S2 (ex1.trans ex2) st2 q2 hw2⟩
          rw [← q1]
          exact DGet.k h1
    | _ => exact hw2.elim⟩
/-! ### slices -/
def cutD (xs : List D) (lo hi : Option Int) : List D := (xs.drop (HT.sIx xs.length 0 lo)).take (HT.sIx xs.length xs.length hi - HT.sIx xs.length 0 lo)
theorem RepL.cut {G : Gd} {S : Hid} {H : Hp} {ds : List D} {vs : List V} (h : RepL G S H ds vs) (lo hi : Option Int) : RepL G S H (cutD ds lo hi) (cutV vs lo hi) := by
  unfold cutD cutV
  rw [h.length]
  exact (h.drop _).take _
abbrev WO := Ev → (Option Int → Ev → Prop) → Prop
def LO (X : Cx) (kx : XC) (β : Base) (w : WO) : TO := fun σ H Q => XOk X β kx ∧ ∃ S ρ k, StOk (gd X) β S ρ σ H ∧ w ρ k ∧ ∀ i ρ' H' S', Ext S H S' H' → StOk (gd X) β S' ρ' σ H' → k i ρ' → Q i H'
structure DO (X : Cx) (kx : XC) (e : Option Expr) (w : WO) : Prop where
  run : ∀ β, PO X e (LO X kx β w)
theorem PO.imp {e : Option Expr} {t t' : TO} (h : PO X e t) (hi : ∀ σ H Q, t' σ H Q → t σ H Q) : PO X e t' := ⟨fun pins s σ H Q I q => h.run pins s σ H Q I (hi σ H Q q)⟩
def wNoPart : WO := fun ρ k => k none ρ
def wPart (w : WE) : WO := fun ρ k => w ρ fun d ρ1 => match d with
  | .int i => k (some i) ρ1
  | _ => False
theorem do_none : DO X kx none wNoPart := ⟨fun β => PO.imp po_none fun σ H Q ⟨xk, S, ρ, k, st, hw, hk⟩ => hk none ρ H S .refl st hw⟩
theorem do_some (h : DE X kx e w) : DO X kx (some e) (wPart w) := ⟨fun β => PO.imp (po_some (h.run β)) fun σ H Q ⟨xk, S, ρ, k, st, hw, hk⟩ => ⟨xk, S, ρ, _, st, hw, fun d ρ1 v H1 S1 ex1 st1 r1 q => by
  cases d with
  | int i => rw [repInt] at r1; subst r1; exact ⟨i, rfl, hk (some i) ρ1 H1 S1 ex1 st1 q⟩
  | _ => exact q.elim⟩⟩
def dSl (x : D) (lo hi : Option Int) (k : D → Prop) : Prop := match x with
  | .str z => z.length ≤ sizeLine ∧ k (.str (cutS z lo hi))
  | .lst xs => k (.lst (cutD xs lo hi))
  | .tup xs => k (.tup (cutD xs lo hi))
  | _ => False
def LSl (G : Gd) : V → Option Int → Option Int → Hp → VK → Prop := fun x lo hi H Q => ∃ S dx k, (∀ a, S a → ∃ o, H a = some o) ∧ Rep G S H dx x ∧ dSl dx lo hi k ∧ ∀ d v H', Same H H' → Rep G S H' d v → k d → Q v H'
theorem sIx_le {n : Nat} (o : Option Int) : HT.sIx n 0 o ≤ n ∨ True := .inr trivial
theorem ds_sl : SlR X (LSl (gd X)) := by
  intro pins s σ H x v vl vu lo hi sl Q I rx hs pl pu h
  obtain ⟨S, dx, k, hd, r1, hr, hk⟩ := h
  cases dx with
  | str z =>
    rw [repStr] at r1; subst r1
    exact sl_str pins s σ H _ v vl vu lo hi sl Q I rx hs pl pu ⟨z, rfl, hr.1, hk _ _ H (Same.refl _) (repStr.mpr rfl) hr.2⟩
  | lst xs =>
    obtain ⟨a, vs, rfl, h1, h2⟩ := repLst.mp r1
    exact sl_list pins s σ H _ v vl vu lo hi sl Q I rx hs pl pu ⟨a, vs, rfl, h1.seq, fun l hl => hk _ _ _ (same_upd hl) (repLst.mpr ⟨l, _, rfl, .inl ⟨hid_new hd hl, .inl upd_same⟩, (h2.cut lo hi).up (.same (same_upd hl))⟩) hr⟩
  | tup xs =>
    have r1' := r1
    obtain ⟨a, vs, rfl, h1, h2⟩ := repTup.mp r1
    refine sl_tupA pins s σ H _ v vl vu lo hi sl Q I rx hs pl pu ⟨a, vs, rfl, h1.seq, fun hw => ?_, fun _ l hl => hk _ _ _ (same_upd hl) (repTup.mpr ⟨l, _, rfl, .inl ⟨hid_new hd hl, .inl upd_same⟩, (h2.cut lo hi).up (.same (same_upd hl))⟩) hr⟩
    have e : cutD xs lo hi = xs := by
      unfold cutD
      rw [h2.length] at hw
      rw [hw.1, hw.2]
      simp
    have hr' : k (.tup (cutD xs lo hi)) := hr
    rw [e] at hr'
    exact hk _ _ H (Same.refl _) r1' hr'
  | _ => exact hr.elim
def wSl (w : WE) (wl wh : WO) : WE := fun ρ k => w ρ fun x ρ1 => wl ρ1 fun lo ρ2 => wh ρ2 fun hi ρ3 => dSl x lo hi fun z => k z ρ3
theorem de_sl {lo hi : Option Expr} {wl wh : WO} (he : DE X kx e w) (hl : DO X kx lo wl) (hh : DO X kx hi wh) : DE X kx (.Subscript e (.Slice lo hi none p2) pos) (wSl w wl wh) :=
  ⟨fun β => PE.imp (pe_slice ds_sl (he.run β) (hl.run β) (hh.run β)) fun σ H Q ⟨xk, S, ρ, k, st, hw, hk⟩ =>
    ⟨xk, S, ρ, _, st, hw, fun x ρ1 v1 H1 S1 ex1 st1 r1 hw1 => ⟨xk, S1, ρ1, _, st1, hw1, fun l ρ2 H2 S2 ex2 st2 hw2 => ⟨xk, S2, ρ2, _, st2, hw2, fun u ρ3 H3 S3 ex3 st3 hw3 =>
      ⟨S3, x, _, st3.sdom, r1.up (ex2.trans ex3), hw3, fun d v H' sm rp q => hk d ρ3 v H' S3 (((ex1.trans ex2).trans ex3).trans (.same sm)) (st3.grow sm) rp q⟩⟩⟩⟩⟩
end
end Q
set_option Elab.async false
set_option linter.all false
set_option maxRecDepth 100000
set_option maxHeartbeats 2000000
/-! QMe: methods, own containers, lending, f-strings, truth, list(range), repr. -/
namespace Q
open PySem PySem.Spec PyProof.Rows L2
section
variable {X : Cx} {kx : XC} {e e0 e1 e2 o a b : Expr} {es : List Expr} {w wo wb : WE} {wa : WA} {pos p apos cpos p2 : Pos} {x name : Str} {bid T : String} {i : Nat}
/-! ### methods of texts and lists -/
def D.tyOk (T : String) : D → Bool
  | .str _ => T == "str"
  | .lst _ => T == "list"
  | _ => false
theorem Rep.tyV {G : Gd} {S : Hid} {H : Hp} {d : D} {v : V} (h : Rep G S H d v) (e : d.tyOk T = true) : tyV G.K T v H := by
  cases d with
  | str z => rw [repStr] at h; subst h; exact (show T = "str" by simpa [D.tyOk] using e)
  | lst xs => obtain ⟨a, vs, rfl, h1, _⟩ := repLst.mp h; exact .inl ⟨by simpa [D.tyOk] using e, vs, h1.seq⟩
  | _ => cases e
def LMt (G : Gd) (r : D → List D → (D → Prop) → Prop) : V → List V → Hp → VK → Prop := fun x xs H Q => ∃ S dx ds k, (∀ a, S a → ∃ o, H a = some o) ∧ Rep G S H dx x ∧ RepL G S H ds xs ∧ r dx ds k ∧ ∀ d v H', Same H H' → Rep G S H' d v → k d → Q v H'
def wM (T : String) (r : D → List D → (D → Prop) → Prop) (wo : WE) (wa : WA) : WE := fun ρ k => wo ρ fun x ρ1 => x.tyOk T = true ∧ wa ρ1 fun ds ρ2 => r x ds fun z => k z ρ2
theorem de_bm {r : D → List D → (D → Prop) → Prop} (pa : PlainAttrs T) (slot : PySem.Slot T name bid) (hty : typeOf (.builtin bid) = pure (.type "method_descriptor")) (hm : MtR X bid (LMt (gd X) r)) (ho : DE X kx o wo) (ha : DA X kx (e :: es) wa)
    (hbase : attributeBase o name X.env (eval o X.env) = eval o X.env := by rfl)
    (hfew : ((backTo cpos (starEach (e :: es) X.env)).all (fun x => !x.1) && (backToKw cpos (keywordEach [] X.env)).all (fun x => x.1.isSome) && decide ((e :: es).length + ([] : List Keyword).length + (if ([] : List Keyword).isEmpty then 0 else 1) < 30)) = true := by rfl)
    (hline : (apos.endLine == cpos.line) = true := by rfl) (hs : starEach (e :: es) X.env = (false, eval e X.env) :: starEach es X.env := by rfl) (hplain : (backTo cpos (starEach es X.env)).any (·.1) = false := by rfl) :
    DE X kx (.Call (.Attribute o name apos) (e :: es) [] cpos) (wM T r wo wa) :=
  ⟨fun β => PE.imp (pe_bm pa slot hty hm (ho.run β) (ha.run β) hbase hfew hline hs hplain) fun σ H Q ⟨xk, S, ρ, k, st, hw, hk⟩ => ⟨xk, S, ρ, _, st, hw, fun x ρ1 v1 H1 S1 ex1 st1 r1 q =>
    ⟨r1.tyV q.1, xk, S1, ρ1, _, st1, q.2, fun ds ρ2 vs H2 S2 ex2 st2 r2 q2 => ⟨S2, x, ds, _, st2.sdom, r1.up ex2, r2, q2, fun d v H' sm rp q3 => hk d ρ2 v H' S2 ((ex1.trans ex2).trans (.same sm)) (st2.grow sm) rp q3⟩⟩⟩⟩
theorem de_bm0 {r : D → List D → (D → Prop) → Prop} (pa : PlainAttrs T) (slot : PySem.Slot T name bid) (hty : typeOf (.builtin bid) = pure (.type "method_descriptor")) (hm : MtR X bid (LMt (gd X) r)) (ho : DE X kx o wo)
    (hbase : attributeBase o name X.env (eval o X.env) = eval o X.env := by rfl) (hline : (apos.endLine == cpos.line) = true := by rfl) : DE X kx (.Call (.Attribute o name apos) [] [] cpos) (wM T r wo wNil) :=
  ⟨fun β => PE.imp (pe_bm0 pa slot hty hm (ho.run β) hbase hline) fun σ H Q ⟨xk, S, ρ, k, st, hw, hk⟩ => ⟨xk, S, ρ, _, st, hw, fun x ρ1 v1 H1 S1 ex1 st1 r1 q =>
    ⟨r1.tyV q.1, S1, x, [], _, st1.sdom, r1, repLnil.mpr rfl, q.2, fun d v H' sm rp q3 => hk d ρ1 v H' S1 (ex1.trans (.same sm)) (st1.grow sm) rp q3⟩⟩⟩
def mSplit : D → List D → (D → Prop) → Prop := fun x ds k => match x, ds with
  | .str a, [.str b] => ((b.length == 0) = false ∧ a.length + 2 ≤ sizeLine) ∧ k (.lst ((Txt.split a b).map D.str))
  | .str a, [.str b, .int n] => ((b.length == 0) = false ∧ -(2 ^ 63) ≤ n ∧ n < 2 ^ 63 ∧ a.length + 2 ≤ sizeLine) ∧ k (.lst ((Txt.splitMax a b n).map D.str))
  | _, _ => False
theorem new_strs {G : Gd} {S : Hid} {H : Hp} {ys : List Str} {k : D → Prop} {Q : VK} (hd : ∀ a, S a → ∃ o, H a = some o) (hk : ∀ d v H', Same H H' → Rep G S H' d v → k d → Q v H') (q : k (.lst (ys.map D.str))) : rNewStrs ys H Q :=
  fun p hp => hk _ _ _ (same_upd hp) (repLst.mpr ⟨p, _, rfl, .inl ⟨hid_new hd hp, .inl upd_same⟩, RepL.mkStrs⟩) q
theorem dm_split : MtR X "str.split" (LMt (gd X) mSplit) := by
  intro pins s σ H x xs v us Q I rx rxs h
  obtain ⟨S, dx, ds, k, hd, r1, r2, hr, hk⟩ := h
  unfold mSplit at hr
  split at hr
  · rw [repStr] at r1; subst r1
    obtain ⟨v2, rfl, r3⟩ := rep1 r2
    rw [repStr] at r3; subst r3
    exact mt_split pins s σ H _ _ v us Q I rx rxs ⟨_, _, rfl, rfl, hr.1.1, hr.1.2, new_strs hd hk hr.2⟩
  · rw [repStr] at r1; subst r1
    obtain ⟨v2, v3, rfl, r3, r4⟩ := rep2 r2
    rw [repStr] at r3; subst r3
    rw [repInt] at r4; subst r4
    exact mt_splitMax pins s σ H _ _ v us Q I rx rxs ⟨_, _, _, rfl, rfl, hr.1.1, hr.1.2.1, hr.1.2.2.1, hr.1.2.2.2, new_strs hd hk hr.2⟩
  · exact hr.elim
def mStarts : D → List D → (D → Prop) → Prop := fun x ds k => match x, ds with
  | .str a, [.str b] => k (.bl (Txt.startswith a b))
  | _, _ => False
theorem dm_starts : MtR X "str.startswith" (LMt (gd X) mStarts) := by
  intro pins s σ H x xs v us Q I rx rxs h
  obtain ⟨S, dx, ds, k, hd, r1, r2, hr, hk⟩ := h
  unfold mStarts at hr
  split at hr
  · rw [repStr] at r1; subst r1
    obtain ⟨v2, rfl, r3⟩ := rep1 r2
    rw [repStr] at r3; subst r3
    exact mt_startswith pins s σ H _ _ v us Q I rx rxs ⟨_, _, rfl, rfl, hk _ _ H (Same.refl _) (repBl.mpr rfl) hr⟩
  · exact hr.elim
def mJoin : D → List D → (D → Prop) → Prop := fun x ds k => ∃ (a : Str) (ys : List Str), x = .str a ∧ (ds = [.lst (ys.map D.str)] ∨ ds = [.tup (ys.map D.str)]) ∧ (ys.map (·.length)).sum + ys.length * a.length ≤ 16777216 ∧ k (.str (Txt.join a ys))
theorem dm_join : MtR X "str.join" (LMt (gd X) mJoin) := by
  intro pins s σ H x xs v us Q I rx rxs h
  obtain ⟨S, dx, ds, k, hd, r1, r2, ⟨a, ys, rfl, hds, hz, hr⟩, hk⟩ := h
  rw [repStr] at r1; subst r1
  have q := hk _ (.str (Txt.join a ys)) H (Same.refl _) (repStr.mpr rfl) hr
  rcases hds with rfl | rfl
  · obtain ⟨v2, rfl, r3⟩ := rep1 r2
    obtain ⟨l, vs, rfl, h1, h2⟩ := repLst.mp r3
    obtain rfl := h2.strs
    exact mt_join pins s σ H _ _ v us Q I rx rxs ⟨a, l, ys, rfl, rfl, .inl h1.seq, hz, q⟩
  · obtain ⟨v2, rfl, r3⟩ := rep1 r2
    obtain ⟨l, vs, rfl, h1, h2⟩ := repTup.mp r3
    obtain rfl := h2.strs
    exact mt_join pins s σ H _ _ v us Q I rx rxs ⟨a, l, ys, rfl, rfl, .inr h1.seq, hz, q⟩
/-- xs.index(y): flat items -/
def mIndex : D → List D → (D → Prop) → Prop := fun x ds k => match x, ds with
  | .lst xs, [y] => xs.all D.flat = true ∧ y.flat = true ∧ ∃ j, xs.findIdx? (fun z => feq z y) = some j ∧ k (.int (j : Nat))
  | _, _ => False
theorem dm_index : MtR X "list.index" (LMt (gd X) mIndex) := by
  intro pins s σ H x xs v us Q I rx rxs h
  obtain ⟨S, dx, ds, k, hd, r1, r2, hr, hk⟩ := h
  unfold mIndex at hr
  split at hr
  · rename_i ys y
    obtain ⟨l, vs, rfl, h1, h2⟩ := repLst.mp r1
    obtain ⟨v2, rfl, r3⟩ := rep1 r2
    obtain ⟨hf, hy, j, hj, hr⟩ := hr
    obtain ⟨hlt, hp, hn⟩ := List.findIdx?_eq_some_iff_getElem.mp hj
    obtain ⟨z, e1, e2⟩ := h2.get (List.getElem?_eq_getElem hlt)
    have fl : ∀ {m : Nat} {d : D}, ys[m]? = some d → d.flat = true := fun {m d} e => List.all_eq_true.mp hf d (List.mem_of_getElem? e)
    refine mt_index pins s σ H _ _ v us Q I rx rxs ⟨l, vs, v2, j, z, rfl, rfl, h1.seq, r3.flatV hy, ?_, e1, ?_, fun m z' hm ez => ?_, hk _ _ H (Same.refl _) (repInt.mpr rfl) hr⟩
    · refine List.all_eq_true.mpr fun u hu => ?_
      obtain ⟨m, hm⟩ := List.mem_iff_getElem?.mp hu
      obtain ⟨d, e3, e4⟩ := h2.get' hm
      exact e4.flatV (fl e3)
    · rw [e2.feq r3 (fl (List.getElem?_eq_getElem hlt)) hy]
      exact hp
    · obtain ⟨d, e3, e4⟩ := h2.get' ez
      rw [e4.feq r3 (fl e3) hy]
      have := hn m hm
      have hml : m < ys.length := Nat.lt_trans hm hlt
      rw [List.getElem?_eq_getElem hml] at e3
      cases e3
      simpa using this
  · exact hr.elim
/-! ### own lists -/
def Slot.isL : Slot → Bool
  | .own (.lst _) => true
  | _ => false
theorem StOk.own_lst {G : Gd} {β : Base} {S : Hid} {ρ : Ev} {σ : L2.St} {H : Hp} (h : StOk G β S ρ σ H) {i : Nat} {xs : List D} (e : ρ.get i = .own (.lst xs)) : ∃ p vs, sg σ i = some (.ref p) ∧ S p ∧ β.Mine p ∧ H p = some (.lst vs) ∧ RepL G S H xs vs ∧ ¬ β.O p := by
  have q := h.slot i
  rw [e] at q
  obtain ⟨p, e1, h1, m, ⟨⟨vs, h2, h3⟩, h4⟩⟩ := q
  exact ⟨p, vs, e1, h1, m, h2, h3, h4⟩
theorem StOk.own_ty {G : Gd} {β : Base} {S : Hid} {ρ : Ev} {σ : L2.St} {H : Hp} (h : StOk G β S ρ σ H) {i : Nat} (e : (ρ.get i).isL = true) : ∃ p, sg σ i = some (.ref p) ∧ tyV G.K "list" (.ref p) H := by
  cases q : ρ.get i with
  | own d =>
    cases d with
    | lst xs =>
      obtain ⟨p, vs, e1, _, _, h2, _⟩ := h.own_lst q
      exact ⟨p, e1, .inl ⟨rfl, vs, .inl (.inl h2)⟩⟩
    | _ => rw [q] at e; cases e
  | _ => rw [q] at e; cases e
/-- an own list gets new items -/
theorem StOk.own_put {G : Gd} {β : Base} {S : Hid} {ρ : Ev} {σ : L2.St} {H : Hp} (h : StOk G β S ρ σ H) {i : Nat} {p : Addr} {xs ys : List D} {ws : List V} (e : ρ.get i = .own (.lst xs)) (e1 : sg σ i = some (.ref p)) (r : RepL G S H ys ws) :
    Ext S H S (upd H p (.lst ws)) ∧ StOk G β S (ρ.set i (.own (.lst ys))) σ (upd H p (.lst ws)) := by
  obtain ⟨p', vs, e2, h1, m, h2, h3, h4⟩ := h.own_lst e
  rw [e1] at e2; cases e2
  have ex : Ext S H S (upd H p (.lst ws)) := .but h1 fun a o n q => by rw [upd_ne n]; exact q
  exact ⟨ex, h.write e1 (by rw [e]; rfl) (fun a o n q => by rw [upd_ne n]; exact q) (s := .own (.lst ys)) ⟨⟨ws, upd_same, r.up ex⟩, h4⟩⟩
def wAppend (i : Nat) (w : WE) : WE := fun ρ k => (ρ.get i).isL = true ∧ w ρ fun d ρ1 => match ρ1.get i with
  | .own (.lst xs) => xs.length < sizeLine ∧ k .non (ρ1.set i (.own (.lst (xs ++ [d]))))
  | _ => False
theorem de_append (h0 : PE X o (tVar i)) (he : DE X kx e w) (hbase : attributeBase o ("append" : Str) X.env (eval o X.env) = eval o X.env := by rfl)
    (hfew : ((backTo cpos (starEach [e] X.env)).all (fun x => !x.1) && (backToKw cpos (keywordEach [] X.env)).all (fun x => x.1.isSome) && decide (([e] : List Expr).length + ([] : List Keyword).length + (if ([] : List Keyword).isEmpty then 0 else 1) < 30)) = true := by rfl)
    (hline : (apos.endLine == cpos.line) = true := by rfl) (hs : starEach [e] X.env = (false, eval e X.env) :: starEach [] X.env := by rfl) (hplain : (backTo cpos (starEach [] X.env)).any (·.1) = false := by rfl) :
    DE X kx (.Call (.Attribute o "append" apos) [e] [] cpos) (wAppend i w) :=
  ⟨fun β => PE.imp (pe_bm PySem.F.plainAttrs_list PySem.F.slot_list_append PySem.F.type_list_append mt_append h0 (pa_cons (he.run β) pa_nil hs) hbase hfew hline hs hplain) fun σ H Q ⟨xk, S, ρ, k, st, hw, hk⟩ => by
    obtain ⟨p, e1, ty⟩ := st.own_ty hw.1
    refine ⟨.ref p, sg_some.mp e1, ty, xk, S, ρ, _, st, hw.2, fun d ρ1 v H1 S1 ex1 st1 r1 q => ?_⟩
    split at q
    · rename_i xs hs
      obtain ⟨p', vs, e2, h1, m, h2, h3, h4⟩ := st1.own_lst hs
      rw [e1] at e2; cases e2
      obtain ⟨ex2, st2⟩ := st1.own_put hs e1 (h3.append (RepL.one r1))
      exact ⟨p, vs, v, rfl, rfl, h2, by rw [h3.length]; exact q.1, hk .non _ .non _ S1 (ex1.trans ex2) st2 (repNon.mpr rfl) q.2⟩
    · exact q.elim⟩
/-- xs.extend(a new list) -/
def wExtend (i : Nat) (w : WE) : WE := fun ρ k => (ρ.get i).isL = true ∧ w ρ fun d ρ1 => match d, ρ1.get i with
  | .lst ys, .own (.lst xs) => xs.length + ys.length ≤ sizeLine ∧ k .non (ρ1.set i (.own (.lst (xs ++ ys))))
  | _, _ => False
theorem de_extend (h0 : PE X o (tVar i)) (he : DF X kx e w) (hbase : attributeBase o ("extend" : Str) X.env (eval o X.env) = eval o X.env := by rfl)
    (hfew : ((backTo cpos (starEach [e] X.env)).all (fun x => !x.1) && (backToKw cpos (keywordEach [] X.env)).all (fun x => x.1.isSome) && decide (([e] : List Expr).length + ([] : List Keyword).length + (if ([] : List Keyword).isEmpty then 0 else 1) < 30)) = true := by rfl)
    (hline : (apos.endLine == cpos.line) = true := by rfl) (hs : starEach [e] X.env = (false, eval e X.env) :: starEach [] X.env := by rfl) (hplain : (backTo cpos (starEach [] X.env)).any (·.1) = false := by rfl) :
    DE X kx (.Call (.Attribute o "extend" apos) [e] [] cpos) (wExtend i w) :=
  ⟨fun β => PE.imp (pe_bm PySem.F.plainAttrs_list PySem.F.slot_list_extend PySem.F.type_list_extend mt_extend h0 (pa_cons (he.run β) pa_nil hs) hbase hfew hline hs hplain) fun σ H Q ⟨xk, S, ρ, k, st, hw, hk⟩ => by
    obtain ⟨p, e1, ty⟩ := st.own_ty hw.1
    refine ⟨.ref p, sg_some.mp e1, ty, xk, S, ρ, _, st, hw.2, fun d ρ1 p2 o2 H1 S1 ex1 st1 ow nm nO q => ?_⟩
    obtain ⟨st2, ex2⟩ := st1.unhide nO
    split at q
    · rename_i ys xs hs
      obtain ⟨p', vs, e2, h1, m, h2, h3, h4⟩ := st2.own_lst hs
      rw [e1] at e2; cases e2
      obtain ⟨us, h5, h6⟩ := ow
      obtain ⟨ex3, st3⟩ := st2.own_put hs e1 (h3.append (h6.up ex2))
      exact ⟨p, p2, vs, us, rfl, rfl, h2, h5, by rw [h3.length, h6.length]; exact q.1, hk .non _ .non _ _ ((ex1.trans ex2).trans ex3) st3 (repNon.mpr rfl) q.2⟩
    · exact q.elim⟩
/-- xs.pop(i) -/
def wPopAt (i : Nat) (w : WE) : WE := fun ρ k => (ρ.get i).isL = true ∧ w ρ fun d ρ1 => match d, ρ1.get i with
  | .int j, .own (.lst xs) => (0 ≤ j ∧ j < 2 ^ 63) ∧ match xs[j.toNat]? with
    | some y => k y (ρ1.set i (.own (.lst (xs.eraseIdx j.toNat))))
    | none => False
  | _, _ => False
theorem RepL.erase {G : Gd} {S : Hid} {H : Hp} : ∀ {ds : List D} {vs : List V} {n : Nat}, RepL G S H ds vs → RepL G S H (ds.eraseIdx n) (vs.eraseIdx n)
  | [], _, _, h => by rw [repLnil] at h; subst h; exact repLnil.mpr rfl
  | d :: ds, _, 0, h => by
    obtain ⟨v, ws, rfl, h1, h2⟩ := repLcons.mp h
    exact h2
  | d :: ds, _, n + 1, h => by
    obtain ⟨v, ws, rfl, h1, h2⟩ := repLcons.mp h
    exact repLcons.mpr ⟨v, _, rfl, h1, RepL.erase h2⟩
theorem de_popAt (h0 : PE X o (tVar i)) (he : DE X kx e w) (hbase : attributeBase o ("pop" : Str) X.env (eval o X.env) = eval o X.env := by rfl)
    (hfew : ((backTo cpos (starEach [e] X.env)).all (fun x => !x.1) && (backToKw cpos (keywordEach [] X.env)).all (fun x => x.1.isSome) && decide (([e] : List Expr).length + ([] : List Keyword).length + (if ([] : List Keyword).isEmpty then 0 else 1) < 30)) = true := by rfl)
    (hline : (apos.endLine == cpos.line) = true := by rfl) (hs : starEach [e] X.env = (false, eval e X.env) :: starEach [] X.env := by rfl) (hplain : (backTo cpos (starEach [] X.env)).any (·.1) = false := by rfl) :
    DE X kx (.Call (.Attribute o "pop" apos) [e] [] cpos) (wPopAt i w) :=
  ⟨fun β => PE.imp (pe_bm PySem.F.plainAttrs_list PySem.F.slot_list_pop PySem.F.type_list_pop mt_popAt h0 (pa_cons (he.run β) pa_nil hs) hbase hfew hline hs hplain) fun σ H Q ⟨xk, S, ρ, k, st, hw, hk⟩ => by
    obtain ⟨p, e1, ty⟩ := st.own_ty hw.1
    refine ⟨.ref p, sg_some.mp e1, ty, xk, S, ρ, _, st, hw.2, fun d ρ1 v H1 S1 ex1 st1 r1 q => ?_⟩
    split at q
    · rename_i j xs hs
      rw [repInt] at r1; subst r1
      obtain ⟨p', vs, e2, h1, m, h2, h3, h4⟩ := st1.own_lst hs
      rw [e1] at e2; cases e2
      obtain ⟨⟨j0, j1⟩, q⟩ := q
      cases hy : xs[j.toNat]? with
      | none => rw [hy] at q; exact q.elim
      | some y =>
        rw [hy] at q
        obtain ⟨u, e3, e4⟩ := h3.get hy
        obtain ⟨ex2, st2⟩ := st1.own_put hs e1 (h3.erase (n := j.toNat))
        have hl : j.toNat < vs.length := (List.getElem?_eq_some_iff.mp e3).1
        have eix : ixN vs.length j = some j.toNat := by
          unfold ixN
          rw [if_pos j0, if_pos (by omega)]
        exact ⟨p, vs, j, j.toNat, u, rfl, rfl, h2, by omega, j1, (ixN_seq eix).1, e3, hk y _ u _ S1 (ex1.trans ex2) st2 (e4.up ex2) q⟩
    · exact q.elim⟩
/-- xs[k] = v, xs an own list: a target -/
def gOwnIx (i : Nat) (w : WE) : WG := fun d ρ k => w ρ fun j ρ1 => match j, ρ1.get i with
  | .int j, .own (.lst xs) => match ixN xs.length j with
    | some n => k (ρ1.set i (.own (.lst (xs.set n d))))
    | none => False
  | _, _ => False
theorem RepL.setAt {G : Gd} {S : Hid} {H : Hp} {d : D} {v : V} (hd : Rep G S H d v) : ∀ {ds : List D} {vs : List V} {n : Nat}, RepL G S H ds vs → RepL G S H (ds.set n d) (vs.set n v)
  | [], _, _, h => by rw [repLnil] at h; subst h; exact repLnil.mpr rfl
  | _ :: ds, _, 0, h => by
    obtain ⟨u, ws, rfl, h1, h2⟩ := repLcons.mp h
    exact repLcons.mpr ⟨v, ws, rfl, hd, h2⟩
  | _ :: ds, _, n + 1, h => by
    obtain ⟨u, ws, rfl, h1, h2⟩ := repLcons.mp h
    exact repLcons.mpr ⟨u, _, rfl, h1, RepL.setAt hd h2⟩
theorem dg_ownIx {kk : Int} {c : Nat} {pc : Pos} (h0 : PE X o (tVar i)) (ha : ∀ v, assign (.Subscript o (.Constant (.int kk) c pc) pos) X.env v = (do
      let ov ← holding [v] (eval o X.env)
      let iv ← holding [v, ov] (eval (.Constant (.int kk) c pc) X.env)
      standAt pos
      holding [v, ov, iv] (setItem ov iv v)
      release [v, ov, iv] []) := by intro _; rfl) : DG X (.Subscript o (.Constant (.int kk) c pc) pos) [] (gOwnIx i (wC (.int kk))) :=
  ⟨fun β => PG.imp (pg_sub h0 pe_int set_list ha) fun v σ H Q ⟨S, ρ, d, k, st, r, hw, hk⟩ => by
    unfold gOwnIx wC at hw
    dsimp only at hw
    split at hw
    · rename_i j xs hj hs
      cases hj
      obtain ⟨p, vs, e1, h1, m, h2, h3, h4⟩ := st.own_lst hs
      cases hn : ixN xs.length kk with
      | none => rw [hn] at hw; exact hw.elim
      | some n =>
        rw [hn] at hw
        obtain ⟨ex2, st2⟩ := st.own_put hs e1 (RepL.setAt r h3 (n := n))
        exact ⟨.ref p, sg_some.mp e1, p, vs, kk, n, rfl, rfl, h2, by rw [h3.length]; exact hn, hk _ σ _ ex2 st2 rfl (fun _ _ => rfl) hw⟩
    · exact hw.elim⟩
/-- xs[n] = v, n a name of a slot -/
theorem dg_ownIxV {j : Nat} (h0 : PE X o (tVar i)) (hj : PE X b (tVar j)) (ha : ∀ v, assign (.Subscript o b pos) X.env v = (do
      let ov ← holding [v] (eval o X.env)
      let iv ← holding [v, ov] (eval b X.env)
      standAt pos
      holding [v, ov, iv] (setItem ov iv v)
      release [v, ov, iv] []) := by intro _; rfl) : DG X (.Subscript o b pos) [] (gOwnIx i (wVar j)) :=
  ⟨fun β => PG.imp (pg_sub h0 hj set_list ha) fun v σ H Q ⟨S, ρ, d, k, st, r, hw, hk⟩ => by
    unfold gOwnIx wVar at hw
    have slj := st.slot j
    cases hsj : ρ.get j with
    | val dj =>
      rw [hsj] at hw slj
      obtain ⟨vj, ej, rj⟩ := slj
      dsimp only at hw
      split at hw
      · rename_i jj xs hs
        rw [repInt] at rj; subst rj
        obtain ⟨p, vs, e1, h1, m, h2, h3, h4⟩ := st.own_lst hs
        cases hn : ixN xs.length jj with
        | none => rw [hn] at hw; exact hw.elim
        | some n =>
          rw [hn] at hw
          obtain ⟨ex2, st2⟩ := st.own_put hs e1 (RepL.setAt r h3 (n := n))
          exact ⟨.ref p, sg_some.mp e1, .int jj, sg_some.mp ej, p, vs, jj, n, rfl, rfl, h2, by rw [h3.length]; exact hn, hk _ σ _ ex2 st2 rfl (fun _ _ => rfl) hw⟩
      · exact hw.elim
    | own dj =>
      rw [hsj] at hw slj
      obtain ⟨pj, ej, _, _, ⟨ow, _⟩⟩ := slj
      dsimp only at hw
      cases dj with
      | int z => exact ow.elim
      | _ => exact hw.elim
    | _ => rw [hsj] at hw; exact hw.elim⟩
end
end Q
set_option Elab.async false
set_option linter.all false
set_option maxRecDepth 100000
set_option maxHeartbeats 2000000
/-! QMo: lending, pairs of stores, own dicts, f-strings, truth, list(range), repr. -/
namespace Q
open PySem PySem.Spec PyProof.Rows L2
/-! ### lending: own containers read as data, for an end that bears no address -/
def Slot.lend : Slot → Slot
  | .own d => .val d
  | s => s
def Slot.noSlf : Slot → Bool
  | .slf _ => false
  | _ => true
def Ev.lend (ρ : Ev) : Ev := ρ.map Slot.lend
def Ev.noSlf (ρ : Ev) : Bool := ρ.all Slot.noSlf
theorem Ev.lend_get : ∀ (ρ : Ev) (i : Nat), (Ev.lend ρ).get i = (ρ.get i).lend
  | [], _ => rfl
  | _ :: _, 0 => rfl
  | _ :: r, n + 1 => Ev.lend_get r n
theorem Ev.noSlf_get : ∀ {ρ : Ev} {i : Nat}, ρ.noSlf = true → (ρ.get i).noSlf = true
  | [], _, _ => rfl
  | s :: r, 0, h => by
    have h' : (s.noSlf && r.all Slot.noSlf) = true := h
    exact (Bool.and_eq_true _ _ ▸ h').1
  | s :: r, n + 1, h => by
    have h' : (s.noSlf && r.all Slot.noSlf) = true := h
    exact Ev.noSlf_get (ρ := r) (i := n) (Bool.and_eq_true _ _ ▸ h').2
theorem StOk.lend {G : Gd} {β : Base} {S : Hid} {ρ : Ev} {σ : L2.St} {H : Hp} (h : StOk G β S ρ σ H) (hn : ρ.noSlf = true) :
    ∃ S1, StOk G β S1 ρ.lend σ H ∧ ∀ S' H', Ext S1 H S' H' → StOk G β S' ρ.lend σ H' → ∃ S'', Ext S H S'' H' ∧ StOk G β S'' ρ σ H' := by
  let O1 : Addr → Prop := fun a => ∃ i d, ρ.get i = .own d ∧ sg σ i = some (.ref a)
  have own : ∀ {i d}, ρ.get i = .own d → ∃ p, sg σ i = some (.ref p) ∧ S p ∧ β.Mine p ∧ OwnAt G S H p d ∧ ¬ β.O p ∧ O1 p := fun {i d} e => by
    have q := h.slot i
    rw [e] at q
    obtain ⟨p, e1, h1, m, h2, h3⟩ := q
    exact ⟨p, e1, h1, m, h2, h3, i, d, e, e1⟩
  have ex1 : Ext S H (fun a => S a ∧ ¬ O1 a) H := .less fun a z => z.1
  refine ⟨fun a => S a ∧ ¬ O1 a, ⟨h.frame, fun a z => ⟨h.oS a z, ?_⟩, fun a z => h.sdom a z.1, by unfold Ev.lend; rw [List.length_map]; exact h.len, fun i => ?_, fun i j p h1 h2 h3 h4 => ?_⟩, ?_⟩
  · rintro ⟨i, d, e, e1⟩
    obtain ⟨p, e2, _, _, _, h3, _⟩ := own e
    rw [e1] at e2; cases e2
    exact h3 z
  · rw [Ev.lend_get]
    have q := h.slot i
    cases e : ρ.get i with
    | un => trivial
    | val d => rw [e] at q; obtain ⟨v, e1, r⟩ := q; exact ⟨v, e1, r.up ex1⟩
    | own d =>
      obtain ⟨p, e1, _, _, ow, _, o1⟩ := own e
      exact ⟨_, e1, (ow.up ex1 rfl).rep fun z => z.2 o1⟩
    | slf d => have := Ev.noSlf_get (i := i) hn; rw [e] at this; cases this
    | purse =>
      rw [e] at q
      obtain ⟨p, e1, h1, m, h2⟩ := q
      refine ⟨p, e1, ⟨h1, ?_⟩, m, h2⟩
      rintro ⟨j, d, e3, e4⟩
      have := h.dist i j p (by rw [e]; rfl) (by rw [e3]; rfl) e1 e4
      subst this
      rw [e] at e3; cases e3
    | pown =>
      rw [e] at q
      obtain ⟨p, e1, h1, m, h2⟩ := q
      refine ⟨p, e1, ⟨h1, ?_⟩, m, h2⟩
      rintro ⟨j, d, e3, e4⟩
      have := h.dist i j p (by rw [e]; rfl) (by rw [e3]; rfl) e1 e4
      subst this
      rw [e] at e3; cases e3
  · have t : ∀ i, ((Ev.lend ρ).get i).isOwn = true → (ρ.get i).isOwn = true := fun i z => by
      rw [Ev.lend_get] at z
      cases e : ρ.get i with
      | own d => rfl
      | un => rw [e] at z; cases z
      | val d => rw [e] at z; cases z
      | slf d => rfl
      | purse => rfl
      | pown => rfl
    exact h.dist i j p (t i h1) (t j h2) h3 h4
  · intro S' H' ex st
    have vis : ∀ {a o}, H a = some o → O1 a → ¬ S' a ∧ H' a = some o := fun {a o} e o1 => ex a o (fun z => z.2 o1) e
    have ex2 : Ext S H (fun a => S' a ∨ O1 a) H' := fun a o n e => by
      obtain ⟨n1, e1⟩ := ex a o (fun z => n z.1) e
      refine ⟨fun z => z.elim n1 ?_, e1⟩
      rintro ⟨i, d, e2, e3⟩
      obtain ⟨p, e4, hp, _⟩ := own e2
      rw [e3] at e4; cases e4
      exact n hp
    refine ⟨_, ex2, st.frame, fun a z => .inl (st.oS a z), fun a z => ?_, h.len, fun i => ?_, h.dist⟩
    · rcases z with z | z
      · exact st.sdom a z
      · have o1 := z
        obtain ⟨i, d, e2, e3⟩ := z
        obtain ⟨p, e4, hp, _, ow, _⟩ := own e2
        rw [e3] at e4; cases e4
        obtain ⟨o, ho⟩ := ow.some
        exact ⟨o, (vis ho o1).2⟩
    · have q := h.slot i
      cases e : ρ.get i with
      | un => trivial
      | val d => rw [e] at q; obtain ⟨v, e1, r⟩ := q; exact ⟨v, e1, r.up ex2⟩
      | own d =>
        obtain ⟨p, e1, hp, m, ow, nO, o1⟩ := own e
        obtain ⟨o, ho⟩ := ow.some
        exact ⟨p, e1, .inr o1, m, ow.up ex2 ((vis ho o1).2.trans ho.symm), nO⟩
      | slf d => have := Ev.noSlf_get (i := i) hn; rw [e] at this; cases this
      | purse =>
        have q2 := st.slot i
        rw [Ev.lend_get, e] at q2
        obtain ⟨p, e1, h1, m, h2⟩ := q2
        exact ⟨p, e1, .inl h1, m, h2⟩
      | pown =>
        have q2 := st.slot i
        rw [Ev.lend_get, e] at q2
        obtain ⟨p, e1, h1, m, h2⟩ := q2
        exact ⟨p, e1, .inl h1, m, h2⟩
def wBor (w : WE) : WE := fun ρ k => ρ.noSlf = true ∧ w ρ.lend fun d ρ1 => ρ1 = ρ.lend ∧ d.flat = true ∧ k d ρ
def wBorT (w : WT) : WT := fun ρ k => ρ.noSlf = true ∧ w ρ.lend fun d ρ1 => ρ1 = ρ.lend ∧ k d ρ
section
variable {X : Cx} {kx : XC} {e e0 e1 e2 o a b c : Expr} {es : List Expr} {w wo wb wc : WE} {wa : WA} {pos p apos cpos p2 : Pos} {x y name : Str} {bid T : String} {i j : Nat}
theorem de_bor (h : DE X kx e w) : DE X kx e (wBor w) := ⟨fun β => PE.imp (h.run β) fun σ H Q ⟨xk, S, ρ, k, st, ⟨hn, hw⟩, hk⟩ => by
  obtain ⟨S1, st1, back⟩ := st.lend hn
  refine ⟨xk, S1, _, _, st1, hw, fun d ρ1 v H1 S2 ex2 st2 r2 q => ?_⟩
  obtain ⟨rfl, hf, q⟩ := q
  obtain ⟨S3, ex3, st3⟩ := back S2 H1 ex2 st2
  exact hk d ρ v H1 S3 ex3 st3 (r2.flat hf) q⟩
theorem dt_bor {w : WT} (h : DT X kx e w) : DT X kx e (wBorT w) := ⟨fun β => PT.imp (h.run β) fun σ H Q ⟨xk, S, ρ, k, st, ⟨hn, hw⟩, hk⟩ => by
  obtain ⟨S1, st1, back⟩ := st.lend hn
  refine ⟨xk, S1, _, _, st1, hw, fun d ρ1 H1 S2 ex2 st2 q => ?_⟩
  obtain ⟨rfl, q⟩ := q
  obtain ⟨S3, ex3, st3⟩ := back S2 H1 ex2 st2
  exact hk d ρ H1 S3 ex3 st3 q⟩
/-! ### truth -/
def wTruth (w : WE) : WT := fun ρ k => w ρ fun d ρ1 => match d with
  | .non => k false ρ1
  | .bl b => k b ρ1
  | .int i => k (i != 0) ρ1
  | .str z => z.length ≤ sizeLine ∧ k ((z.length : Int) != 0) ρ1
  | .lst xs => k (!xs.isEmpty) ρ1
  | .tup xs => k (!xs.isEmpty) ρ1
  | .dK xs => k (!xs.isEmpty) ρ1
  | _ => False
theorem empty_eq {α β : Type} {xs : List α} {ys : List β} (h : ys.length = xs.length) : ys.isEmpty = xs.isEmpty := by
  cases xs <;> cases ys <;> simp at h ⊢
theorem dt_truth (h : DE X kx e w) (he : ∀ whole, isTrue e X.env whole = (do let v ← whole; standAt e.pos; holding [v] (truthy v)) := by intro _; rfl) : DT X kx e (wTruth w) :=
  ⟨fun β => PT.imp (pt_truth (h.run β) he) fun σ H Q ⟨xk, S, ρ, k, st, hw, hk⟩ => ⟨xk, S, ρ, _, st, hw, fun d ρ1 v H1 S1 ex1 st1 r1 q => by
    have fin : ∀ b, k b ρ1 → Q b H1 := fun b q => hk b ρ1 H1 S1 ex1 st1 q
    cases d with
    | non => rw [repNon] at r1; subst r1; exact ⟨_, rfl, fin _ q⟩
    | bl b => rw [repBl] at r1; subst r1; exact ⟨_, rfl, fin _ q⟩
    | int b => rw [repInt] at r1; subst r1; exact ⟨_, rfl, fin _ q⟩
    | str b => rw [repStr] at r1; subst r1; exact ⟨_, ⟨q.1, rfl⟩, fin _ q.2⟩
    | lst xs => obtain ⟨a, vs, rfl, h1, h2⟩ := repLst.mp r1; exact ⟨_, .inl ⟨vs, h1.seq, (congrArg not (empty_eq h2.length)).symm⟩, fin _ q⟩
    | tup xs => obtain ⟨a, vs, rfl, h1, h2⟩ := repTup.mp r1; exact ⟨_, .inr (.inl ⟨vs, h1.seq, (congrArg not (empty_eq h2.length)).symm⟩), fin _ q⟩
    | dK xs => obtain ⟨a, vs, rfl, ⟨_, h1⟩, h2⟩ := repDK.mp r1; exact ⟨_, .inr (.inr ⟨vs, h1, (congrArg not (empty_eq h2.length)).symm⟩), fin _ q⟩
    | _ => exact q.elim⟩⟩
/-! ### a, b = x, y with new containers -/
theorem set_comm {σ : L2.St} {i j : Nat} {u v : Option V} (h : i ≠ j) : (σ.set i u).set j v = (σ.set j v).set i u := List.set_comm _ _ h
def tFr (X : Cx) (kx : XC) (β : Base) (w : WE) : TE := fun σ H Q => ∃ p o, β.Mine p ∧ ¬ β.O p ∧ LF X kx (β.with p o) w σ H Q
theorem pe_fr {β : Base} (h : DF X kx e w) : PE X e (tFr X kx β w) := ⟨fun pins s σ H Q I ⟨p, o, _, _, q⟩ => (h.run (β.with p o)).run pins s σ H Q I q⟩
/-- both new -/
def sParFF (i j : Nat) (w w' : WE) : WS := fun N ρ => i < ρ.length ∧ j < ρ.length ∧ w ρ fun d ρ1 => w' ρ1 fun d' ρ2 => N.nx ((ρ2.set j (.own d')).set i (.own d))
theorem ds_parFF {px py pt : Pos} {kt k2 pt2} (hc : X.calm = true) (hN : X.N.Nodup) (hi : X.N[i]? = some x) (hj : X.N[j]? = some y) (hij : i ≠ j)
    (hx : X.env.scope.names.lookup x = some .local) (hy : X.env.scope.names.lookup y = some .local) (ha : DF X kx a w) (hb : DF X kx b wb)
    (hw : swappedStores [.Tuple [.Name x px, .Name y py] kt pt] (.Tuple [a, b] k2 pt2) X.env = pure (some [x, y]))
    (hs : swapsWithSole [.Tuple [.Name x px, .Name y py] kt pt] (.Tuple [a, b] k2 pt2) pos.line X.env = pure false := by rfl) (hs1 : starEach [a, b] X.env = (false, eval a X.env) :: starEach [b] X.env := by rfl) (hs2 : starEach [b] X.env = (false, eval b X.env) :: starEach [] X.env := by rfl) :
    DS X kx (.Assign [.Tuple [.Name x px, .Name y py] kt pt] (.Tuple [a, b] k2 pt2) pos) (sParFF i j w wb) :=
  ⟨fun β => PS.imp (ps_par hc hN hi hj hij hx hy (pa_cons (ha.run β) (pa_cons (pe_fr (β := β) hb) pa_nil hs2) hs1) hw hs) fun Dn σ H ⟨xk, S, ρ, N, st, en, li, lj, hw⟩ => ⟨xk, S, ρ, _, st, hw, fun d ρ1 p o H1 S1 ex1 st1 ow nm nO q =>
    ⟨p, o, nm, nO, xk.with nO, S1, ρ1, _, st1, q, fun d' ρ2 p' o' H2 S2 ex2 st2 ow' nm' nO' q2 => by
      refine ⟨_, _, rfl, ?_⟩
      have l2 : ρ2.length = ρ.length := st.len_eq st2
      have st3 := st2.adopt (i := j) (s := .own d') (by rw [l2]; exact lj) nm' ⟨ow', nO'⟩
      have e1 : H2 p = H1 p := (st3.frame p o (.inr ⟨rfl, rfl⟩)).trans (st1.frame p o (.inr ⟨rfl, rfl⟩)).symm
      have st4 := st3.adopt (i := i) (s := .own d) (by rw [Ev.set_len, l2]; exact li) nm ⟨ow.up ex2 e1, nO⟩
      rw [set_comm hij]
      exact en.nx _ _ _ _ (ex1.trans ex2) st4 q2⟩⟩⟩
/-- data, a new one -/
def sParEF (i j : Nat) (w w' : WE) : WS := fun N ρ => j < ρ.length ∧ w ρ fun d ρ1 => w' ρ1 fun d' ρ2 => N.nx ((ρ2.set i (.val d)).set j (.own d'))
theorem ds_parEF {px py pt : Pos} {kt k2 pt2} (hc : X.calm = true) (hN : X.N.Nodup) (hi : X.N[i]? = some x) (hj : X.N[j]? = some y) (hij : i ≠ j)
    (hx : X.env.scope.names.lookup x = some .local) (hy : X.env.scope.names.lookup y = some .local) (ha : DE X kx a w) (hb : DF X kx b wb)
    (hw : swappedStores [.Tuple [.Name x px, .Name y py] kt pt] (.Tuple [a, b] k2 pt2) X.env = pure (some [x, y]))
    (hs : swapsWithSole [.Tuple [.Name x px, .Name y py] kt pt] (.Tuple [a, b] k2 pt2) pos.line X.env = pure false := by rfl) (hs1 : starEach [a, b] X.env = (false, eval a X.env) :: starEach [b] X.env := by rfl) (hs2 : starEach [b] X.env = (false, eval b X.env) :: starEach [] X.env := by rfl) :
    DS X kx (.Assign [.Tuple [.Name x px, .Name y py] kt pt] (.Tuple [a, b] k2 pt2) pos) (sParEF i j w wb) :=
  ⟨fun β => PS.imp (ps_par hc hN hi hj hij hx hy (pa_cons (ha.run β) (pa_cons (hb.run β) pa_nil hs2) hs1) hw hs) fun Dn σ H ⟨xk, S, ρ, N, st, en, lj, hw⟩ => ⟨xk, S, ρ, _, st, hw, fun d ρ1 v H1 S1 ex1 st1 r1 q =>
    ⟨xk, S1, ρ1, _, st1, q, fun d' ρ2 p' o' H2 S2 ex2 st2 ow' nm' nO' q2 => by
      refine ⟨_, _, rfl, ?_⟩
      have l2 : ρ2.length = ρ.length := st.len_eq st2
      have st3 := (st2.store (i := i) (r1.up ex2)).adopt (i := j) (s := .own d') (by rw [Ev.set_len, l2]; exact lj) nm' ⟨ow', nO'⟩
      exact en.nx _ _ _ _ (ex1.trans ex2) st3 q2⟩⟩⟩
/-- a new one, data -/
def sParFE (i j : Nat) (w w' : WE) : WS := fun N ρ => i < ρ.length ∧ w ρ fun d ρ1 => w' ρ1 fun d' ρ2 => N.nx ((ρ2.set j (.val d')).set i (.own d))
def tLat (X : Cx) (kx : XC) (β : Base) (w : WE) : TE := fun σ H Q => ∃ p o, β.Mine p ∧ ¬ β.O p ∧ LE X kx (β.with p o) w σ H Q
theorem pe_lat {β : Base} (h : DE X kx e w) : PE X e (tLat X kx β w) := ⟨fun pins s σ H Q I ⟨p, o, _, _, q⟩ => (h.run (β.with p o)).run pins s σ H Q I q⟩
theorem ds_parFE {px py pt : Pos} {kt k2 pt2} (hc : X.calm = true) (hN : X.N.Nodup) (hi : X.N[i]? = some x) (hj : X.N[j]? = some y) (hij : i ≠ j)
    (hx : X.env.scope.names.lookup x = some .local) (hy : X.env.scope.names.lookup y = some .local) (ha : DF X kx a w) (hb : DE X kx b wb)
    (hw : swappedStores [.Tuple [.Name x px, .Name y py] kt pt] (.Tuple [a, b] k2 pt2) X.env = pure (some [x, y]))
    (hs : swapsWithSole [.Tuple [.Name x px, .Name y py] kt pt] (.Tuple [a, b] k2 pt2) pos.line X.env = pure false := by rfl) (hs1 : starEach [a, b] X.env = (false, eval a X.env) :: starEach [b] X.env := by rfl) (hs2 : starEach [b] X.env = (false, eval b X.env) :: starEach [] X.env := by rfl) :
    DS X kx (.Assign [.Tuple [.Name x px, .Name y py] kt pt] (.Tuple [a, b] k2 pt2) pos) (sParFE i j w wb) :=
  ⟨fun β => PS.imp (ps_par hc hN hi hj hij hx hy (pa_cons (ha.run β) (pa_cons (pe_lat (β := β) hb) pa_nil hs2) hs1) hw hs) fun Dn σ H ⟨xk, S, ρ, N, st, en, li, hw⟩ => ⟨xk, S, ρ, _, st, hw, fun d ρ1 p o H1 S1 ex1 st1 ow nm nO q =>
    ⟨p, o, nm, nO, xk.with nO, S1, ρ1, _, st1, q, fun d' ρ2 v H2 S2 ex2 st2 r2 q2 => by
      refine ⟨_, _, rfl, ?_⟩
      have l2 : ρ2.length = ρ.length := st.len_eq st2
      have st3 := st2.store (i := j) r2
      have e1 : H2 p = H1 p := (st3.frame p o (.inr ⟨rfl, rfl⟩)).trans (st1.frame p o (.inr ⟨rfl, rfl⟩)).symm
      have st4 := st3.adopt (i := i) (s := .own d) (by rw [Ev.set_len, l2]; exact li) nm ⟨ow.up ex2 e1, nO⟩
      rw [set_comm hij]
      exact en.nx _ _ _ _ (ex1.trans ex2) st4 q2⟩⟩⟩
/-! ### own dicts -/
def putDK (kvs : List (Key × D)) (k : Key) (d : D) : List (Key × D) := if (kvs.any fun kv => decide (kv.1 = k)) = true then kvs.map (fun kv => if kv.1 = k then (kv.1, d) else kv) else kvs ++ [(k, d)]
theorem RepK.anyKey {G : Gd} {S : Hid} {H : Hp} {k : Key} : ∀ {kvs : List (Key × D)} {ws : List (Key × V)}, RepK G S H kvs ws → (ws.any fun kv => decide (kv.1 = k)) = kvs.any fun kv => decide (kv.1 = k)
  | [], _, h => by rw [repKnil] at h; subst h; rfl
  | (k', d) :: kvs, _, h => by
    obtain ⟨v, ws, rfl, h1, h2⟩ := repKcons.mp h
    simp only [List.any_cons, RepK.anyKey h2]
theorem RepK.map1 {G : Gd} {S : Hid} {H : Hp} {k : Key} {d : D} {v : V} (r : Rep G S H d v) : ∀ {kvs : List (Key × D)} {ws : List (Key × V)}, RepK G S H kvs ws → RepK G S H (kvs.map fun kv => if kv.1 = k then (kv.1, d) else kv) (ws.map fun kv => if kv.1 = k then (kv.1, v) else kv)
  | [], _, h => by rw [repKnil] at h; subst h; exact repKnil.mpr rfl
  | (k', d') :: kvs, _, h => by
    obtain ⟨u, ws, rfl, h1, h2⟩ := repKcons.mp h
    simp only [List.map_cons]
    by_cases hk : k' = k
    · rw [if_pos hk, if_pos hk]
      exact repKcons.mpr ⟨v, _, rfl, r, RepK.map1 r h2⟩
    · rw [if_neg hk, if_neg hk]
      exact repKcons.mpr ⟨u, _, rfl, h1, RepK.map1 r h2⟩
theorem RepK.snoc {G : Gd} {S : Hid} {H : Hp} {k : Key} {d : D} {v : V} (r : Rep G S H d v) : ∀ {kvs : List (Key × D)} {ws : List (Key × V)}, RepK G S H kvs ws → RepK G S H (kvs ++ [(k, d)]) (ws ++ [(k, v)])
  | [], _, h => by rw [repKnil] at h; subst h; exact repKcons.mpr ⟨v, [], rfl, r, repKnil.mpr rfl⟩
  | (k', d') :: kvs, _, h => by
    obtain ⟨u, ws, rfl, h1, h2⟩ := repKcons.mp h
    exact repKcons.mpr ⟨u, _, rfl, h1, RepK.snoc r h2⟩
theorem RepK.put {G : Gd} {S : Hid} {H : Hp} {k : Key} {d : D} {v : V} (r : Rep G S H d v) {kvs : List (Key × D)} {ws : List (Key × V)} (h : RepK G S H kvs ws) : RepK G S H (putDK kvs k d) (putK ws k v) := by
  unfold putDK putK
  rw [h.anyKey]
  split
  · exact h.map1 r
  · exact h.snoc r
def Slot.isDK : Slot → Bool
  | .own (.dK _) => true
  | _ => false
theorem StOk.own_dk {G : Gd} {β : Base} {S : Hid} {ρ : Ev} {σ : L2.St} {H : Hp} (h : StOk G β S ρ σ H) {i : Nat} {xs : List (Key × D)} (e : ρ.get i = .own (.dK xs)) : ∃ p vs, sg σ i = some (.ref p) ∧ S p ∧ β.Mine p ∧ H p = some (.dK vs) ∧ RepK G S H xs vs ∧ ¬ β.O p := by
  have q := h.slot i
  rw [e] at q
  obtain ⟨p, e1, h1, m, ⟨⟨vs, h2, h3⟩, h4⟩⟩ := q
  exact ⟨p, vs, e1, h1, m, h2, h3, h4⟩
/-- d[k] = v, an own dict -/
def sDPutD (i : Nat) (w wk : WE) : WS := fun N ρ => w ρ fun d ρ1 => (ρ1.get i).isDK = true ∧ wk ρ1 fun kd ρ2 => match keyD kd, ρ2.get i with
  | some k, .own (.dK kvs) => kvs.length < sizeLine ∧ N.nx (ρ2.set i (.own (.dK (putDK kvs k d))))
  | _, _ => False
theorem ds_dput {pos' : Pos} (hu : X.A.units + 1 < cLine) (h0 : PE X o (tVar i)) (hk : DE X kx b wb) (hv : DE X kx e w) (hs : swapsWith e (some (.Subscript o b pos')) pos.line X.env = pure false := by rfl) : DS X kx (.Assign [.Subscript o b pos'] e pos) (sDPutD i w wb) :=
  ⟨fun β => PS.imp (ps_dput hu h0 (hk.run β) (hv.run β) hs) fun Dn σ H ⟨xk, S, ρ, N, st, en, hw⟩ => ⟨xk, S, ρ, _, st, hw, fun d ρ1 v H1 S1 ex1 st1 r1 ⟨hd, q⟩ => by
    have hp : ∃ p, sg σ i = some (.ref p) := by
      have sl := st1.slot i
      cases e : ρ1.get i with
      | own d => rw [e] at sl; obtain ⟨p, e1, _⟩ := sl; exact ⟨p, e1⟩
      | _ => rw [e] at hd; cases hd
    obtain ⟨p, e1⟩ := hp
    refine ⟨.ref p, sg_some.mp e1, xk, S1, ρ1, _, st1, q, fun kd ρ2 u H2 S2 ex2 st2 r2 q2 => ?_⟩
    split at q2
    · rename_i k kvs hk hs
      obtain ⟨p', vs, e2, h1, m, h2, h3, h4⟩ := st2.own_dk hs
      rw [e1] at e2; cases e2
      have r3 := r1.up ex2
      have ek := keyD_rep r2 hk
      have ex : Ext S2 H2 S2 (upd H2 p (.dK (putK vs k v))) := .but h1 fun a o n q => by rw [upd_ne n]; exact q
      have lz : vs.length < sizeLine := by rw [h3.length]; exact q2.1
      refine ⟨p, _, rfl, .inl ⟨vs, k, h2, ek, lz, rfl⟩, en.nx S2 _ σ _ ((ex1.trans ex2).trans ex) (st2.write e1 (by rw [hs]; rfl) (fun a o n q => by rw [upd_ne n]; exact q) (s := .own (.dK (putDK kvs k d))) ⟨⟨_, upd_same, (h3.put r3).up ex⟩, h4⟩) q2.2⟩
    · exact q2.elim⟩⟩
/-- d.get(k, x) -/
def wDGet2 (wd wk wx : WE) : WE := fun ρ k => wd ρ fun d ρ1 => match d with
  | .dK kvs => wk ρ1 fun kd ρ2 => wx ρ2 fun z ρ3 => match keyD kd with
    | some key => k ((lookD kvs key).getD z) ρ3
    | none => False
  | _ => False
theorem de_dget2 (hu : X.A.units + 1 < cLine) (ho : DE X kx o wo) (he : DE X kx a w) (hf : DE X kx b wb) (m : M2 X o "get" apos a b cpos) : DE X kx (.Call (.Attribute o "get" apos) [a, b] [] cpos) (wDGet2 wo w wb) :=
  ⟨fun β => PE.imp (pe_dget2 hu (ho.run β) (he.run β) (hf.run β) m) fun σ H Q ⟨xk, S, ρ, k, st, hw, hk⟩ => ⟨xk, S, ρ, _, st, hw, fun d ρ1 v H1 S1 ex1 st1 r1 q => by
    cases d with
    | dK kvs =>
      obtain ⟨a, ws, rfl, ⟨nS, h1⟩, h2⟩ := repDK.mp r1
      refine ⟨a, rfl, .inl ⟨ws, .inl h1⟩, xk, S1, ρ1, _, st1, q, fun kd ρ2 u H2 S2 ex2 st2 r2 q2 => ⟨xk, S2, ρ2, _, st2, q2, fun z ρ3 uz H3 S3 ex3 st3 r3 q3 => ?_⟩⟩
      cases e : keyD kd with
      | none => rw [e] at q3; exact q3.elim
      | some key =>
        rw [e] at q3
        have ek := keyD_rep r2 e
        subst ek
        have ex := ex2.trans ex3
        have h3 := h2.up ex
        refine ⟨_, DGet.k (k := key) (ex a _ nS h1).2, hk _ ρ3 _ H3 S3 ((ex1.trans ex2).trans ex3) st3 ?_ q3⟩
        have hv := h3.val (k := key)
        cases e2 : lookD kvs key with
        | none => rw [e2] at hv; rw [hv]; exact r3
        | some d => rw [e2] at hv; obtain ⟨u', z1, z2⟩ := hv; rw [z1]; exact z2
    | _ => exact q.elim⟩⟩
/-! ### f-strings -/
def wFmt (w : WE) : WE := fun ρ k => w ρ fun d ρ1 => match d with
  | .str y => y.length ≤ sizeLine ∧ k (.str y) ρ1
  | .int i => i.natAbs.log2 < 1920 ∧ k (.str (toString i)) ρ1
  | _ => False
theorem de_fmt (h : DE X kx e w) : DE X kx (.FormattedValue e (-1) none pos) (wFmt w) := ⟨fun β => PE.imp (pe_fmt (h.run β)) fun σ H Q ⟨xk, S, ρ, k, st, hw, hk⟩ => ⟨xk, S, ρ, _, st, hw, fun d ρ1 v H1 S1 ex1 st1 r1 q => by
  cases d with
  | str y => rw [repStr] at r1; subst r1; exact .inl ⟨y, rfl, q.1, hk _ ρ1 _ H1 S1 ex1 st1 (repStr.mpr rfl) q.2⟩
  | int y => rw [repInt] at r1; subst r1; exact .inr ⟨y, rfl, q.1, hk _ ρ1 _ H1 S1 ex1 st1 (repStr.mpr rfl) q.2⟩
  | _ => exact q.elim⟩⟩
abbrev WJ := Str → Ev → (Str → Ev → Prop) → Prop
structure DJ (X : Cx) (kx : XC) (es : List Expr) (w : WJ) : Prop where
  run : ∀ β, ∃ ts, PJ X es ts ∧ ∀ acc σ H Q, (XOk X β kx ∧ ∃ S ρ k, StOk (gd X) β S ρ σ H ∧ w acc ρ k ∧ ∀ z ρ' H' S', Ext S H S' H' → StOk (gd X) β S' ρ' σ H' → k z ρ' → Q z H') → tJs ts acc σ H Q
def jNil : WJ := fun acc ρ k => k acc ρ
def jCons (w : WE) (wr : WJ) : WJ := fun acc ρ k => w ρ fun d ρ1 => match d with
  | .str y => (acc ++ y).length ≤ sizeLine ∧ wr (acc ++ y) ρ1 k
  | _ => False
theorem dj_nil : DJ X kx [] jNil := ⟨fun β => ⟨[], .nil, fun acc σ H Q ⟨xk, S, ρ, k, st, hw, hk⟩ => hk acc ρ H S .refl st hw⟩⟩
theorem dj_cons {wr : WJ} (h : DE X kx e w) (hr : DJ X kx es wr) : DJ X kx (e :: es) (jCons w wr) := ⟨fun β => by
  obtain ⟨ts, pj, run⟩ := hr.run β
  refine ⟨LE X kx β w :: ts, .cons (h.run β) pj, fun acc σ H Q ⟨xk, S, ρ, k, st, hw, hk⟩ => ⟨xk, S, ρ, _, st, hw, fun d ρ1 v H1 S1 ex1 st1 r1 q => ?_⟩⟩
  cases d with
  | str y => rw [repStr] at r1; subst r1; exact ⟨y, rfl, q.1, run _ σ H1 Q ⟨xk, S1, ρ1, k, st1, q.2, fun z ρ' H' S' ex' st' q' => hk z ρ' H' S' (ex1.trans ex') st' q'⟩⟩
  | _ => exact q.elim⟩
def wJoined (w : WJ) : WE := fun ρ k => w Str.empty ρ fun z ρ1 => k (.str z) ρ1
theorem de_joined {wr : WJ} (h : DJ X kx (a :: b :: es) wr) : DE X kx (.JoinedStr (a :: b :: es) pos) (wJoined wr) := ⟨fun β => by
  obtain ⟨ts, pj, run⟩ := h.run β
  exact PE.imp (pe_joined pj) fun σ H Q ⟨xk, S, ρ, k, st, hw, hk⟩ => run _ σ H _ ⟨xk, S, ρ, _, st, hw, fun z ρ' H' S' ex' st' q => hk _ ρ' _ H' S' ex' st' (repStr.mpr rfl) q⟩⟩
/-! ### list(range(n)) -/
theorem cr_rng1 : CallR X (.type "range") (fun vs H Q => ∃ j, vs = [V.int j] ∧ ∀ p, H p = none → Q (.ref p) (upd H p (.rng 0 j))) := by
  intro pins s σ H vs us Q I r h
  obtain ⟨j, rfl, q⟩ := h
  cases r with
  | cons r1 r2 =>
    cases r2
    obtain ⟨t, rfl⟩ := r1
    refine call_range_1 ⟨.ref s.heap.objs.size, upd H s.heap.objs.size (.rng 0 j), I.laid (t' := s.toks + 1 + 1) (fun b o e => Heap.get?_push_of_some _ e) (Nat.le_refl _) ?_, rfl, q _ I.fresh⟩
    exact ⟨s.toks, t, s.toks + 1, Heap.get?_push_size _ rfl⟩
theorem vals_of_get : ∀ {vs : List V} {us : List Value}, vs.length = us.length → (∀ (i : Nat) (v : V) (u : Value), vs[i]? = some v → us[i]? = some u → RelV v u) → Vals vs us
  | [], [], _, _ => .nil
  | [], _ :: _, h, _ => by simp at h
  | _ :: _, [], h, _ => by simp at h
  | v :: vs, u :: us, h, f => .cons (f 0 v u (by simp) (by simp)) (vals_of_get (by simpa using h) fun i a b e1 e2 => f (i + 1) a b (by simpa using e1) (by simpa using e2))
theorem cr_list_rng (hc : X.calm = true) : CallR X (.type "list") (fun vs H Q => ∃ (r : Addr) (n : Nat), vs = [.ref r] ∧ H r = some (.rng 0 (n : Int)) ∧ n ≤ 2 ^ 24 ∧ ∀ p, H p = none → Q (.ref p) (upd H p (.lst ((List.range n).map fun i : Nat => V.int (i : Int))))) := by
  intro pins s σ H vs us Q I r h
  obtain ⟨ra, n, rfl, hr, hn, q⟩ := h
  cases r with
  | cons r1 r2 =>
    cases r2
    cases (show _ = Value.ref ra from r1)
    obtain ⟨t, u, v, ho⟩ := I.hok ra _ hr
    have hsz : Builtin.Range.rangeSize 0 (n : Int) 1 = n := by
      simp [Builtin.Range.rangeSize]
      omega
    have hsm : Builtin.Range.small 0 (n : Int) 1 = true := by
      simp only [Builtin.Range.small]
      rw [hsz]
      have ff : ∀ m : Int, 0 ≤ m → m ≤ 2 ^ 24 → Builtin.Range.rangeFitsLong m = true := fun m h0 h1 => by
        unfold Builtin.Range.rangeFitsLong
        simp
        omega
      simp [ff 0 (by decide) (by decide), ff 1 (by decide) (by decide), ff n (by omega) (by omega)]
    refine call_list_range (I.ok.hd hc) ho hsm hsz hn fun h' tk acc' c' keep new items => ?_
    refine ⟨.ref _, _, I.laid (t' := tk) keep (Nat.le_refl _) (o := .lst ((List.range n).map fun i : Nat => V.int (i : Int))) ⟨?_, acc'.toList, c', ?_, by simpa using new⟩, rfl, q _ I.fresh⟩
    · simp [sizeLine]; omega
    · refine vals_of_get (by simp [items.1]) fun i v u e1 e2 => ?_
      rw [List.getElem?_map] at e1
      have e2' : acc'[i]? = some u := by simpa using e2
      obtain ⟨tt, rfl⟩ := items.2 i u e2'
      cases hi : (List.range n)[i]? with
      | none => rw [hi] at e1; cases e1
      | some k =>
        rw [hi] at e1
        cases e1
        have : k = i := by
          have := List.getElem?_eq_some_iff.mp hi
          obtain ⟨_, z⟩ := this
          simpa using z.symm
        subst this
        exact ⟨tt, by simp⟩
def wLstRng (wa : WA) : WE := fun ρ k => wa ρ fun ds ρ1 => match ds with
  | [.int n] => (0 ≤ n ∧ n ≤ 2 ^ 24) ∧ k (.lst (seqI 0 n.toNat)) ρ1
  | _ => False
theorem df_listRng {pl pr pc : Pos} (hc : X.calm = true) (hgl : Gl X "list") (hml : X.mg "list" = none) (hgr : Gl X "range") (hmr : X.mg "range" = none) (hbl : bootBuiltins "list" = some (.type "list")) (hbr : bootBuiltins "range" = some (.type "range")) (ha : DA X kx [e] wa)
    (he : starEach [e] X.env = (false, eval e X.env) :: starEach [] X.env := by rfl) (hpl : (backTo pc (starEach [] X.env)).any (·.1) = false := by rfl)
    (he2 : starEach [.Call (.Name "range" pr) [e] [] pc] X.env = (false, eval (.Call (.Name "range" pr) [e] [] pc) X.env) :: starEach [] X.env := by rfl) (hpl2 : (backTo pos (starEach [] X.env)).any (·.1) = false := by rfl) :
    DF X kx (.Call (.Name "list" pl) [.Call (.Name "range" pr) [e] [] pc] [] pos) (wLstRng wa) :=
  ⟨fun β => PE.imp (pe_callTy (cr_list_rng hc) hgl hml hbl (pa_cons (pe_callTy cr_rng1 hgr hmr hbr (ha.run β) (by decide) (by decide) he hpl) pa_nil he2) (by decide) (by decide) he2 hpl2) fun σ H Q ⟨xk, S, ρ, k, st, hw, hk⟩ =>
    ⟨xk, S, ρ, _, st, hw, fun ds ρ1 vs H1 S1 ex1 st1 r1 q => by
      split at q
      · rename_i n
        obtain ⟨v, rfl, r2⟩ := rep1 r1
        rw [repInt] at r2; subst r2
        obtain ⟨⟨n0, n1⟩, q⟩ := q
        refine ⟨n, rfl, fun p hp => ⟨p, n.toNat, rfl, by rw [upd_same, Int.toNat_of_nonneg n0], by omega, fun p' hp' => ?_⟩⟩
        have hp2 : H1 p' = none := by
          by_cases z : p' = p
          · rw [z]; exact hp
          · rwa [upd_ne z] at hp'
        have st2 := st1.grow (same_upd (o := .rng 0 n) hp)
        have lay : ∀ {S : Hid} {H : Hp}, RepL (gd X) S H (seqI 0 n.toNat) ((List.range n.toNat).map fun i : Nat => V.int (i : Int)) := fun {S H} => by
          unfold seqI
          refine RepL.of_get (by simp) fun m d v e1 e2 => ?_
          rw [List.getElem?_map] at e1 e2
          cases hi : (List.range n.toNat)[m]? with
          | none => rw [hi] at e1; cases e1
          | some z =>
            rw [hi] at e1 e2
            cases e1; cases e2
            exact repInt.mpr (by simp)
        exact hk (.lst (seqI 0 n.toNat)) ρ1 p' _ _ _ (ex1.trans ((Ext.same (same_upd hp)).trans (ext_take hp'))) (st2.hide hp') ⟨_, upd_same, lay⟩ (st2.new_mine hp').2.2 (st2.new_mine hp').2.1 q
      · exact q.elim⟩⟩
end
end Q
set_option Elab.async false
set_option linter.all false
set_option maxRecDepth 100000
set_option maxHeartbeats 2000000
/-! QRepr: repr of data. -/
namespace Q
open PySem PySem.Spec PyProof.Rows L2
section
variable {X : Cx} {kx : XC}
mutual
theorem Rep.reads {S : Hid} {H : Hp} {pins : List (Addr × Obj)} {σ : L2.St} {s : Shared} (I : L2.Inv X pins σ H s) : ∀ (d : D) (v : V) (u : Value) (p : PyData), Rep (gd X) S H d v → RelV v u → d.py = some p → ∃ as, Reads s.heap u p as
  | .non, v, u, p, h, q, e => by rw [repNon] at h; subst h; simp [D.py] at e; subst e; cases (show u = Value.none from q); exact ⟨_, .none⟩
  | .bl b, v, u, p, h, q, e => by rw [repBl] at h; subst h; simp [D.py] at e; subst e; cases (show u = Value.bool b from q); exact ⟨_, .bool b⟩
  | .int b, v, u, p, h, q, e => by rw [repInt] at h; subst h; simp [D.py] at e; subst e; obtain ⟨t, rfl⟩ := q; exact ⟨_, .int b t⟩
  | .str b, v, u, p, h, q, e => by rw [repStr] at h; subst h; simp [D.py] at e; subst e; obtain ⟨t, rfl⟩ := q; exact ⟨_, .str b t⟩
  | .tup ds, v, u, p, h, q, e => by
    obtain ⟨a, vs, rfl, h1, h2⟩ := repTup.mp h
    unfold D.py at e
    obtain ⟨ps, e1, e2⟩ := Option.map_eq_some_iff.mp e
    subst e2
    cases (show u = Value.ref a from q)
    obtain ⟨its, rv, ⟨o, g1, g2, n, g3⟩, _⟩ := I.tuple h1.seq
    obtain ⟨as, ra⟩ := RepL.reads I ds vs its ps h2 rv e1
    exact ⟨as, .tuple g1 g2 g3 (by simpa using ra)⟩
  | .lst ds, v, u, p, h, q, e => by
    obtain ⟨a, vs, rfl, h1, h2⟩ := repLst.mp h
    unfold D.py at e
    obtain ⟨ps, e1, e2⟩ := Option.map_eq_some_iff.mp e
    subst e2
    cases (show u = Value.ref a from q)
    obtain ⟨its, rv, ⟨o, n, g1, g2, _, g3⟩, _⟩ := I.list h1.seq
    obtain ⟨as, ra⟩ := RepL.reads I ds vs its ps h2 rv e1
    exact ⟨_, .list g1 g2 g3 (by simpa using ra)⟩
  | .dK _, _, _, _, _, _, e => by simp [D.py] at e
  | .dT _, _, _, _, _, _, e => by simp [D.py] at e
  | .ins _ _, _, _, _, _, _, e => by simp [D.py] at e
theorem RepL.reads {S : Hid} {H : Hp} {pins : List (Addr × Obj)} {σ : L2.St} {s : Shared} (I : L2.Inv X pins σ H s) : ∀ (ds : List D) (vs : List V) (us : List Value) (ps : List PyData), RepL (gd X) S H ds vs → Vals vs us → D.pyL ds = some ps → ∃ as, ReadsAll s.heap us ps as
  | [], vs, us, ps, h, q, e => by rw [repLnil] at h; subst h; cases q; simp [D.pyL] at e; subst e; exact ⟨_, .nil⟩
  | d :: ds, vs, us, ps, h, q, e => by
    obtain ⟨v, ws, rfl, h1, h2⟩ := repLcons.mp h
    cases q with
    | cons q1 q2 =>
      unfold D.pyL at e
      cases e1 : d.py with
      | none => rw [e1] at e; cases e
      | some a =>
        rw [e1] at e
        cases e2 : D.pyL ds with
        | none => rw [e2] at e; cases e
        | some as =>
          rw [e2] at e
          cases e
          obtain ⟨a1, r1⟩ := Rep.reads I d v _ a h1 q1 e1
          obtain ⟨a2, r2⟩ := RepL.reads I ds ws _ as h2 q2 e2
          exact ⟨_, .cons r1 r2⟩
end
mutual
theorem D.py_noDict : ∀ (d : D) (p : PyData), d.py = some p → p.hasDict = false
  | .non, p, e => by simp [D.py] at e; subst e; rfl
  | .bl b, p, e => by simp [D.py] at e; subst e; rfl
  | .int b, p, e => by simp [D.py] at e; subst e; rfl
  | .str b, p, e => by simp [D.py] at e; subst e; rfl
  | .tup ds, p, e => by
    unfold D.py at e
    obtain ⟨ps, e1, e2⟩ := Option.map_eq_some_iff.mp e
    subst e2
    simpa [PyData.hasDict] using D.pyL_noDict ds ps e1
  | .lst ds, p, e => by
    unfold D.py at e
    obtain ⟨ps, e1, e2⟩ := Option.map_eq_some_iff.mp e
    subst e2
    simpa [PyData.hasDict] using D.pyL_noDict ds ps e1
  | .dK _, _, e => by simp [D.py] at e
  | .dT _, _, e => by simp [D.py] at e
  | .ins _ _, _, e => by simp [D.py] at e
theorem D.pyL_noDict : ∀ (ds : List D) (ps : List PyData), D.pyL ds = some ps → PyData.hasDictAll ps = false
  | [], ps, e => by simp [D.pyL] at e; subst e; rfl
  | d :: ds, ps, e => by
    unfold D.pyL at e
    cases e1 : d.py with
    | none => rw [e1] at e; cases e
    | some a =>
      rw [e1] at e
      cases e2 : D.pyL ds with
      | none => rw [e2] at e; cases e
      | some as =>
        rw [e2] at e
        cases e
        simp [PyData.hasDictAll, D.py_noDict d a e1, D.pyL_noDict ds as e2]
end
/-- repr(x), x data without dicts -/
def rRepr : RDs := fun ds k => ∃ d p, ds = [d] ∧ d.py = some p ∧ p.showable = true ∧ p.shown.length ≤ sizeLine ∧ p.depth ≤ 60 ∧ k (.str p.shown)
theorem dc_repr (qa : Quiet X.A) (hu : X.A.units + 64 < cLine) : DCa X (.builtin "repr") rRepr := by
  intro pins s σ H xs us Q I r h
  obtain ⟨S, ds, k, hd, rp, ⟨d, p, rfl, hp, hsh, hsz, hdp, hr⟩, hk⟩ := h
  obtain ⟨v, rfl, r1⟩ := rep1 rp
  cases r with
  | cons q1 q2 =>
    cases q2
    have fin := hk (.str p.shown) (.str p.shown) H (Same.refl _) (repStr.mpr rfl) hr
    have keep : ∀ h' (u : Tok) (tk : Nat), (∀ b o, s.heap.get? b = some o → h'.get? b = some o) → EP X pins σ Q (.str p.shown u) { s with heap := h', toks := tk } := fun h' u tk kp => ⟨.str p.shown, H, I.kept kp, ⟨u, rfl⟩, fin⟩
    obtain ⟨as, rd⟩ := Rep.reads I d v _ p r1 q1 hp
    have heap : ∀ a : Addr, Reads s.heap (.ref a) p as → wpAny (model X.prog X.w) X.A (call (.builtin "repr") [.ref a]) (EP X pins σ Q) X.xe s := fun a rd =>
      repr_of_reads' rd hsh (PyData.noDict_hsm (D.py_noDict d p hp)) qa (by omega) (fun _ _ q => q) (fun h' u tk kp => keep h' u tk kp) hsz
    cases rd with
    | none => exact PySem.P.repr_of_none ⟨.str "None", H, I.tok _, ⟨_, rfl⟩, fin⟩
    | bool b => exact PySem.P.repr_of_bool ⟨.str _, H, I.tok _, ⟨_, rfl⟩, fin⟩
    | int i t => exact PySem.P.repr_of_int (by simpa [PyData.showable] using hsh) ⟨.str _, H, I.tok _, ⟨_, rfl⟩, fin⟩
    | str x t => exact PySem.P.repr_of_str ⟨.str _, H, I.tok _, ⟨_, rfl⟩, fin⟩ hsz
    | list h1 h2 h3 h4 => exact heap _ (.list h1 h2 h3 h4)
    | tuple h1 h2 h3 h4 => exact heap _ (.tuple h1 h2 h3 h4)
    | dict h1 h2 h3 h4 h5 => exact heap _ (.dict h1 h2 h3 h4 h5)
/-! ### reading and writing the purse -/
variable {e o : Expr} {w : WE} {i : Nat} {pos p pc : Pos}
def purseGet (kk : Nat) (Q : Int → Prop) : Prop := ∀ a b c : Int, 0 ≤ a → 0 ≤ b → b < 2147483563 → match kk with
  | 0 => Q a
  | 1 => Q b
  | _ => Q c
def wPix (i kk : Nat) : WE := fun ρ k => (ρ.get i).isPurse = true ∧ purseGet kk fun n => k (.int n) ρ
theorem de_pix {kk c : Nat} (hk : kk < 3) (h0 : PE X o (tVar i)) (hs : PlainIx (.Constant (.int (kk : Int)) c pc) := by exact fun _ _ => rfl) : DE X kx (.Subscript o (.Constant (.int (kk : Int)) c pc) pos) (wPix i kk) :=
  ⟨fun β => PE.imp (pe_ix ix_list h0 pe_int hs) fun σ H Q ⟨xk, S, ρ, k, st, hw, hq⟩ => by
    obtain ⟨p, e1, hS, a, b, c', e2, h1, h2, h3⟩ := st.purse_at hw.1
    have q := hw.2 a b c' h1 h2 h3
    match kk, hk, q with
    | 0, _, q => exact ⟨_, sg_some.mp e1, p, _, 0, .int a, rfl, rfl, .inl (.inl e2), rfl, hq _ ρ _ H S .refl st (repInt.mpr rfl) q⟩
    | 1, _, q => exact ⟨_, sg_some.mp e1, p, _, 1, .int b, rfl, rfl, .inl (.inl e2), rfl, hq _ ρ _ H S .refl st (repInt.mpr rfl) q⟩
    | 2, _, q => exact ⟨_, sg_some.mp e1, p, _, 2, .int c', rfl, rfl, .inl (.inl e2), rfl, hq _ ρ _ H S .refl st (repInt.mpr rfl) q⟩⟩
def purseFit (kk : Nat) (n : Int) : Prop := match kk with
  | 0 => 0 ≤ n
  | 1 => 0 ≤ n ∧ n < 2147483563
  | _ => True
def gPix (i kk : Nat) : WG := fun d ρ k => match d with
  | .int n => (ρ.get i).isPurse = true ∧ purseFit kk n ∧ k ρ
  | _ => False
theorem dg_pix {kk c : Nat} (hk : kk < 3) (h0 : PE X o (tVar i)) (ha : ∀ v, assign (.Subscript o (.Constant (.int (kk : Int)) c pc) pos) X.env v = (do
      let ov ← holding [v] (eval o X.env)
      let iv ← holding [v, ov] (eval (.Constant (.int (kk : Int)) c pc) X.env)
      standAt pos
      holding [v, ov, iv] (setItem ov iv v)
      release [v, ov, iv] []) := by intro _; rfl) : DG X (.Subscript o (.Constant (.int (kk : Int)) c pc) pos) [] (gPix i kk) :=
  ⟨fun β => PG.imp (pg_sub h0 pe_int set_list ha) fun v σ H Q ⟨S, ρ, d, k, st, r, hw, hq⟩ => by
    cases d with
    | int n =>
      rw [repInt] at r; subst r
      obtain ⟨hp, hf, hw⟩ := hw
      obtain ⟨p, e1, hS, a, b, c', e2, h1, h2, h3⟩ := st.purse_at hp
      have go : ∀ ys : List V, (∃ a' b' c'' : Int, ys = [.int a', .int b', .int c''] ∧ 0 ≤ a' ∧ 0 ≤ b' ∧ b' < 2147483563) → Q σ (upd H p (.lst ys)) := fun ys ⟨a', b', c'', ey, z⟩ => by
        have ex : Ext S H S (upd H p (.lst ys)) := .but hS fun a o n q => by rw [upd_ne n]; exact q
        exact hq ρ σ _ ex (st.purse e1 hp (fun a o n q => by rw [upd_ne n]; exact q) ⟨a', b', c'', by rw [upd_same, ey], z⟩) rfl (fun _ _ => rfl) hw
      match kk, hk, hf with
      | 0, _, hf => exact ⟨_, sg_some.mp e1, p, _, 0, 0, rfl, rfl, e2, rfl, go _ ⟨n, b, c', rfl, hf, h2, h3⟩⟩
      | 1, _, hf => exact ⟨_, sg_some.mp e1, p, _, 1, 1, rfl, rfl, e2, rfl, go _ ⟨a, n, c', rfl, h1, hf⟩⟩
      | 2, _, hf => exact ⟨_, sg_some.mp e1, p, _, 2, 2, rfl, rfl, e2, rfl, go _ ⟨a, b, n, rfl, h1, h2, h3⟩⟩
    | _ => exact hw.elim⟩
end
end Q
set_option Elab.async false
set_option linter.all false
set_option maxRecDepth 100000
set_option maxHeartbeats 2000000
/-! QFin: small things for the printed terms. -/
namespace Q
open PySem PySem.Spec PyProof.Rows L2
theorem b_len : bootBuiltins "len" = some (.builtin "len") := by decide +kernel
theorem b_all : bootBuiltins "all" = some (.builtin "all") := by decide +kernel
theorem b_any : bootBuiltins "any" = some (.builtin "any") := by decide +kernel
theorem b_max : bootBuiltins "max" = some (.builtin "max") := by decide +kernel
theorem b_min : bootBuiltins "min" = some (.builtin "min") := by decide +kernel
theorem b_abs : bootBuiltins "abs" = some (.builtin "abs") := by decide +kernel
theorem b_divmod : bootBuiltins "divmod" = some (.builtin "divmod") := by decide +kernel
theorem b_repr : bootBuiltins "repr" = some (.builtin "repr") := by decide +kernel
theorem b_isinstance : bootBuiltins "isinstance" = some (.builtin "isinstance") := by decide +kernel
theorem b_int : bootBuiltins "int" = some (.type "int") := by decide +kernel
theorem b_bool : bootBuiltins "bool" = some (.type "bool") := by decide +kernel
theorem b_str : bootBuiltins "str" = some (.type "str") := by decide +kernel
theorem b_list : bootBuiltins "list" = some (.type "list") := by decide +kernel
theorem b_tuple : bootBuiltins "tuple" = some (.type "tuple") := by decide +kernel
theorem b_dict : bootBuiltins "dict" = some (.type "dict") := by decide +kernel
theorem b_range : bootBuiltins "range" = some (.type "range") := by decide +kernel
section
variable {X : Cx} {kx : XC} {e : Expr} {w : WE} {pos p : Pos} {x : Str} {st : Stmt}
theorem de_gintE {i : Int} (hg : Gl X x) (hm : ∃ t, X.mg x = some (.int i t)) (hd : (x == ("__debug__" : Str)) = false := by decide) : DE X kx (.Name x pos) (wC (.int i)) := by
  obtain ⟨t, h⟩ := hm
  exact de_gint hg h hd
theorem de_gstrE {i : Str} (hg : Gl X x) (hm : ∃ t, X.mg x = some (.str i t)) (hd : (x == ("__debug__" : Str)) = false := by decide) : DE X kx (.Name x pos) (wC (.str i)) := by
  obtain ⟨t, h⟩ := hm
  exact de_gstr hg h hd
/-- what isn't reached -/
def sDead : WS := fun _ _ => False
theorem ds_dead : DS X kx st sDead := ⟨fun β => ⟨fun pins s σ H D I ⟨_, _, _, _, _, _, h⟩ => h.elim⟩⟩
def wDead : WE := fun _ _ => False
theorem de_dead : DE X kx e wDead := ⟨fun β => ⟨fun pins s σ H Q I ⟨_, _, _, _, _, h, _⟩ => h.elim⟩⟩
end
theorem u1 {k : Nat} {A : Around} (hr : Room k A) : A.units + 1 < cLine := by have := hr.un; omega
theorem u2 {k : Nat} {A : Around} (hr : Room k A) : A.units + 2 < cLine := by have := hr.un; omega
def mth (c : Stmt) (j : Nat) : Stmt := match c with
  | .ClassDef _ _ _ body _ _ _ _ _ _ _ => body.getD j (.Pass ⟨0, 0, 0, 0⟩)
  | _ => .Pass ⟨0, 0, 0, 0⟩
end Q
set_option Elab.async false
set_option linter.all false
set_option maxRecDepth 100000
set_option maxHeartbeats 2000000
/-! QOwn: own classes: defaults, properties; three stores at once. -/
namespace Q
open PySem PySem.Spec PyProof.Rows L2
section
variable (P : Program) (w : World) (K : PySem.W.Frag) (mg : Str → Option Value) (base : Heap)
/-- a class whose __init__ is called with its last parameters left out: their values dd -/
structure MkE (k : Nat) (x : Str) (c : ConI) (dd : List D) : Prop where
  ex : ∃ C f fd ps ds dvs, mg x = some (.ref C) ∧ Mk K C f ∧ Binds K fd ps ds ∧ Vals dvs ds ∧ (∀ S H, RepL ⟨K, mg⟩ S H dd dvs) ∧ FnOk P w K mg base (L2.CX P w) k f fd ps (spI ⟨K, mg⟩ x c)
/-- a property -/
structure PrD (k : Nat) (x m : Str) (c : Con) : Prop where
  ex : ∃ C p g fd ps, mg x = some (.ref C) ∧ Cls K C ∧ PropOf K C m p g ∧ Binds K fd ps [] ∧ FnOk P w K mg base (L2.CX P w) k g fd ps (spD ⟨K, mg⟩ c)
end
section
variable {X : Cx} {kx : XC} {e o a b d : Expr} {es : List Expr} {w wo wa' wb wc : WE} {wa : WA} {pos p apos : Pos} {k : Nat} {x y z cn m : Str} {c : Con} {ci : ConI} {dd : List D} {i j l : Nat}
def wMakeE (cn : Str) (c : ConI) (dd : List D) (kx : XC) (wa : WA) : WE := fun ρ k => wa ρ fun ds ρ1 => c (ds ++ dd) (fun fs => k (.ins cn fs) ρ1) kx
theorem de_makeE (M : MkE X.prog X.w X.K X.mg X.base k x ci dd) (hr : Room (k + 1) X.A) (hg : Gl X x) (ha : DA X kx (e :: es) wa) (hdb : (x == ("__debug__" : Str)) = false := by decide)
    (he : starEach (e :: es) X.env = (false, eval e X.env) :: starEach es X.env := by rfl) (hpl : (backTo pos (starEach es X.env)).any (·.1) = false := by rfl) : DE X kx (.Call (.Name x p) (e :: es) [] pos) (wMakeE x ci dd kx wa) := by
  obtain ⟨C, f, fd, ps, ds, dvs, hm, M, hb, hv, hd, F⟩ := M.ex
  refine ⟨fun β => ⟨fun pins s σ H Q I h => ?_⟩⟩
  obtain ⟨⟨E, tk, hE⟩, S, ρ, kk, st, hw, hkk⟩ := h
  refine (pe_make (E := E) M F hr hg hm hb hv (passes_call tk fun _ _ _ _ q => q) (ha.run β) hdb he hpl).run pins s σ H Q I ?_
  refine ⟨⟨E, tk, hE⟩, S, ρ, _, st, hw, fun ds ρ1 vs H1 S1 ex1 st1 r1 q a dx n1 n2 ne => ?_⟩
  exact make_end hm st1 (r1.append (hd S1 H1)) q hE (fun d v H' sm rp q' => hkk d ρ1 v H' S1 (ex1.trans (.same sm)) (st1.grow sm) rp q') a dx n1 n2 ne
def wProp (cn : Str) (c : Con) (wo : WE) : WE := fun ρ k => wo ρ fun d ρ1 => match d with
  | .ins cn' fs => cn' = cn ∧ c [.ins cn' fs] (fun r => k r ρ1) no
  | _ => False
theorem passes_nox : Passes (L2.CX X.prog X.w) X.nox (fun _ _ _ => False) := fun pins σ H s e s' I ⟨_, _, _, _, _, _, _, _, _, _, _, _, h⟩ => h.elim
theorem de_prop (M : PrD X.prog X.w X.K X.mg X.base k cn m c) (hr : Room (k + 1) X.A) (ho : DE X kx o wo) (hab : attributeBase o m X.env (eval o X.env) = eval o X.env := by rfl) : DE X kx (.Attribute o m pos) (wProp cn c wo) := by
  obtain ⟨C, pp, g, fd, ps, hm, hc, hp, hb, F⟩ := M.ex
  refine ⟨fun β => PE.imp (pe_prop (E := fun _ _ _ => False) (ho.run β) hc hp F hr hb .nil passes_nox hab) fun σ H Q ⟨xk, S, ρ, kk, st, hw, hkk⟩ => ⟨xk, S, ρ, _, st, hw, fun d ρ1 v H1 S1 ex1 st1 r1 q => ?_⟩⟩
  cases d with
  | ins cn' fs =>
    obtain ⟨rfl, q⟩ := q
    have r1' := r1
    obtain ⟨a, C', dx, ws, rfl, hm', ⟨nS, ha'⟩, hfs⟩ := repIns.mp r1
    have hm2 : X.mg cn' = some (.ref C') := hm'
    rw [hm] at hm2; cases hm2
    exact ⟨a, dx, ws, rfl, ha', S1, [.ins cn' fs], _, no, st1.sdom, .one r1', q, fun d v H' sm rp q' => hkk d ρ1 v H' S1 (ex1.trans (.same sm)) (st1.grow sm) rp q', fun _ _ _ _ _ _ _ _ _ _ _ h => h.elim⟩
  | _ => exact q.elim
/-- self.f read within an __init__ -/
def wFldS (cn : Str) (i : Nat) (f : Str) : WE := fun ρ k => match ρ.get i with
  | .slf (.ins cn' fs) => cn' = cn ∧ match fs.lookup f with
    | some d => k d ρ
    | none => False
  | _ => False
theorem de_fldS {f : Str} (hf : FldOk X.K X.mg cn f) (h0 : PE X o (tVar i)) (hb : attributeBase o f X.env (eval o X.env) = eval o X.env := by rfl) : DE X kx (.Attribute o f pos) (wFldS cn i f) := by
  obtain ⟨C, hm, hcl, hn⟩ := hf.ex
  refine ⟨fun β => PE.imp (pe_fld h0 hb) fun σ H Q ⟨xk, S, ρ, kk, st, hw, hkk⟩ => ?_⟩
  have sl := st.slot i
  unfold wFldS at hw
  split at hw
  · rename_i cn' fs hs
    obtain ⟨rfl, hw⟩ := hw
    rw [hs] at sl
    obtain ⟨p, hp, hS, hmi, ⟨C', dx, ws, hm', hi, hfs⟩, hL⟩ := sl
    have hm2 : X.mg cn' = some (.ref C') := hm'
    rw [hm] at hm2; cases hm2
    cases hl : fs.lookup f with
    | none => rw [hl] at hw; exact hw.elim
    | some d =>
      rw [hl] at hw
      obtain ⟨u, h1, h2⟩ := hfs.lookup hl
      exact ⟨_, sg_some.mp hp, p, C, dx, ws, u, rfl, hi, hcl, hn, h1, hkk d ρ u H S .refl st h2 hw⟩
  · exact hw.elim
/-- a, b, c = data, a new one, a new one -/
def sParEFF (i j l : Nat) (w w' w'' : WE) : WS := fun N ρ => j < ρ.length ∧ l < ρ.length ∧ w ρ fun d ρ1 => w' ρ1 fun d' ρ2 => w'' ρ2 fun d'' ρ3 => N.nx (((ρ3.set i (.val d)).set l (.own d'')).set j (.own d'))
theorem ds_parEFF {px py pz pt : Pos} {kt k2 pt2} (hc : X.calm = true) (hN : X.N.Nodup) (hi : X.N[i]? = some x) (hj : X.N[j]? = some y) (hl : X.N[l]? = some z) (hij : i ≠ j) (hil : i ≠ l) (hjl : j ≠ l)
    (hx : X.env.scope.names.lookup x = some .local) (hy : X.env.scope.names.lookup y = some .local) (hz : X.env.scope.names.lookup z = some .local) (ha : DE X kx a w) (hb : DF X kx b wb) (hd : DF X kx d wc)
    (hw : swappedStores [.Tuple [.Name x px, .Name y py, .Name z pz] kt pt] (.Tuple [a, b, d] k2 pt2) X.env = pure (some [x, y, z]))
    (hs : swapsWithSole [.Tuple [.Name x px, .Name y py, .Name z pz] kt pt] (.Tuple [a, b, d] k2 pt2) pos.line X.env = pure false := by rfl) (hs1 : starEach [a, b, d] X.env = (false, eval a X.env) :: starEach [b, d] X.env := by rfl) (hs2 : starEach [b, d] X.env = (false, eval b X.env) :: starEach [d] X.env := by rfl) (hs3 : starEach [d] X.env = (false, eval d X.env) :: starEach [] X.env := by rfl) :
    DS X kx (.Assign [.Tuple [.Name x px, .Name y py, .Name z pz] kt pt] (.Tuple [a, b, d] k2 pt2) pos) (sParEFF i j l w wb wc) :=
  ⟨fun β => PS.imp (ps_par3 hc hN hi hj hl hij hil hjl hx hy hz (pa_cons (ha.run β) (pa_cons (hb.run β) (pa_cons (pe_fr (β := β) hd) pa_nil hs3) hs2) hs1) hw hs) fun Dn σ H ⟨xk, S, ρ, N, st, en, lj, ll, hw⟩ => ⟨xk, S, ρ, _, st, hw, fun d ρ1 v H1 S1 ex1 st1 r1 q =>
    ⟨xk, S1, ρ1, _, st1, q, fun d' ρ2 p' o' H2 S2 ex2 st2 ow' nm' nO' q2 => ⟨p', o', nm', nO', xk.with nO', S2, ρ2, _, st2, q2, fun d'' ρ3 p'' o'' H3 S3 ex3 st3 ow'' nm'' nO'' q3 => by
      refine ⟨_, _, _, rfl, ?_⟩
      have l3 : ρ3.length = ρ.length := st.len_eq st3
      have e1 : H3 p' = H2 p' := (st3.frame p' o' (.inl (.inr ⟨rfl, rfl⟩))).trans (st2.frame p' o' (.inr ⟨rfl, rfl⟩)).symm
      have st4 := (st3.store (i := i) (r1.up (ex2.trans ex3))).adopt (i := l) (s := .own d'') (by rw [Ev.set_len, l3]; exact ll) nm'' ⟨ow'', nO''⟩
      have st5 := st4.adopt (i := j) (s := .own d') (by rw [Ev.set_len, Ev.set_len, l3]; exact lj) nm' ⟨ow'.up ex3 e1, nO'⟩
      rw [set_comm hjl]
      exact en.nx _ _ _ _ ((ex1.trans ex2).trans ex3) st5 q3⟩⟩⟩⟩
end
end Q
set_option Elab.async false
set_option linter.all false
set_option maxRecDepth 100000
set_option maxHeartbeats 4000000
/-! PA: tools for the plain proofs; what the small defs of the program compute. -/
namespace W
open PySem PySem.Spec PyProof.Rows L2 Q
/-! ### tools -/
def All2 {α β : Type} (R : α → β → Prop) : List α → List β → Prop
  | [], [] => True
  | a :: l, b :: m => R a b ∧ All2 R l m
  | _, _ => False
theorem All2.len {α β : Type} {R : α → β → Prop} : ∀ {l : List α} {m : List β}, All2 R l m → m.length = l.length
  | [], [], _ => rfl
  | _ :: l, _ :: m, h => by simp [All2.len h.2]
  | [], _ :: _, h => h.elim
  | _ :: _, [], h => h.elim
theorem lcY {vs : List Nat} {g : WG} {we : WE} {R : D → D → Prop} : ∀ (ds : List D) (ρ : Ev) (k : List D → Ev → Prop), (∀ d ∈ ds, ∀ kk : D → Ev → Prop, (∀ y ρ', R d y → ρ'.wipe vs = ρ → kk y ρ') → g d ρ fun ρ1 => we ρ1 kk) → (∀ ys, All2 R ds ys → k ys ρ) → lcL vs g wYes we ds ρ k
  | [], ρ, k, _, hk => hk [] trivial
  | d :: ds, ρ, k, h, hk => by
    have q := h d (List.mem_cons_self ..) (fun y ρ3 => lcL vs g wYes we ds (ρ3.wipe vs) fun ys ρ4 => k (y :: ys) ρ4) fun y ρ' hy he => by
      rw [he]
      exact lcY ds ρ _ (fun d' hd' => h d' (List.mem_cons_of_mem _ hd')) fun ys hys => hk (y :: ys) ⟨hy, hys⟩
    unfold lcL
    simpa only [wYes, if_true] using q
/-- each turn gives f d -/
theorem lcM {vs : List Nat} {g : WG} {we : WE} (f : D → D) (ds : List D) (ρ : Ev) (k : List D → Ev → Prop) (h : ∀ d ∈ ds, ∀ kk : D → Ev → Prop, (∀ ρ', ρ'.wipe vs = ρ → kk (f d) ρ') → g d ρ fun ρ1 => we ρ1 kk) (hk : k (ds.map f) ρ) : lcL vs g wYes we ds ρ k := by
  refine lcY (R := fun d y => y = f d) ds ρ k (fun d hd kk q => h d hd kk fun ρ' e => q _ ρ' rfl e) fun ys hys => ?_
  have : ∀ (l m : List D), All2 (fun d y => y = f d) l m → m = l.map f := by
    intro l
    induction l with
    | nil => intro m h; cases m with
      | nil => rfl
      | cons _ _ => exact h.elim
    | cons a l ih => intro m h; cases m with
      | nil => exact h.elim
      | cons b m => rw [h.1, ih m h.2]; rfl
  rw [this ds ys hys]
  exact hk
/-- a turn keeps f d where p d holds -/
theorem lcF {vs : List Nat} {g : WG} {wt : WT} {we : WE} (p : D → Bool) (f : D → D) : ∀ (ds : List D) (ρ : Ev) (k : List D → Ev → Prop),
    (∀ d ∈ ds, ∀ (kk : D → Ev → Prop) (kf : Ev → Prop), (p d = true → ∀ ρ', ρ'.wipe vs = ρ → kk (f d) ρ') → (p d = false → ∀ ρ', ρ'.wipe vs = ρ → kf ρ') → g d ρ fun ρ1 => wt ρ1 fun b ρ2 => if b = true then we ρ2 kk else kf ρ2) →
    k ((ds.filter p).map f) ρ → lcL vs g wt we ds ρ k
  | [], ρ, k, _, hk => hk
  | d :: ds, ρ, k, h, hk => by
    unfold lcL
    refine h d (List.mem_cons_self ..) _ _ (fun hp ρ' e => ?_) (fun hp ρ' e => ?_)
    · rw [e]
      refine lcF p f ds ρ _ (fun d' hd' => h d' (List.mem_cons_of_mem _ hd')) ?_
      rw [List.filter_cons_of_pos hp] at hk
      exact hk
    · rw [e]
      refine lcF p f ds ρ _ (fun d' hd' => h d' (List.mem_cons_of_mem _ hd')) ?_
      rw [List.filter_cons_of_neg (by rw [hp]; exact Bool.false_ne_true)] at hk
      exact hk
/-! ### classes -/
def D.isInt : D → Bool
  | .int _ => true
  | _ => false
def D.isStr : D → Bool
  | .str _ => true
  | _ => false
def D.isBl : D → Bool
  | .bl _ => true
  | _ => false
def D.isTup : D → Bool
  | .tup _ => true
  | _ => false
def D.pick (bn bb bi bs bt bl bd : Bool) : D → Bool
  | .non => bn
  | .bl _ => bb
  | .int _ => bi
  | .str _ => bs
  | .tup _ => bt
  | .lst _ => bl
  | .dK _ => bd
  | .dT _ => bd
  | .ins _ _ => false
theorem isa_of {T : String} {bn bb bi bs bt bl bd : Bool} (h : kitB "NoneType" T = some bn ∧ kitB "bool" T = some bb ∧ kitB "int" T = some bi ∧ kitB "str" T = some bs ∧ kitB "tuple" T = some bt ∧ kitB "list" T = some bl ∧ kitB "dict" T = some bd) {d : D} (hd : d.ty ≠ "") :
    d.isa T = some (D.pick bn bb bi bs bt bl bd d) := by
  obtain ⟨h1, h2, h3, h4, h5, h6, h7⟩ := h
  cases d with
  | non => exact h1
  | bl b => exact h2
  | int i => exact h3
  | str x => exact h4
  | tup x => exact h5
  | lst x => exact h6
  | dK x => exact h7
  | dT x => exact h7
  | ins c fs => exact absurd rfl hd
theorem isa_str {d : D} (h : d.ty ≠ "") : d.isa "str" = some (D.isStr d) := by
  rw [isa_of (T := "str") (bn := false) (bb := false) (bi := false) (bs := true) (bt := false) (bl := false) (bd := false) (by decide +kernel) h]; cases d <;> rfl
theorem isa_int {d : D} (h : d.ty ≠ "") : d.isa "int" = some (D.isInt d || D.isBl d) := by
  rw [isa_of (T := "int") (bn := false) (bb := true) (bi := true) (bs := false) (bt := false) (bl := false) (bd := false) (by decide +kernel) h]; cases d <;> rfl
theorem isa_bool {d : D} (h : d.ty ≠ "") : d.isa "bool" = some (D.isBl d) := by
  rw [isa_of (T := "bool") (bn := false) (bb := true) (bi := false) (bs := false) (bt := false) (bl := false) (bd := false) (by decide +kernel) h]; cases d <;> rfl
theorem isa_tuple {d : D} (h : d.ty ≠ "") : d.isa "tuple" = some (D.isTup d) := by
  rw [isa_of (T := "tuple") (bn := false) (bb := false) (bi := false) (bs := false) (bt := true) (bl := false) (bd := false) (by decide +kernel) h]; cases d <;> rfl
/-! ### signs -/
def LET : Str := "abcdefghijklmnopqrstuvwxyz"
def DIG : Str := "0123456789"
def inLet (c : Nat) : Bool := decide (c ∈ LET.cps.toList)
def inDig (c : Nat) : Bool := decide (c ∈ DIG.cps.toList)
theorem inStr1 (c : Nat) (z : Str) : inStr ⟨#[c]⟩ z = decide (c ∈ z.cps.toList) := inStr_one c z
theorem inStr2 (c : Nat) (y z : Str) : inStr ⟨#[c]⟩ (y ++ z) = (decide (c ∈ y.cps.toList) || decide (c ∈ z.cps.toList)) := by
  rw [inStr_one, show (y ++ z).cps.toList = y.cps.toList ++ z.cps.toList from TL.tl_append y z]
  simp
/-! ### contracts -/
def c_is_integer : Con := con1 fun a k kx => a.ty ≠ "" ∧ k (.bl (D.isInt a))
def nameB (z : Str) : Bool := decide (1 ≤ z.length) && decide (z.length ≤ 8) && !decide (z = "or") && (match z.cps.toList with | [] => false | c :: _ => inLet c) && z.cps.toList.all fun c => inLet c || inDig c
def nameD : D → Bool
  | .str z => nameB z
  | _ => false
def D.small : D → Prop
  | .str z => z.length ≤ sizeLine
  | _ => True
def c_is_name : Con := con1 fun a k kx => a.ty ≠ "" ∧ D.small a ∧ k (.bl (nameD a))
def digB (z : Str) : Bool := z.cps.toList.all inDig
def writtenN (z : Str) : Option Int := if 1 ≤ z.length ∧ z.length ≤ 13 ∧ digB z = true ∧ (z.cps.toList.headD 0 ≠ 48) then (if (NumText.digitsVal z.cps.toList : Int) ≤ 1000000000000 then some (NumText.digitsVal z.cps.toList : Int) else none) else none
def optI : Option Int → D
  | none => .non
  | some n => .int n
def c_written : Con := con1 fun a k kx => ∃ z, a = .str z ∧ z.length ≤ sizeLine ∧ k (optI (writtenN z))
end W
set_option Elab.async false
set_option linter.all false
set_option maxRecDepth 100000
set_option maxHeartbeats 4000000
/-! PC: what the program's defs promise (errors aside). -/
namespace W
open PySem PySem.Spec PyProof.Rows L2 Q
mutual
/-- plain data of bounded texts -/
def D.ok : D → Bool
  | .str z => decide (z.length + 2 ≤ sizeLine)
  | .tup xs => D.okL xs
  | .lst xs => D.okL xs
  | .ins _ _ => false
  | _ => true
def D.okL : List D → Bool
  | [] => true
  | x :: xs => D.ok x && D.okL xs
end
theorem ok_ty {d : D} (h : D.ok d = true) : d.ty ≠ "" := by
  cases d with
  | ins c fs => unfold D.ok at h; exact absurd h Bool.false_ne_true
  | non => show ("NoneType" : String) ≠ ""; decide
  | bl _ => show ("bool" : String) ≠ ""; decide
  | int _ => show ("int" : String) ≠ ""; decide
  | str _ => show ("str" : String) ≠ ""; decide
  | tup _ => show ("tuple" : String) ≠ ""; decide
  | lst _ => show ("list" : String) ≠ ""; decide
  | dK _ => show ("dict" : String) ≠ ""; decide
  | dT _ => show ("dict" : String) ≠ ""; decide
theorem ok_small {d : D} (h : D.ok d = true) : D.small d := by
  cases d with
  | str z => have q : z.length + 2 ≤ sizeLine := by simpa [D.ok] using h
             exact (show z.length ≤ sizeLine by omega)
  | _ => trivial
theorem okL_mem : ∀ {xs : List D} {x : D}, D.okL xs = true → x ∈ xs → D.ok x = true
  | [], _, _, h => by cases h
  | y :: ys, x, h, hx => by
    have q : (D.ok y && D.okL ys) = true := h
    rw [Bool.and_eq_true] at q
    rcases List.mem_cons.mp hx with rfl | hx
    · exact q.1
    · exact okL_mem q.2 hx
theorem okL_of : ∀ {xs : List D}, (∀ x ∈ xs, D.ok x = true) → D.okL xs = true
  | [], _ => rfl
  | y :: ys, h => by
    show (D.ok y && D.okL ys) = true
    rw [h y (List.mem_cons_self ..), okL_of fun x hx => h x (List.mem_cons_of_mem _ hx)]; rfl
/-! ### words -/
abbrev Wd := Str × Int
def wordD (w : Wd) : D := .ins "Word" [("head", .str w.1), ("shift", .int w.2)]
def ci_Word : ConI := fun ds k kx => ∃ a b, ds = [a, b] ∧ k [("head", a), ("shift", b)]
def numW (w : Wd) (z : Int) : Int := if w.1 = "number" then w.2 else (if (if w.1 = "all" then z else z / 2 + 1) + w.2 > 0 then (if w.1 = "all" then z else z / 2 + 1) + w.2 else 0)
def c_Word_number : Con := con2 fun a b k kx => ∃ w z, a = wordD w ∧ b = .int z ∧ k (.int (numW w z))
def optW : Option Wd → D
  | none => .non
  | some w => wordD w
def pWord (z : Str) : Option Wd :=
  if z = "all" ∨ z = "most" then some (z, 0)
  else if Txt.startswith z (("all" : Str) ++ "-") = true then (writtenN (cutS z (some 4) none)).map fun n => ("all", -n)
  else if Txt.startswith z (("most" : Str) ++ "-") = true then (writtenN (cutS z (some 5) none)).map fun n => ("most", -n)
  else if Txt.startswith z (("most" : Str) ++ "+") = true then (writtenN (cutS z (some 5) none)).map fun n => ("most", n)
  else (writtenN z).map fun n => ("number", n)
def c_parsed_word : Con := con1 fun a k kx => ∃ z, a = .str z ∧ z.length ≤ sizeLine ∧ k (optW (pWord z))
/-! ### options -/
abbrev Fd := List (Str × Wd)
def pDem (names : List Str) (found : Fd) (d : Str) : Option Fd :=
  match Txt.split d " " with
  | [a, b] => match pWord a with
    | none => none
    | some w => if b ∈ names ∧ b ∉ found.map (·.1) then some (found ++ [(b, w)]) else none
  | _ => none
def pDems (names : List Str) : Fd → List Str → Option Fd
  | found, [] => some found
  | found, d :: r => match pDem names found d with
    | none => none
    | some f => pDems names f r
def fill (names : List Str) (found : Fd) : List Wd := names.map fun n => (found.lookup n).getD ("number", 0)
def pOpt (names : List Str) (z : Str) : Option (List Wd) := (pDems names [] (Txt.split z ", ")).map (fill names)
def pOptD (names : List Str) : D → Option (List Wd)
  | .str z => pOpt names z
  | _ => none
def tupW (ws : List Wd) : D := .tup (ws.map wordD)
def optO : Option (List Wd) → D
  | none => .non
  | some ws => tupW ws
def namesD (names : List Str) : D := .lst (names.map D.str)
def c_parsed_option : Con := con2 fun a b k kx => D.ok a = true ∧ ∃ names, b = namesD names ∧ names.length ≤ sizeLine ∧ k (optO (pOptD names a))
def pOpts (names : List Str) : D → Option (List (List Wd))
  | .tup ds => if 1 ≤ ds.length ∧ ds.length ≤ 6 then ds.mapM (pOptD names) else none
  | _ => none
def lstW (os : List (List Wd)) : D := .lst (os.map tupW)
def optL : Option (List (List Wd)) → D
  | none => .non
  | some os => lstW os
def c_parsed_options : Con := con2 fun a b k kx => D.ok a = true ∧ ∃ names, b = namesD names ∧ names.length ≤ sizeLine ∧ k (optL (pOpts names a))
/-! ### lots -/
def intIn (lo hi : Int) : D → Bool
  | .int i => decide (lo ≤ i) && decide (i ≤ hi)
  | _ => false
def endOk (lo : D) : D → Bool
  | .non => true
  | .int i => match lo with
    | .int l => decide (l ≤ i) && decide (i ≤ 1000000000000)
    | _ => false
  | _ => false
def lotB (taken : List Str) : D → Bool
  | .tup [.str z, lo, hi] => nameB z && !decide (z ∈ taken) && intIn 1 1000000000000 lo && endOk lo hi
  | _ => false
def c_is_lot : Con := con2 fun a b k kx => D.ok a = true ∧ ∃ taken, b = namesD taken ∧ k (.bl (lotB taken a))
def lotName : D → Str
  | .tup (.str z :: _) => z
  | _ => Str.empty
def lotsL (taken : List Str) : List D → Bool
  | [] => true
  | d :: r => lotB taken d && lotsL (taken ++ [lotName d]) r
def c_check_lots : Con := con1 fun a k kx => ∃ ds, a = .tup ds ∧ D.ok a = true ∧ ds ≠ [] ∧ ds.length ≤ 5 ∧ lotsL [] ds = true ∧ k .non
/-! ### rules, lies -/
abbrev Rl := List (Str × List (List Wd))
def pRule (names : List Str) (found : Rl) : D → Option Rl
  | .tup [.str z, o] => if nameB z = true then match pOpts names o with
      | none => none
      | some os => if z ∉ found.map (·.1) then some (found ++ [(z, os)]) else none
    else none
  | _ => none
def pRulesL (names : List Str) : Rl → List D → Option Rl
  | found, [] => some found
  | found, d :: r => match pRule names found d with
    | none => none
    | some f => pRulesL names f r
def rulesD (rs : Rl) : D := .dK (rs.map fun r => (Sum.inr r.1, lstW r.2))
def c_check_rules : Con := con2 fun a b k kx => ∃ names ds rs, a = namesD names ∧ names.length ≤ sizeLine ∧ b = .tup ds ∧ D.ok b = true ∧ ds ≠ [] ∧ ds.length ≤ 6 ∧ pRulesL names [] ds = some rs ∧ k (rulesD rs)
def c_check_lies : Con := con2 fun a b k kx => ∃ names ds os, a = namesD names ∧ names.length ≤ sizeLine ∧ b = .tup ds ∧ D.ok b = true ∧ ds.length ≤ 6 ∧ ds.mapM (pOptD names) = some os ∧ k (lstW os)
/-! ### plans -/
def planF (lots rules lies : D) (names : List Str) (rs : Rl) (ls : List (List Wd)) : List (Str × D) :=
  [("lot_names", namesD names), ("options", rulesD rs), ("lie_words", lstW ls), ("held_lots", lots), ("held_rules", rules), ("held_lies", lies)]
def ci_Plan : ConI := fun ds k kx => ∃ lots rules lies rs ls, ds = [.tup lots, .tup rules, .tup lies] ∧ D.okL lots = true ∧ D.okL rules = true ∧ D.okL lies = true ∧ lots ≠ [] ∧ lots.length ≤ 5 ∧ lotsL [] lots = true ∧
  rules ≠ [] ∧ rules.length ≤ 6 ∧ pRulesL (lots.map lotName) [] rules = some rs ∧ lies.length ≤ 6 ∧ lies.mapM (pOptD (lots.map lotName)) = some ls ∧ k (planF (.tup lots) (.tup rules) (.tup lies) (lots.map lotName) rs ls)
/-- a plan with these lots and rules -/
def PlanD (d : D) (lots : List D) (rs : Rl) : Prop := ∃ rules lies names ls, d = .ins "Plan" (planF (.tup lots) rules lies names rs ls)
def c_Plan_lots : Con := con1 fun a k kx => ∃ lots rs, PlanD a lots rs ∧ k (.tup lots)
def tupI (ns : List Int) : D := .tup (ns.map D.int)
def numbersW (ws : List Wd) (zs : List Int) : List Int := (ws.zip zs).map fun p => numW p.1 p.2
def c_numbers_of : Con := con2 fun a b k kx => ∃ ws zs, a = tupW ws ∧ b = tupI zs ∧ ws.length ≤ sizeLine ∧ k (tupI (numbersW ws zs))
def aboveB (ns os : List Int) : Bool := (ns.zip os).any fun p => decide (p.2 < p.1)
def c_is_above : Con := con2 fun a b k kx => ∃ ns os, a = tupI ns ∧ b = tupI os ∧ ns.length ≤ sizeLine ∧ k (.bl (aboveB ns os))
def quorB (os : List (List Wd)) (zs cs : List Int) : Bool := os.any fun ws => !aboveB (numbersW ws zs) cs
def c_has_quorum : Con := con4 fun p r s c k kx => ∃ lots rs z os zs cs, PlanD p lots rs ∧ r = .str z ∧ rs.lookup z = some os ∧ s = tupI zs ∧ c = tupI cs ∧ os.length ≤ sizeLine ∧ (∀ ws ∈ os, ws.length ≤ sizeLine) ∧ k (.bl (quorB os zs cs))
def c_is_rule : Con := con2 fun p v k kx => ∃ lots rs, PlanD p lots rs ∧ D.ok v = true ∧ k (.bl (match v with | .str z => (rs.lookup z).isSome | _ => false))
def c_check_rule : Con := con2 fun p v k kx => ∃ lots rs z, PlanD p lots rs ∧ v = .str z ∧ D.ok v = true ∧ (rs.lookup z).isSome = true ∧ k .non
def sizeB (lo : Int) (hi : Option Int) : D → Bool
  | .int i => decide (lo ≤ i) && (match hi with | none => true | some h => decide (i ≤ h))
  | _ => false
def c_is_size : Con := con2 fun l v k kx => ∃ z lo hi, l = .tup [.str z, .int lo, optI hi] ∧ D.ok v = true ∧ k (.bl (sizeB lo hi v))
abbrev Lt := Str × Int × Option Int
def lotD (l : Lt) : D := .tup [.str l.1, .int l.2.1, optI l.2.2]
def sizesB (ls : List Lt) : D → Bool
  | .tup vs => decide (vs.length = ls.length) && ((ls.zip vs).all fun p => sizeB p.1.2.1 p.1.2.2 p.2)
  | _ => false
def c_are_sizes : Con := con2 fun p v k kx => ∃ ls rs, PlanD p (ls.map lotD) rs ∧ D.ok v = true ∧ ls.length ≤ sizeLine ∧ k (.bl (sizesB ls v))
def c_check_sizes : Con := con2 fun p v k kx => ∃ ls rs, PlanD p (ls.map lotD) rs ∧ D.ok v = true ∧ ls.length ≤ sizeLine ∧ sizesB ls v = true ∧ k .non
def countsB (zs : List Int) : D → Bool
  | .tup vs => decide (vs.length = zs.length) && ((vs.zip zs).all fun p => intIn 0 p.2 p.1)
  | _ => false
def c_are_counts : Con := con2 fun s v k kx => ∃ zs, s = tupI zs ∧ D.ok v = true ∧ zs.length ≤ sizeLine ∧ k (.bl (countsB zs v))
def c_check_counts : Con := con2 fun s v k kx => ∃ zs, s = tupI zs ∧ D.ok v = true ∧ zs.length ≤ sizeLine ∧ countsB zs v = true ∧ k .non
def c_Plan_is_quorum : Con := con4 fun p r s c k kx => ∃ ls rs z os zs cs, PlanD p (ls.map lotD) rs ∧ r = .str z ∧ D.ok r = true ∧ rs.lookup z = some os ∧ s = tupI zs ∧ c = tupI cs ∧ ls.length ≤ sizeLine ∧ zs.length ≤ sizeLine ∧ os.length ≤ sizeLine ∧ (∀ ws ∈ os, ws.length ≤ sizeLine) ∧
  sizesB ls s = true ∧ countsB zs c = true ∧ k (.bl (quorB os zs cs))
end W
set_option Elab.async false
set_option linter.all false
set_option maxRecDepth 100000
set_option maxHeartbeats 4000000
/-! PL: what the law's own defs promise (k18). -/
namespace W
open PySem PySem.Spec PyProof.Rows L2 Q
def lstI (ns : List Int) : D := .lst (ns.map D.int)
def c__law_purse : Con := con2 fun a b k kx => ∃ (ns : List Int) (i : Nat), a = lstI ns ∧ b = .int i ∧ i ≤ 100 ∧ ∀ x y z : Int, 0 ≤ x → 0 ≤ y → y < 2147483563 → k (.lst [.int x, .int y, .int z])
def c__law_draw : Con := con1 fun a k kx => ∃ m : Int, a = .int m ∧ 0 < m ∧ m < 1073741824 ∧ ∀ r : Int, 0 ≤ r → r < m → k (.int r)
def c__law_pick : Con := con1 fun a k kx => ∃ ds, a = .lst ds ∧ ds ≠ [] ∧ ds.length < 1073741824 ∧ ∀ d ∈ ds, k d
/-- one to eight letters and digits, a letter ahead -/
def labB (z : Str) : Bool := decide (1 ≤ z.length) && decide (z.length ≤ 8) && (match z.cps.toList with | [] => false | c :: _ => inLet c) && z.cps.toList.all fun c => inLet c || inDig c
def c__law_label : Con := con0 fun k kx => ∀ z, labB z = true → k (.str z)
def c__law_labels : Con := con1 fun a k kx => ∃ m : Nat, a = .int m ∧ m ≤ 6 ∧ ∀ zs : List Str, zs.length = m → (∀ z ∈ zs, nameB z = true) → zs.Nodup → k (namesD zs)
def c__law_count : Con := con0 fun k kx => ∀ n : Int, 1 ≤ n → n ≤ 1000000000000 → k (.int n)
def numS (n : Int) : Str := Str.ofString (toString n)
def wtext (w : Wd) : Str := if w.1 = "number" then numS w.2 else if w.2 = 0 then w.1 else if 0 < w.2 then (w.1 ++ ("+" : Str)) ++ numS w.2 else (w.1 ++ ("-" : Str)) ++ numS (-w.2)
def wOk (w : Wd) : Prop := (w.1 = "number" ∧ 1 ≤ w.2 ∧ w.2 ≤ 1000000000000) ∨ (w.1 = "all" ∧ -1000000000000 ≤ w.2 ∧ w.2 ≤ 0) ∨ (w.1 = "most" ∧ -1000000000000 ≤ w.2 ∧ w.2 ≤ 1000000000000)
def c__law_word : Con := con0 fun k kx => ∀ w, wOk w → k (.str (wtext w))
abbrev Row := List (Nat × Wd)
def itemD (p : Nat × Wd) : D := .tup [.int p.1, .str (wtext p.2)]
def rowD (r : Row) : D := .lst (r.map itemD)
def rowOk (m : Nat) (r : Row) : Prop := r ≠ [] ∧ r.length ≤ m ∧ (∀ p ∈ r, p.1 < m ∧ wOk p.2) ∧ (r.map (·.1)).Nodup
def c__law_option : Con := con2 fun a b k kx => ∃ m t : Nat, a = .int m ∧ b = .int t ∧ 1 ≤ m ∧ m ≤ 6 ∧ 1 ≤ t ∧ t ≤ 6 ∧ ∀ r, rowOk m r → k (rowD r)
def c__law_shift : Con := con1 fun a k kx => ∃ w, a = .str (wtext w) ∧ wOk w ∧ k (.int w.2.natAbs)
def c__law_number : Con := con2 fun a b k kx => ∃ w z, a = .str (wtext w) ∧ wOk w ∧ b = .int z ∧ 0 ≤ z ∧ k (.int (numW w z))
def dueB (rows : List Row) (zs cs : List Int) : Bool := rows.any fun r => r.all fun p => decide (numW p.2 (zs.getD p.1 0) ≤ cs.getD p.1 0)
def c__law_due : Con := con3 fun a b c k kx => ∃ rows zs cs, a = .lst (rows.map rowD) ∧ b = tupI zs ∧ c = lstI cs ∧ zs.length = cs.length ∧ zs.length ≤ 6 ∧ (∀ r ∈ rows, rowOk zs.length r) ∧ (∀ z ∈ zs, 0 ≤ z) ∧ k (.bl (dueB rows zs cs))
def c__law_size : Con := con2 fun a b k kx => ∃ (l : Str) (n : Int), a = .tup [.str l, .int 1, .non] ∧ b = .int n ∧ ∀ r : Int, 1 ≤ r → k (.int r)
def c__law_sizes : Con := con2 fun a b k kx => ∃ (ls : List Str) (r : Row), a = .tup (ls.map fun l : Str => .tup [.str l, .int 1, .non]) ∧ b = rowD r ∧ ls.length ≤ 6 ∧ rowOk ls.length r ∧ ∀ zs : List Int, zs.length = ls.length → (∀ z ∈ zs, 1 ≤ z) → k (tupI zs)
def c__law_part : Con := con1 fun a k kx => ∃ m : Int, a = .int m ∧ 0 ≤ m ∧ ∀ r : Int, 0 ≤ r → r ≤ m → k (.int r)
/-- one lot's servers behind the change -/
def Mv (b : Bool) (z c z' c' : Int) : Prop := 1 ≤ z' ∧ 0 ≤ c' ∧ c' ≤ z' ∧ if b = true then c ≤ c' ∧ z' - c' ≤ z - c else c' ≤ c ∧ z - c ≤ z' - c'
def Moved (b : Bool) : List Int → List Int → List Int → List Int → Prop
  | [], [], [], [] => True
  | z :: zs, c :: cs, z' :: zs', c' :: cs' => Mv b z c z' c' ∧ Moved b zs cs zs' cs'
  | _, _, _, _ => False
def c__law_moved : Con := con3 fun a b d k kx => ∃ zs cs bb, a = tupI zs ∧ b = lstI cs ∧ d = .bl bb ∧ zs.length = cs.length ∧ zs.length ≤ 6 ∧ (∀ p ∈ zs.zip cs, 1 ≤ p.1 ∧ 0 ≤ p.2 ∧ p.2 ≤ p.1) ∧ ∀ zs' cs', Moved bb zs cs zs' cs' → k (.lst [tupI zs', tupI cs'])
def c__law_right : Con := con0 fun k kx => k (.bl true)
def c_law : Con := con1 fun a k kx => ∃ ns : List Int, a = lstI ns ∧ ns.length ≤ 63 ∧ k (.bl true)
end W
set_option Elab.async false
set_option linter.all false
set_option maxRecDepth 100000
set_option maxHeartbeats 4000000
namespace W
open PySem PySem.Spec PyProof.Rows L2 Q
/-- is_integer: slots value -/
def w_is_integer (kx : XC) : WS :=
    (sRet (wAndV (wIsi "int" (wVar 0)) (wNotV (wIsi "bool" (wVar 0)))))
/-- is_name: slots value sign -/
def w_is_name (kx : XC) : WS :=
    (sSeq (sIf (wOrT (wNot (wTruth (wIsi "str" (wVar 0)))) (wOrT (wNot (wTru (wChain dLe dLe (wC (.int 1)) (wB rLenD (wCons (wVar 0) wNil)) (wC (.int 8))))) (wTru (wOp dEq (wVar 0) (wC (.str "or")))))) (sRet (wC (.bl false))) sNext)
    (sRet (wAndV (wOp dIn (wOp dIx (wVar 0) (wC (.int 0))) (wC (.str "abcdefghijklmnopqrstuvwxyz"))) (wB rAllD (wCons (wLc [1] (iS (wVar 0)) (gN 1) wYes (wOp dIn (wVar 1) (wOp dAdd (wC (.str "abcdefghijklmnopqrstuvwxyz")) (wC (.str "0123456789"))))) wNil)))))
/-- Word___init__: slots self head shift -/
def w_Word___init__ (kx : XC) : WS :=
    (sSeq (sFldI "Word" 0 "head" (wVar 1))
    (sFldI "Word" 0 "shift" (wVar 2)))
/-- Word_number: slots self size base -/
def w_Word_number (kx : XC) : WS :=
    (sSeq (sIf (wTru (wOp dEq (wFldC "Word" "head" (wVar 0)) (wC (.str "number")))) (sRet (wFldC "Word" "shift" (wVar 0))) sNext)
    (sSeq (sSet (wIfE (wTru (wOp dEq (wFldC "Word" "head" (wVar 0)) (wC (.str "all")))) (wVar 1) (wOp dAdd (wOp dFdiv (wVar 1) (wC (.int 2))) (wC (.int 1)))) (gN 2))
    (sRet (wB rMax2 (wCons (wC (.int 0)) (wCons (wOp dAdd (wVar 2) (wFldC "Word" "shift" (wVar 0))) wNil))))))
/-- written: slots text sign -/
def w_written (kx : XC) : WS :=
    (sSeq (sIf (wOrT (wNot (wTru (wChain dLe dLe (wC (.int 1)) (wB rLenD (wCons (wVar 0) wNil)) (wC (.int 13))))) (wOrT (wNot (wTruth (wB rAllD (wCons (wLc [1] (iS (wVar 0)) (gN 1) wYes (wOp dIn (wVar 1) (wC (.str "0123456789")))) wNil)))) (wTru (wOp dEq (wOp dIx (wVar 0) (wC (.int 0))) (wC (.str "0")))))) (sRet (wC .non)) sNext)
    (sRet (wIfE (wTru (wOp dLe (wB rIntOf (wCons (wVar 0) wNil)) (wC (.int 1000000000000)))) (wB rIntOf (wCons (wVar 0) wNil)) (wC .non))))
/-- parsed_word: slots text head sign shift number -/
def w_parsed_word (kx : XC) : WS :=
    (sSeq (sIf (wTru (wOp dIn (wVar 0) (wTup (wCons (wC (.str "all")) (wCons (wC (.str "most")) wNil))))) (sRet (wMake "Word" ci_Word kx (wCons (wVar 0) (wCons (wC (.int 0)) wNil)))) sNext)
    (sSeq (sFor (iT (wTup (wCons (wTup (wCons (wC (.str "all")) (wCons (wC (.str "-")) wNil))) (wCons (wTup (wCons (wC (.str "most")) (wCons (wC (.str "-")) wNil))) (wCons (wTup (wCons (wC (.str "most")) (wCons (wC (.str "+")) wNil))) wNil))))) (gTupW 2 (gCons' (gN 1) (gCons' (gN 2) gNil'))) (sIf (wTruth (wM "str" mStarts (wVar 0) (wCons (wOp dAdd (wVar 1) (wVar 2)) wNil))) (sSeq (sSet (wCall c_written kx (wCons (wSl (wVar 0) (wPart (wOp dAdd (wB rLenD (wCons (wVar 1) wNil)) (wC (.int 1)))) wNoPart) wNil)) (gN 3))
    (sRet (wIfE (wTru (wOp dIs (wVar 3) (wC .non))) (wC .non) (wMake "Word" ci_Word kx (wCons (wVar 1) (wCons (wIfE (wTru (wOp dEq (wVar 2) (wC (.str "+")))) (wVar 3) (wUn dNeg (wVar 3))) wNil)))))) sNext))
    (sSeq (sSet (wCall c_written kx (wCons (wVar 0) wNil)) (gN 4))
    (sRet (wIfE (wTru (wOp dIs (wVar 4) (wC .non))) (wC .non) (wMake "Word" ci_Word kx (wCons (wC (.str "number")) (wCons (wVar 4) wNil))))))))
/-- parsed_option: slots text names found demand parts word name -/
def w_parsed_option (kx : XC) : WS :=
    (sSeq (sIf (wNot (wTruth (wIsi "str" (wVar 0)))) (sRet (wC .non)) sNext)
    (sSeq (sOwn wDct 2)
    (sSeq (sFor (iL (wM "str" mSplit (wVar 0) (wCons (wC (.str ", ")) wNil))) (gN 3) (sSeq (sSet (wM "str" mSplit (wVar 3) (wCons (wC (.str " ")) wNil)) (gN 4))
    (sSeq (sSet (wCall c_parsed_word kx (wCons (wOp dIx (wVar 4) (wC (.int 0))) wNil)) (gN 5))
    (sSeq (sIf (wOrT (wTru (wOp dNe (wB rLenD (wCons (wVar 4) wNil)) (wC (.int 2)))) (wOrT (wTru (wOp dIs (wVar 5) (wC .non))) (wOrT (wTru (wOp dNotIn (wOp dIx (wVar 4) (wC (.int 1))) (wVar 1))) (wBorT (wTru (wOp dIn (wOp dIx (wVar 4) (wC (.int 1))) (wVar 2))))))) (sRet (wC .non)) sNext)
    (sDPutD 2 (wVar 5) (wOp dIx (wVar 4) (wC (.int 1))))))))
    (sRet (wB rTupOf (wCons (wLc [6] (iL (wVar 1)) (gN 6) wYes (wDGet2 (wVar 2) (wVar 6) (wMake "Word" ci_Word no (wCons (wC (.str "number")) (wCons (wC (.int 0)) wNil))))) wNil))))))
/-- is_lot: slots value taken -/
def w_is_lot (kx : XC) : WS :=
    (sSeq (sIf (wOrT (wNot (wTruth (wIsi "tuple" (wVar 0)))) (wOrT (wTru (wOp dNe (wB rLenD (wCons (wVar 0) wNil)) (wC (.int 3)))) (wOrT (wNot (wTruth (wCall c_is_name kx (wCons (wOp dIx (wVar 0) (wC (.int 0))) wNil)))) (wTru (wOp dIn (wOp dIx (wVar 0) (wC (.int 0))) (wVar 1)))))) (sRet (wC (.bl false))) sNext)
    (sSeq (sIf (wOrT (wNot (wTruth (wCall c_is_integer kx (wCons (wOp dIx (wVar 0) (wC (.int 1))) wNil)))) (wNot (wTru (wChain dLe dLe (wC (.int 1)) (wOp dIx (wVar 0) (wC (.int 1))) (wC (.int 1000000000000)))))) (sRet (wC (.bl false))) sNext)
    (sRet (wOrV (wOp dIs (wOp dIx (wVar 0) (wC (.int 2))) (wC .non)) (wAndV (wCall c_is_integer kx (wCons (wOp dIx (wVar 0) (wC (.int 2))) wNil)) (wChain dLe dLe (wOp dIx (wVar 0) (wC (.int 1))) (wOp dIx (wVar 0) (wC (.int 2))) (wC (.int 1000000000000))))))))
/-- check_lots: slots value taken index lot -/
def w_check_lots (kx : XC) : WS :=
    (sSeq (sIf (wOrT (wNot (wTruth (wIsi "tuple" (wVar 0)))) (wTru (wOp dEq (wB rLenD (wCons (wVar 0) wNil)) (wC (.int 0))))) sDead sNext)
    (sSeq (sOwn (wLst wNil) 1)
    (sFor (iEn (wCons (wVar 0) wNil)) (gTupW 2 (gCons' (gN 2) (gCons' (gN 3) gNil'))) (sSeq (sIf (wOrT (wTru (wOp dEq (wVar 2) (wC (.int 5)))) (wNot (wTruth (wBor (wCall c_is_lot kx (wCons (wVar 3) (wCons (wVar 1) wNil))))))) sDead sNext)
    (sExpr (wAppend 1 (wOp dIx (wVar 3) (wC (.int 0)))))))))
/-- parsed_options: slots value names found text -/
def w_parsed_options (kx : XC) : WS :=
    (sSeq (sIf (wOrT (wNot (wTruth (wIsi "tuple" (wVar 0)))) (wNot (wTru (wChain dLe dLe (wC (.int 1)) (wB rLenD (wCons (wVar 0) wNil)) (wC (.int 6)))))) (sRet (wC .non)) sNext)
    (sSeq (sSet (wLc [3] (iT (wVar 0)) (gN 3) wYes (wCall c_parsed_option no (wCons (wVar 3) (wCons (wVar 1) wNil)))) (gN 2))
    (sRet (wIfE (wTru (wOp dIn (wC .non) (wVar 2))) (wC .non) (wVar 2)))))
/-- check_rules: slots names value found index rule options -/
def w_check_rules (kx : XC) : WS :=
    (sSeq (sIf (wOrT (wNot (wTruth (wIsi "tuple" (wVar 1)))) (wTru (wOp dEq (wB rLenD (wCons (wVar 1) wNil)) (wC (.int 0))))) sDead sNext)
    (sSeq (sOwn wDct 2)
    (sSeq (sFor (iEn (wCons (wVar 1) wNil)) (gTupW 2 (gCons' (gN 3) (gCons' (gN 4) gNil'))) (sSeq (sIf (wOrT (wTru (wOp dEq (wVar 3) (wC (.int 6)))) (wOrT (wNot (wTruth (wIsi "tuple" (wVar 4)))) (wOrT (wTru (wOp dNe (wB rLenD (wCons (wVar 4) wNil)) (wC (.int 2)))) (wNot (wTruth (wCall c_is_name kx (wCons (wOp dIx (wVar 4) (wC (.int 0))) wNil))))))) sDead sNext)
    (sSeq (sSet (wCall c_parsed_options kx (wCons (wOp dIx (wVar 4) (wC (.int 1))) (wCons (wVar 0) wNil))) (gN 5))
    (sSeq (sIf (wOrT (wTru (wOp dIs (wVar 5) (wC .non))) (wBorT (wTru (wOp dIn (wOp dIx (wVar 4) (wC (.int 0))) (wVar 2))))) sDead sNext)
    (sDPutD 2 (wVar 5) (wOp dIx (wVar 4) (wC (.int 0))))))))
    (sRet (wVar 2)))))
/-- check_lies: slots names value found index text option -/
def w_check_lies (kx : XC) : WS :=
    (sSeq (sIf (wNot (wTruth (wIsi "tuple" (wVar 1)))) sDead sNext)
    (sSeq (sOwn (wLst wNil) 2)
    (sSeq (sFor (iEn (wCons (wVar 1) wNil)) (gTupW 2 (gCons' (gN 3) (gCons' (gN 4) gNil'))) (sSeq (sSet (wIfE (wTru (wOp dLt (wVar 3) (wC (.int 6)))) (wCall c_parsed_option kx (wCons (wVar 4) (wCons (wVar 0) wNil))) (wC .non)) (gN 5))
    (sSeq (sIf (wTru (wOp dIs (wVar 5) (wC .non))) sDead sNext)
    (sExpr (wAppend 2 (wVar 5))))))
    (sRet (wVar 2)))))
/-- Plan___init__: slots self lots rules lies lot -/
def w_Plan___init__ (kx : XC) : WS :=
    (sSeq (sExpr (wCall c_check_lots kx (wCons (wVar 1) wNil)))
    (sSeq (sFldI "Plan" 0 "lot_names" (wLc [4] (iT (wVar 1)) (gN 4) wYes (wOp dIx (wVar 4) (wC (.int 0)))))
    (sSeq (sFldI "Plan" 0 "options" (wCall c_check_rules kx (wCons (wFldS "Plan" 0 "lot_names") (wCons (wVar 2) wNil))))
    (sSeq (sFldI "Plan" 0 "lie_words" (wCall c_check_lies kx (wCons (wFldS "Plan" 0 "lot_names") (wCons (wVar 3) wNil))))
    (sSeq (sFldI "Plan" 0 "held_lots" (wVar 1))
    (sSeq (sFldI "Plan" 0 "held_rules" (wVar 2))
    (sFldI "Plan" 0 "held_lies" (wVar 3))))))))
/-- Plan_lots: slots self -/
def w_Plan_lots (kx : XC) : WS :=
    (sRet (wFldC "Plan" "held_lots" (wVar 0)))
/-- numbers_of: slots option sizes word size -/
def w_numbers_of (kx : XC) : WS :=
    (sRet (wB rTupOf (wCons (wLc [2, 3] (iZp (wCons (wVar 0) (wCons (wVar 1) wNil))) (gTupW 2 (gCons' (gN 2) (gCons' (gN 3) gNil'))) wYes (wMeth "Word" "number" c_Word_number no (wVar 2) (wCons (wVar 3) wNil))) wNil)))
/-- is_above: slots numbers others number other -/
def w_is_above (kx : XC) : WS :=
    (sRet (wB rAnyD (wCons (wLc [2, 3] (iZp (wCons (wVar 0) (wCons (wVar 1) wNil))) (gTupW 2 (gCons' (gN 2) (gCons' (gN 3) gNil'))) wYes (wOp dGt (wVar 2) (wVar 3))) wNil)))
/-- has_quorum: slots plan rule sizes counts option -/
def w_has_quorum (kx : XC) : WS :=
    (sRet (wB rAnyD (wCons (wLc [4] (iL (wOp dGet (wFldC "Plan" "options" (wVar 0)) (wVar 1))) (gN 4) wYes (wNotV (wCall c_is_above no (wCons (wCall c_numbers_of no (wCons (wVar 4) (wCons (wVar 2) wNil))) (wCons (wVar 3) wNil))))) wNil)))
/-- is_rule: slots plan value -/
def w_is_rule (kx : XC) : WS :=
    (sRet (wAndV (wIsi "str" (wVar 1)) (wOp dIn (wVar 1) (wFldC "Plan" "options" (wVar 0)))))
/-- check_rule: slots plan value -/
def w_check_rule (kx : XC) : WS :=
    (sIf (wNot (wTruth (wCall c_is_rule kx (wCons (wVar 0) (wCons (wVar 1) wNil))))) sDead sNext)
/-- is_size: slots lot value -/
def w_is_size (kx : XC) : WS :=
    (sRet (wAndV (wCall c_is_integer kx (wCons (wVar 1) wNil)) (wAndV (wOp dLe (wOp dIx (wVar 0) (wC (.int 1))) (wVar 1)) (wOrV (wOp dIs (wOp dIx (wVar 0) (wC (.int 2))) (wC .non)) (wOp dLe (wVar 1) (wOp dIx (wVar 0) (wC (.int 2))))))))
/-- are_sizes: slots plan value lot size -/
def w_are_sizes (kx : XC) : WS :=
    (sSeq (sIf (wOrT (wNot (wTruth (wIsi "tuple" (wVar 1)))) (wTru (wOp dNe (wB rLenD (wCons (wVar 1) wNil)) (wB rLenD (wCons (wProp "Plan" c_Plan_lots (wVar 0)) wNil))))) (sRet (wC (.bl false))) sNext)
    (sRet (wB rAllD (wCons (wLc [2, 3] (iZp (wCons (wProp "Plan" c_Plan_lots (wVar 0)) (wCons (wVar 1) wNil))) (gTupW 2 (gCons' (gN 2) (gCons' (gN 3) gNil'))) wYes (wCall c_is_size no (wCons (wVar 2) (wCons (wVar 3) wNil)))) wNil))))
/-- check_sizes: slots plan value -/
def w_check_sizes (kx : XC) : WS :=
    (sIf (wNot (wTruth (wCall c_are_sizes kx (wCons (wVar 0) (wCons (wVar 1) wNil))))) sDead sNext)
/-- are_counts: slots sizes value count size -/
def w_are_counts (kx : XC) : WS :=
    (sSeq (sIf (wOrT (wNot (wTruth (wIsi "tuple" (wVar 1)))) (wTru (wOp dNe (wB rLenD (wCons (wVar 1) wNil)) (wB rLenD (wCons (wVar 0) wNil))))) (sRet (wC (.bl false))) sNext)
    (sRet (wB rAllD (wCons (wLc [2, 3] (iZp (wCons (wVar 1) (wCons (wVar 0) wNil))) (gTupW 2 (gCons' (gN 2) (gCons' (gN 3) gNil'))) wYes (wAndV (wCall c_is_integer no (wCons (wVar 2) wNil)) (wChain dLe dLe (wC (.int 0)) (wVar 2) (wVar 3)))) wNil))))
/-- check_counts: slots sizes value -/
def w_check_counts (kx : XC) : WS :=
    (sIf (wNot (wTruth (wCall c_are_counts kx (wCons (wVar 0) (wCons (wVar 1) wNil))))) sDead sNext)
/-- Plan_is_quorum: slots self rule sizes counts -/
def w_Plan_is_quorum (kx : XC) : WS :=
    (sSeq (sExpr (wCall c_check_rule kx (wCons (wVar 0) (wCons (wVar 1) wNil))))
    (sSeq (sExpr (wCall c_check_sizes kx (wCons (wVar 0) (wCons (wVar 2) wNil))))
    (sSeq (sExpr (wCall c_check_counts kx (wCons (wVar 2) (wCons (wVar 3) wNil))))
    (sRet (wCall c_has_quorum kx (wCons (wVar 0) (wCons (wVar 1) (wCons (wVar 2) (wCons (wVar 3) wNil)))))))))
/-- _law_purse: slots _law_script _law_k _law_cell _law_great _law_seed -/
def w__law_purse : WS :=
    (sSeq (sIf (wTru (wOp dLt (wVar 1) (wB rLenD (wCons (wVar 0) wNil)))) (sSeq (sSet (wOp dIx (wVar 0) (wVar 1)) (gN 2))
    (sSeq (sSet (wIfE (wOrT (wTru (wOp dLt (wVar 2) (wC (.int 0)))) (wTru (wOp dGe (wVar 2) (wOp dPow (wC (.int 10)) (wC (.int 18)))))) (wB rAbs (wCons (wVar 2) wNil)) (wC (.int 0))) (gN 3))
    (sRetF (wLst (wCons (wVar 3) (wCons (wOp dMod (wB rIntOf (wCons (wOp dAdd (wOp dAdd (wOp dMul (wVar 2) (wC (.int 40693))) (wOp dMul (wC (.int 92821)) (wVar 1))) (wC (.int 5))) wNil)) (wC (.int 2147483563))) (wCons (wC (.int 0)) wNil))))))) sNext)
    (sSeq (sSet (wOp dAdd (wOp dMul (wC (.int 74093)) (wVar 1)) (wC (.int 613))) (gN 4))
    (sSeq (sFor (iL (wSl (wVar 0) wNoPart (wPart (wC (.int 3))))) (gN 2) (sSet (wOp dMod (wB rIntOf (wCons (wOp dAdd (wOp dMul (wVar 4) (wC (.int 52361))) (wVar 2)) wNil)) (wC (.int 2147483399))) (gN 4)))
    (sRetF (wLst (wCons (wC (.int 0)) (wCons (wVar 4) (wCons (wC (.int 0)) wNil))))))))
/-- _law_draw: slots _law_purse_here _law_size_here _law_held _law_mixed _law_digit -/
def w__law_draw : WS :=
    (sSeq (sSet (wOp dAdd (wPix 0 2) (wC (.int 1))) (gPix 0 2))
    (sSeq (sSet (wB rIntOf (wCons (wPix 0 1) wNil)) (gN 2))
    (sSeq (sSet (wOp dMul (wVar 2) (wOp dAdd (wOp dMod (wB rIntOf (wCons (wVar 2) wNil)) (wC (.int 30013))) (wC (.int 20021)))) (gN 3))
    (sSeq (sSet (wOp dMod (wB rIntOf (wCons (wOp dAdd (wOp dAdd (wVar 3) (wOp dMul (wC (.int 65539)) (wPix 0 2))) (wC (.int 37))) wNil)) (wC (.int 2147483563))) (gPix 0 1))
    (sSeq (sIf (wTru (wOp dGt (wPix 0 0) (wC (.int 0)))) (sSeq (sSet (wB rDivmod (wCons (wPix 0 0) (wCons (wVar 1) wNil))) (gTupW 2 (gCons' (gPix 0 0) (gCons' (gN 4) gNil'))))
    (sRet (wVar 4))) sNext)
    (sRet (wOp dMod (wB rIntOf (wCons (wOp dFdiv (wPix 0 1) (wC (.int 83))) wNil)) (wVar 1))))))))
/-- _law_pick: slots _law_purse_here _law_menu -/
def w__law_pick : WS :=
    (sRet (wOp dIx (wVar 1) (wCallP 0 c__law_draw (wCons (wB rLenD (wCons (wVar 1) wNil)) wNil))))
/-- _law_label: slots _law_purse_here _law_letters _law_found _law_k -/
def w__law_label : WS :=
    (sSeq (sIf (wTru (wOp dEq (wCallP 0 c__law_draw (wCons (wC (.int 4)) wNil)) (wC (.int 0)))) (sRet (wCallP 0 c__law_pick (wCons (wLst (wCons (wC (.str "lot")) (wCons (wC (.str "rule")) (wCons (wC (.str "lies")) (wCons (wC (.str "all")) (wCons (wC (.str "most")) (wCons (wC (.str "o")) (wCons (wC (.str "r")) (wCons (wC (.str "orr")) (wCons (wC (.str "a")) (wCons (wC (.str "most1")) wNil))))))))))) wNil))) sNext)
    (sSeq (sSet (wC (.str "abcdefghijklmnopqrstuvwxyz")) (gN 1))
    (sSeq (sSet (wOp dIx (wVar 1) (wCallP 0 c__law_draw (wCons (wC (.int 26)) wNil))) (gN 2))
    (sSeq (sFor (iR1 (wCons (wCallP 0 c__law_pick (wCons (wLst (wCons (wC (.int 0)) (wCons (wC (.int 0)) (wCons (wC (.int 1)) (wCons (wC (.int 1)) (wCons (wC (.int 2)) (wCons (wC (.int 3)) (wCons (wC (.int 4)) (wCons (wC (.int 5)) (wCons (wC (.int 6)) (wCons (wC (.int 7)) wNil))))))))))) wNil)) wNil)) (gN 3) (sSet (wOp dAdd (wVar 2) (wOp dIx (wOp dAdd (wVar 1) (wC (.str "0123456789"))) (wCallP 0 c__law_draw (wCons (wC (.int 36)) wNil)))) (gN 2)))
    (sRet (wVar 2))))))
/-- _law_labels: slots _law_purse_here _law_many _law_found _law_k _law_label_here _law_spare _law_j _law_each -/
def w__law_labels : WS :=
    (sSeq (sOwn (wLst wNil) 2)
    (sSeq (sFor (iR1 (wCons (wVar 1) wNil)) (gN 3) (sSeq (sSet (wCallP 0 c__law_label wNil) (gN 4))
    (sSeq (sIf (wAndT (wTru (wOp dGt (wVar 3) (wC (.int 0)))) (wTru (wOp dEq (wCallP 0 c__law_draw (wCons (wC (.int 4)) wNil)) (wC (.int 0))))) (sSet (wSl (wOp dAdd (wBor (wCallP 0 c__law_pick (wCons (wVar 2) wNil))) (wCallP 0 c__law_pick (wCons (wLst (wCons (wC (.str "x")) (wCons (wC (.str "0")) (wCons (wC (.str "r")) (wCons (wC (.str "9z")) wNil))))) wNil))) wNoPart (wPart (wC (.int 8)))) (gN 4)) sNext)
    (sSeq (sSet (wOp dAdd (wLst (wCons (wVar 4) wNil)) (wLc [6] (iR1 (wCons (wOp dAdd (wVar 1) (wC (.int 1))) wNil)) (gN 6) wYes (wOp dAdd (wC (.str "u")) (wB rStrOf (wCons (wVar 6) wNil))))) (gN 5))
    (sExpr (wAppend 2 (wBor (wOp dIx (wLc [7] (iL (wVar 5)) (gN 7) (wTru (wOp dNotIn (wVar 7) (wOp dAdd (wVar 2) (wLst (wCons (wC (.str "or")) wNil))))) (wVar 7)) (wC (.int 0))))))))))
    (sRet (wVar 2))))
/-- _law_count: slots _law_purse_here _law_way _law_top -/
def w__law_count : WS :=
    (sSeq (sSet (wCallP 0 c__law_draw (wCons (wC (.int 5)) wNil)) (gN 1))
    (sSeq (sIf (wTru (wOp dLt (wVar 1) (wC (.int 2)))) (sRet (wOp dAdd (wC (.int 1)) (wCallP 0 c__law_draw (wCons (wC (.int 9)) wNil)))) sNext)
    (sSeq (sIf (wTru (wOp dEq (wVar 1) (wC (.int 2)))) (sRet (wCallP 0 c__law_pick (wCons (wLst (wCons (wC (.int 10)) (wCons (wC (.int 99)) (wCons (wC (.int 1000)) (wCons (wOp dPow (wC (.int 10)) (wC (.int 6))) (wCons (wOp dSub (wOp dPow (wC (.int 10)) (wC (.int 12))) (wC (.int 1))) (wCons (wOp dPow (wC (.int 10)) (wC (.int 12))) wNil))))))) wNil))) sNext)
    (sSeq (sSet (wCallP 0 c__law_pick (wCons (wLst (wCons (wOp dPow (wC (.int 10)) (wC (.int 3))) (wCons (wOp dPow (wC (.int 10)) (wC (.int 6))) (wCons (wOp dPow (wC (.int 10)) (wC (.int 9))) (wCons (wOp dPow (wC (.int 10)) (wC (.int 12))) wNil))))) wNil)) (gN 2))
    (sRet (wOp dAdd (wC (.int 1)) (wOp dMod (wB rIntOf (wCons (wOp dAdd (wOp dMul (wCallP 0 c__law_draw (wCons (wOp dPow (wC (.int 10)) (wC (.int 6))) wNil)) (wOp dPow (wC (.int 10)) (wC (.int 6)))) (wCallP 0 c__law_draw (wCons (wOp dPow (wC (.int 10)) (wC (.int 6))) wNil))) wNil)) (wVar 2))))))))
/-- _law_word: slots _law_purse_here _law_by -/
def w__law_word : WS :=
    (sSeq (sSet (wB rStrOf (wCons (wCallP 0 c__law_count wNil) wNil)) (gN 1))
    (sRet (wCallP 0 c__law_pick (wCons (wLst (wCons (wVar 1) (wCons (wC (.str "all")) (wCons (wOp dAdd (wC (.str "all-")) (wVar 1)) (wCons (wC (.str "most")) (wCons (wOp dAdd (wC (.str "most+")) (wVar 1)) (wCons (wOp dAdd (wC (.str "most-")) (wVar 1)) wNil))))))) wNil))))
/-- _law_option: slots _law_purse_here _law_deep _law_most _law_left _law_found _law_k -/
def w__law_option : WS :=
    (sSeq (sParFF 3 4 (wLstRng (wCons (wVar 1) wNil)) (wLst wNil))
    (sSeq (sFor (iR1 (wCons (wOp dAdd (wC (.int 1)) (wCallP 0 c__law_draw (wCons (wB rMin2 (wCons (wVar 1) (wCons (wVar 2) wNil))) wNil))) wNil)) (gN 5) (sExpr (wAppend 4 (wTup (wCons (wPopAt 3 (wCallP 0 c__law_draw (wCons (wBor (wB rLenD (wCons (wVar 3) wNil))) wNil))) (wCons (wCallP 0 c__law_word wNil) wNil))))))
    (sRet (wVar 4))))
/-- _law_shift: slots _law_word_here _law_head -/
def w__law_shift (kx : XC) : WS :=
    (sSeq (sFor (iL (wLst (wCons (wC (.str "all-")) (wCons (wC (.str "most-")) (wCons (wC (.str "most+")) wNil))))) (gN 1) (sIf (wTru (wOp dEq (wSl (wVar 0) wNoPart (wPart (wB rLenD (wCons (wVar 1) wNil)))) (wVar 1))) (sRet (wB rIntOf (wCons (wSl (wVar 0) (wPart (wB rLenD (wCons (wVar 1) wNil))) wNoPart) wNil))) sNext))
    (sRet (wIfE (wTru (wOp dIn (wVar 0) (wLst (wCons (wC (.str "all")) (wCons (wC (.str "most")) wNil))))) (wC (.int 0)) (wB rIntOf (wCons (wVar 0) wNil)))))
/-- _law_number: slots _law_word_here _law_size_here _law_by _law_half -/
def w__law_number (kx : XC) : WS :=
    (sSeq (sPar 2 3 (wCons (wCall c__law_shift kx (wCons (wVar 0) wNil)) (wCons (wOp dAdd (wOp dFdiv (wVar 1) (wC (.int 2))) (wC (.int 1))) wNil)))
    (sSeq (sIf (wTru (wOp dEq (wSl (wVar 0) wNoPart (wPart (wC (.int 3)))) (wC (.str "all")))) (sRet (wB rMax2 (wCons (wC (.int 0)) (wCons (wOp dSub (wVar 1) (wVar 2)) wNil)))) sNext)
    (sSeq (sIf (wTru (wOp dEq (wSl (wVar 0) wNoPart (wPart (wC (.int 4)))) (wC (.str "most")))) (sRet (wIfE (wTru (wOp dEq (wSl (wVar 0) (wPart (wC (.int 4))) (wPart (wC (.int 5)))) (wC (.str "+")))) (wOp dAdd (wVar 3) (wVar 2)) (wB rMax2 (wCons (wC (.int 0)) (wCons (wOp dSub (wVar 3) (wVar 2)) wNil))))) sNext)
    (sRet (wVar 2)))))
/-- _law_due: slots _law_some _law_big _law_have _law_row _law_at _law_word_here -/
def w__law_due (kx : XC) : WS :=
    (sSeq (sFor (iL (wVar 0)) (gN 3) (sIf (wTruth (wB rAllD (wCons (wLc [4, 5] (iL (wVar 3)) (gTupW 2 (gCons' (gN 4) (gCons' (gN 5) gNil'))) wYes (wOp dLe (wCall c__law_number no (wCons (wVar 5) (wCons (wOp dIx (wVar 1) (wVar 4)) wNil))) (wOp dIx (wVar 2) (wVar 4)))) wNil))) (sRet (wC (.bl true))) sNext))
    (sRet (wC (.bl false))))
/-- _law_size: slots _law_purse_here _law_span _law_near _law_label_here _law_low _law_high _law_top _law_way _law_great -/
def w__law_size : WS :=
    (sSeq (sSet (wVar 1) (gTupW 3 (gCons' (gN 3) (gCons' (gN 4) (gCons' (gN 5) gNil')))))
    (sSeq (sPar 6 7 (wCons (wIfE (wTru (wOp dIs (wVar 5) (wC .non))) (wOp dAdd (wVar 4) (wOp dPow (wC (.int 10)) (wC (.int 30)))) (wVar 5)) (wCons (wCallP 0 c__law_draw (wCons (wC (.int 6)) wNil)) wNil)))
    (sSeq (sIf (wTru (wOp dLt (wVar 7) (wC (.int 2)))) (sRet (wOp dIx (wLst (wCons (wVar 4) (wCons (wVar 6) wNil))) (wVar 7))) sNext)
    (sSeq (sIf (wTru (wOp dLt (wVar 7) (wC (.int 5)))) (sRet (wB rMin2 (wCons (wVar 6) (wCons (wB rMax2 (wCons (wVar 4) (wCons (wOp dSub (wOp dAdd (wCallP 0 c__law_pick (wCons (wLst (wCons (wVar 2) (wCons (wOp dMul (wC (.int 2)) (wVar 2)) wNil))) wNil)) (wCallP 0 c__law_draw (wCons (wC (.int 7)) wNil))) (wC (.int 3))) wNil))) wNil)))) sNext)
    (sSeq (sSet (wOp dAdd (wOp dAdd (wOp dMul (wCallP 0 c__law_draw (wCons (wOp dPow (wC (.int 10)) (wC (.int 6))) wNil)) (wOp dPow (wC (.int 10)) (wC (.int 24)))) (wOp dMul (wCallP 0 c__law_draw (wCons (wOp dPow (wC (.int 10)) (wC (.int 6))) wNil)) (wOp dPow (wC (.int 10)) (wC (.int 9))))) (wCallP 0 c__law_draw (wCons (wOp dPow (wC (.int 10)) (wC (.int 6))) wNil))) (gN 8))
    (sRet (wOp dAdd (wVar 4) (wOp dMod (wB rIntOf (wCons (wVar 8) wNil)) (wOp dAdd (wOp dSub (wVar 6) (wVar 4)) (wC (.int 1)))))))))))
/-- _law_sizes: slots _law_purse_here _law_spans _law_row _law_found _law_at _law_word_here _law_span -/
def w__law_sizes : WS :=
    (sSeq (sOwn (wLc [6] (iT (wVar 1)) (gN 6) wYes (wCallP 0 c__law_size (wCons (wVar 6) (wCons (wOp dAdd (wC (.int 1)) (wCallP 0 c__law_draw (wCons (wC (.int 20)) wNil))) wNil)))) 3)
    (sSeq (sFor (iL (wVar 2)) (gTupW 2 (gCons' (gN 4) (gCons' (gN 5) gNil'))) (sSet (wCallP 0 c__law_size (wCons (wOp dIx (wVar 1) (wVar 4)) (wCons (wCall c__law_shift no (wCons (wVar 5) wNil)) wNil))) (gOwnIx 3 (wVar 4))))
    (sRet (wB rTupOf (wCons (wVar 3) wNil)))))
/-- _law_part: slots _law_purse_here _law_top _law_great -/
def w__law_part : WS :=
    (sSeq (sSet (wOp dAdd (wOp dMul (wCallP 0 c__law_draw (wCons (wOp dPow (wC (.int 10)) (wC (.int 6))) wNil)) (wOp dPow (wC (.int 10)) (wC (.int 12)))) (wCallP 0 c__law_draw (wCons (wOp dPow (wC (.int 10)) (wC (.int 6))) wNil))) (gN 2))
    (sRet (wCallP 0 c__law_pick (wCons (wLst (wCons (wC (.int 0)) (wCons (wB rMin2 (wCons (wC (.int 1)) (wCons (wVar 1) wNil))) (wCons (wVar 1) (wCons (wB rMin2 (wCons (wVar 1) (wCons (wOp dAdd (wC (.int 1)) (wCallP 0 c__law_draw (wCons (wC (.int 9)) wNil))) wNil))) (wCons (wOp dMod (wB rIntOf (wCons (wVar 2) wNil)) (wOp dAdd (wVar 1) (wC (.int 1)))) wNil)))))) wNil))))
/-- _law_moved: slots _law_purse_here _law_big _law_have _law_due_here _law_way _law_sizes_now _law_counts_now _law_k _law_size_here _law_count_here _law_step -/
def w__law_moved : WS :=
    (sSeq (sParEFF 4 5 6 (wCallP 0 c__law_draw (wCons (wC (.int 3)) wNil)) (wLst wNil) (wLst wNil))
    (sSeq (sFor (iR1 (wCons (wB rLenD (wCons (wVar 1) wNil)) wNil)) (gN 7) (sSeq (sPar 8 9 (wCons (wOp dIx (wVar 1) (wVar 7)) (wCons (wOp dIx (wVar 2) (wVar 7)) wNil)))
    (sSeq (sIf (wTru (wOp dEq (wVar 4) (wC (.int 0)))) (sSeq (sSet (wCallP 0 c__law_part (wCons (wIfE (wTruth (wVar 3)) (wOp dSub (wVar 8) (wVar 9)) (wVar 9)) wNil)) (gN 10))
    (sSet (wIfE (wTruth (wVar 3)) (wOp dAdd (wVar 9) (wVar 10)) (wOp dSub (wVar 9) (wVar 10))) (gN 9))) (sIf (wAndT (wTru (wOp dEq (wVar 4) (wC (.int 1)))) (wTruth (wVar 3))) (sSeq (sSet (wCallP 0 c__law_part (wCons (wOp dPow (wC (.int 10)) (wC (.int 30))) wNil)) (gN 10))
    (sPar 8 9 (wCons (wOp dAdd (wVar 8) (wVar 10)) (wCons (wOp dAdd (wVar 9) (wVar 10)) wNil)))) (sIf (wTru (wOp dEq (wVar 4) (wC (.int 1)))) (sSeq (sSet (wCallP 0 c__law_part (wCons (wB rMin2 (wCons (wOp dSub (wVar 8) (wC (.int 1))) (wCons (wVar 9) wNil))) wNil)) (gN 10))
    (sPar 8 9 (wCons (wOp dSub (wVar 8) (wVar 10)) (wCons (wOp dSub (wVar 9) (wVar 10)) wNil)))) (sIf (wTruth (wVar 3)) (sSet (wOp dSub (wVar 8) (wCallP 0 c__law_part (wCons (wB rMin2 (wCons (wOp dSub (wVar 8) (wC (.int 1))) (wCons (wOp dSub (wVar 8) (wVar 9)) wNil))) wNil))) (gN 8)) (sSet (wOp dAdd (wVar 8) (wCallP 0 c__law_part (wCons (wOp dPow (wC (.int 10)) (wC (.int 30))) wNil))) (gN 8))))))
    (sSeq (sExpr (wAppend 5 (wVar 8)))
    (sExpr (wAppend 6 (wVar 9)))))))
    (sRet (wLst (wCons (wB rTupOf (wCons (wVar 5) wNil)) (wCons (wB rTupOf (wCons (wVar 6) wNil)) wNil))))))
/-- _law_right: slots _law_purse_here _law_tags _law_some _law_lines _law_spans _law_mine _law_turn _law_row _law_big _law_have _law_at _law_word_here _law_due_here _law_again _law_moved_here _law_k _law_label_here _law_size_here -/
def w__law_right : WS :=
    (sSeq (sSet (wCallP 0 c__law_labels (wCons (wOp dAdd (wC (.int 1)) (wCallP 0 c__law_draw (wCons (wC (.int 5)) wNil))) wNil)) (gN 1))
    (sSeq (sSet (wLc [15] (iR1 (wCons (wOp dAdd (wC (.int 1)) (wCallP 0 c__law_draw (wCons (wC (.int 6)) wNil))) wNil)) (gN 15) wYes (wCallP 0 c__law_option (wCons (wB rLenD (wCons (wVar 1) wNil)) (wCons (wC (.int 2)) wNil)))) (gN 2))
    (sSeq (sSet (wB rTupOf (wCons (wLc [7] (iL (wVar 2)) (gN 7) wYes (wM "str" mJoin (wC (.str ", ")) (wCons (wLc [10, 11] (iL (wVar 7)) (gTupW 2 (gCons' (gN 10) (gCons' (gN 11) gNil'))) wYes (wOp dAdd (wOp dAdd (wVar 11) (wC (.str " "))) (wOp dIx (wVar 1) (wVar 10)))) wNil))) wNil)) (gN 3))
    (sSeq (sSet (wB rTupOf (wCons (wLc [16] (iL (wVar 1)) (gN 16) wYes (wTup (wCons (wVar 16) (wCons (wC (.int 1)) (wCons (wC .non) wNil))))) wNil)) (gN 4))
    (sSeq (sSet (wMakeE "Plan" ci_Plan [.tup []] no (wCons (wVar 4) (wCons (wTup (wCons (wTup (wCons (wC (.str "r")) (wCons (wVar 3) wNil))) wNil)) wNil))) (gN 5))
    (sSeq (sFor (iR1 (wCons (wC (.int 3)) wNil)) (gN 6) (sSeq (sSet (wCallP 0 c__law_pick (wCons (wVar 2) wNil)) (gN 7))
    (sSeq (sSet (wCallP 0 c__law_sizes (wCons (wVar 4) (wCons (wVar 7) wNil))) (gN 8))
    (sSeq (sOwn (wLc [17] (iT (wVar 8)) (gN 17) wYes (wCallP 0 c__law_pick (wCons (wLst (wCons (wC (.int 0)) (wCons (wC (.int 0)) (wCons (wVar 17) (wCons (wB rMin2 (wCons (wVar 17) (wCons (wOp dAdd (wC (.int 1)) (wCallP 0 c__law_draw (wCons (wC (.int 9)) wNil))) wNil))) wNil))))) wNil))) 9)
    (sSeq (sFor (iL (wVar 7)) (gTupW 2 (gCons' (gN 10) (gCons' (gN 11) gNil'))) (sSet (wB rMin2 (wCons (wOp dIx (wVar 8) (wVar 10)) (wCons (wB rMax2 (wCons (wC (.int 0)) (wCons (wOp dSub (wCall c__law_number no (wCons (wVar 11) (wCons (wOp dIx (wVar 8) (wVar 10)) wNil))) (wCallP 0 c__law_pick (wCons (wLst (wCons (wC (.int 0)) (wCons (wC (.int 0)) (wCons (wC (.int 1)) wNil)))) wNil))) wNil))) wNil))) (gOwnIx 9 (wVar 10))))
    (sSeq (sSet (wCall c__law_due no (wCons (wVar 2) (wCons (wVar 8) (wCons (wVar 9) wNil)))) (gN 12))
    (sSeq (sIf (wTru (wOp dNe (wB rRepr (wCons (wMeth "Plan" "is_quorum" c_Plan_is_quorum no (wVar 5) (wCons (wC (.str "r")) (wCons (wVar 8) (wCons (wB rTupOf (wCons (wVar 9) wNil)) wNil)))) wNil)) (wB rRepr (wCons (wVar 12) wNil)))) (sRet (wC (.bl false))) sNext)
    (sFor (iR1 (wCons (wC (.int 3)) wNil)) (gN 13) (sSeq (sSet (wCallP 0 c__law_moved (wCons (wVar 8) (wCons (wVar 9) (wCons (wVar 12) wNil)))) (gN 14))
    (sIf (wTru (wOp dNe (wB rRepr (wCons (wMeth "Plan" "is_quorum" c_Plan_is_quorum no (wVar 5) (wCons (wC (.str "r")) (wCons (wOp dIx (wVar 14) (wC (.int 0))) (wCons (wOp dIx (wVar 14) (wC (.int 1))) wNil)))) wNil)) (wB rRepr (wCons (wVar 12) wNil)))) (sRet (wC (.bl false))) sNext))))))))))
    (sRet (wC (.bl true)))))))))
/-- law: slots _law_script _law_k -/
def w_law (kx : XC) : WS :=
    (sSeq (sFor (iR1 (wCons (wB rMax2 (wCons (wC (.int 2)) (wCons (wB rMin2 (wCons (wB rLenD (wCons (wVar 0) wNil)) (wCons (wC (.int 5)) wNil))) wNil))) wNil)) (gN 1) (sIf (wNot (wTruth (wCallPF c__law_right (wCall c__law_purse no (wCons (wVar 0) (wCons (wVar 1) wNil))) wNil))) (sRet (wC (.bl false))) sNext))
    (sRet (wC (.bl true))))
end W
set_option Elab.async false
set_option linter.all false
set_option maxRecDepth 100000
set_option maxHeartbeats 4000000
namespace W
open PySem PySem.Spec PyProof.Rows L2 Q
theorem dEq_str {a b : Str} {k : D → Prop} : dEq (.str a) (.str b) k = k (.bl (decide (a = b))) := rfl
theorem dEq_int {a b : Int} {k : D → Prop} : dEq (.int a) (.int b) k = k (.bl (decide (a = b))) := rfl
theorem dNe_int {a b : Int} {k : D → Prop} : dNe (.int a) (.int b) k = k (.bl (!decide (a = b))) := rfl
theorem dNe_str {a b : Str} {k : D → Prop} : dNe (.str a) (.str b) k = k (.bl (!decide (a = b))) := rfl
theorem dIn_str {a b : Str} {k : D → Prop} : dIn (.str a) (.str b) k = k (.bl (inStr a b)) := rfl
theorem len_tl (z : Str) : z.cps.toList.length = z.length := Array.length_toList
theorem n_is_integer {ds : List D} {kk : D → Prop} {kx : XC} (h : c_is_integer ds kk kx) : ds.length = 1 := by
  obtain ⟨a, rfl, _⟩ := h; rfl
theorem p_is_integer (ds : List D) (kk : D → Prop) (kx : XC) (h : c_is_integer ds kk kx) : (w_is_integer kx) { nx := fun _ => kk .non, rt := fun d _ => kk d } (startE 1 ds) := by
  obtain ⟨a, rfl, ht, h⟩ := h
  simp only [sSeq, sRet, sRetF, sRetN, sIf, sNext, sSet, sOwn, sOwnP, sPar, sExpr, sFldI, sBreak, sCont, sDPutD, sParFF, sParEF, sParFE, sParEFF, wIsi, wVar, wC, wOp, wUn, wB, wCons, wNil, wTup, wLst, wDct, wTru, wTruth, wNot, wAndT, wOrT, wAndV, wOrV, wNotV, wIfE, wChain, wCall, wCallP, wCallPF, wMake, wMakeE, wM, wSl, wPart, wNoPart, wMeth, wFldC, wFldS, wProp, wBor, wBorT, wAppend, wPopAt, wExtend, wDGet2, wLstRng, wFmt, wJoined, jCons, jNil, gN, gTupW, gCons', gNil', iL, iT, iS, iR1, iR2, iZp, iEn, dAdd, dSub, dMul, dMod, dFdiv, dPow, dLt, dLe, dGt, dGe, dNeg, dIs, dIsNot, rLenD, rTupOf, rLstOf, rMax2, rMin2, rAbs, rIntOf, rStrOf, rDivmod, startE, Ev.get, Ev.set, Ev.lend, Ev.noSlf, Slot.lend, Slot.noSlf, Slot.isL, Slot.isDK, Slot.isPurse, List.map, List.all, List.length_cons, List.length_nil, List.replicate, List.append, List.cons_append, List.nil_append, Nat.zero_add, Nat.reduceAdd, Nat.reduceSub, Nat.reduceLT, if_true, if_false, Bool.false_eq_true, Bool.not_true, Bool.not_false, w_is_integer, isa_int ht, isa_bool ht]
  cases a <;> simp_all [D.isInt, D.isBl]
theorem n_is_name {ds : List D} {kk : D → Prop} {kx : XC} (h : c_is_name ds kk kx) : ds.length = 1 := by
  obtain ⟨a, rfl, _⟩ := h; rfl
/-- all signs by a test -/
theorem signs_all {i : Nat} {wi : WA} {we : WE} {f : Nat → Bool} {z : Str} {ρ : Ev} {k : D → Ev → Prop} (hz : z.length ≤ sizeLine) (hi : ∀ k : List D → Ev → Prop, k (signs z) ρ → wi ρ k) (hw : ∀ c (kk : D → Ev → Prop), kk (.bl (f c)) (ρ.set i (.val (.str ⟨#[c]⟩))) → we (ρ.set i (.val (.str ⟨#[c]⟩))) kk) (hr : ∀ s, (ρ.set i s).wipe [i] = ρ) (hr0 : ρ.wipe [i] = ρ)
    (hk : k (.bl (z.cps.toList.all f)) ρ) : wLc [i] wi (gN i) wYes we ρ fun x ρ1 => rAllD [x] fun z => k z ρ1 := by
  refine hi _ ⟨?_, ?_⟩
  · simp only [Q.signs, List.length_map, len_tl]; exact hz
  · rw [hr0]
    refine lcM (fun d => match d with | .str y => (match y.cps.toList with | c :: _ => .bl (f c) | [] => .non) | _ => .non) _ _ _ (fun d hd kk q => ?_) ⟨z.cps.toList.map f, ?_, ?_⟩
    · obtain ⟨c, hc, rfl⟩ := List.mem_map.mp hd
      exact hw c kk (q _ (hr _))
    · simp [Q.signs, List.map_map, Function.comp_def]
    · have : (z.cps.toList.map f).all id = z.cps.toList.all f := by simp [List.all_map]
      rw [this]; exact hk
theorem p_is_name (ds : List D) (kk : D → Prop) (kx : XC) (h : c_is_name ds kk kx) : (w_is_name kx) { nx := fun _ => kk .non, rt := fun d _ => kk d } (startE 2 ds) := by
  obtain ⟨a, rfl, ht, hs, h⟩ := h
  simp only [sSeq, sRet, sRetF, sRetN, sIf, sNext, sSet, sOwn, sOwnP, sPar, sExpr, sFldI, sBreak, sCont, sDPutD, sParFF, sParEF, sParFE, sParEFF, wIsi, wVar, wC, wOp, wUn, wB, wCons, wNil, wTup, wLst, wDct, wTru, wTruth, wNot, wAndT, wOrT, wAndV, wOrV, wNotV, wIfE, wChain, wCall, wCallP, wCallPF, wMake, wMakeE, wM, wSl, wPart, wNoPart, wMeth, wFldC, wFldS, wProp, wBor, wBorT, wAppend, wPopAt, wExtend, wDGet2, wLstRng, wFmt, wJoined, jCons, jNil, gN, gTupW, gCons', gNil', iL, iT, iS, iR1, iR2, iZp, iEn, dAdd, dSub, dMul, dMod, dFdiv, dPow, dLt, dLe, dGt, dGe, dNeg, dIs, dIsNot, rLenD, rTupOf, rLstOf, rMax2, rMin2, rAbs, rIntOf, rStrOf, rDivmod, startE, Ev.get, Ev.set, Ev.lend, Ev.noSlf, Slot.lend, Slot.noSlf, Slot.isL, Slot.isDK, Slot.isPurse, List.map, List.all, List.length_cons, List.length_nil, List.replicate, List.append, List.cons_append, List.nil_append, Nat.zero_add, Nat.reduceAdd, Nat.reduceSub, Nat.reduceLT, if_true, if_false, Bool.false_eq_true, Bool.not_true, Bool.not_false, w_is_name, isa_str ht]
  cases a with
  | str z =>
    have hs : z.length ≤ sizeLine := hs
    simp only [D.isStr, sSeq, sRet, sRetF, sRetN, sIf, sNext, sSet, sOwn, sOwnP, sPar, sExpr, sFldI, sBreak, sCont, sDPutD, sParFF, sParEF, sParFE, sParEFF, wIsi, wVar, wC, wOp, wUn, wB, wCons, wNil, wTup, wLst, wDct, wTru, wTruth, wNot, wAndT, wOrT, wAndV, wOrV, wNotV, wIfE, wChain, wCall, wCallP, wCallPF, wMake, wMakeE, wM, wSl, wPart, wNoPart, wMeth, wFldC, wFldS, wProp, wBor, wBorT, wAppend, wPopAt, wExtend, wDGet2, wLstRng, wFmt, wJoined, jCons, jNil, gN, gTupW, gCons', gNil', iL, iT, iS, iR1, iR2, iZp, iEn, dAdd, dSub, dMul, dMod, dFdiv, dPow, dLt, dLe, dGt, dGe, dNeg, dIs, dIsNot, rLenD, rTupOf, rLstOf, rMax2, rMin2, rAbs, rIntOf, rStrOf, rDivmod, startE, Ev.get, Ev.set, Ev.lend, Ev.noSlf, Slot.lend, Slot.noSlf, Slot.isL, Slot.isDK, Slot.isPurse, List.map, List.all, List.length_cons, List.length_nil, List.replicate, List.append, List.cons_append, List.nil_append, Nat.zero_add, Nat.reduceAdd, Nat.reduceSub, Nat.reduceLT, if_true, if_false, Bool.false_eq_true, Bool.not_true, Bool.not_false, dEq_str]
    have hl := len_tl z
    refine ⟨hs, ?_⟩
    have h' : kk (.bl (nameB z)) := h
    unfold nameB at h'
    by_cases h1 : 1 ≤ z.length
    · rw [decide_eq_true (show (1 : Int) ≤ (z.length : Int) by omega)]
      rw [decide_eq_true h1] at h'
      by_cases h2 : z.length ≤ 8
      · rw [decide_eq_true (show (z.length : Int) ≤ 8 by omega)]
        rw [decide_eq_true h2] at h'
        by_cases h3 : z = "or"
        · rw [decide_eq_true h3] at h' ⊢
          simpa using h'
        · rw [decide_eq_false h3] at h' ⊢
          cases e : z.cps.toList with
          | nil => rw [e] at hl; simp at hl; omega
          | cons c r =>
            rw [e] at h'
            simp only [sSeq, sRet, sRetF, sRetN, sIf, sNext, sSet, sOwn, sOwnP, sPar, sExpr, sFldI, sBreak, sCont, sDPutD, sParFF, sParEF, sParFE, sParEFF, wIsi, wVar, wC, wOp, wUn, wB, wCons, wNil, wTup, wLst, wDct, wTru, wTruth, wNot, wAndT, wOrT, wAndV, wOrV, wNotV, wIfE, wChain, wCall, wCallP, wCallPF, wMake, wMakeE, wM, wSl, wPart, wNoPart, wMeth, wFldC, wFldS, wProp, wBor, wBorT, wAppend, wPopAt, wExtend, wDGet2, wLstRng, wFmt, wJoined, jCons, jNil, gN, gTupW, gCons', gNil', iL, iT, iS, iR1, iR2, iZp, iEn, dAdd, dSub, dMul, dMod, dFdiv, dPow, dLt, dLe, dGt, dGe, dNeg, dIs, dIsNot, rLenD, rTupOf, rLstOf, rMax2, rMin2, rAbs, rIntOf, rStrOf, rDivmod, startE, Ev.get, Ev.set, Ev.lend, Ev.noSlf, Slot.lend, Slot.noSlf, Slot.isL, Slot.isDK, Slot.isPurse, List.map, List.all, List.length_cons, List.length_nil, List.replicate, List.append, List.cons_append, List.nil_append, Nat.zero_add, Nat.reduceAdd, Nat.reduceSub, Nat.reduceLT, if_true, if_false, Bool.false_eq_true, Bool.not_true, Bool.not_false, Bool.true_and, Bool.not_false] at h' ⊢
            refine ⟨hs, ?_⟩
            rw [e]
            have ea : atI (c :: r) 0 = some c := atI_nat (xs := c :: r) (j := 0) rfl
            rw [ea]
            simp only [dIn_str, inStr1]
            have i1 : decide (c ∈ (Str.ofString "abcdefghijklmnopqrstuvwxyz").cps.toList) = inLet c := rfl
            rw [i1]
            cases hc : inLet c with
            | false => rw [hc] at h'; exact h'
            | true =>
              rw [hc] at h'
              refine signs_all (i := 1) (ρ := [Slot.val (D.str z), Slot.un]) (f := fun c => inLet c || inDig c) hs (fun k h => h) (fun c kk h => ?_) (fun s => rfl) rfl ?_
              · refine ⟨by decide +kernel, ?_⟩
                simp only [sSeq, sRet, sRetF, sRetN, sIf, sNext, sSet, sOwn, sOwnP, sPar, sExpr, sFldI, sBreak, sCont, sDPutD, sParFF, sParEF, sParFE, sParEFF, wIsi, wVar, wC, wOp, wUn, wB, wCons, wNil, wTup, wLst, wDct, wTru, wTruth, wNot, wAndT, wOrT, wAndV, wOrV, wNotV, wIfE, wChain, wCall, wCallP, wCallPF, wMake, wMakeE, wM, wSl, wPart, wNoPart, wMeth, wFldC, wFldS, wProp, wBor, wBorT, wAppend, wPopAt, wExtend, wDGet2, wLstRng, wFmt, wJoined, jCons, jNil, gN, gTupW, gCons', gNil', iL, iT, iS, iR1, iR2, iZp, iEn, dAdd, dSub, dMul, dMod, dFdiv, dPow, dLt, dLe, dGt, dGe, dNeg, dIs, dIsNot, rLenD, rTupOf, rLstOf, rMax2, rMin2, rAbs, rIntOf, rStrOf, rDivmod, startE, Ev.get, Ev.set, Ev.lend, Ev.noSlf, Slot.lend, Slot.noSlf, Slot.isL, Slot.isDK, Slot.isPurse, List.map, List.all, List.length_cons, List.length_nil, List.replicate, List.append, List.cons_append, List.nil_append, Nat.zero_add, Nat.reduceAdd, Nat.reduceSub, Nat.reduceLT, if_true, if_false, Bool.false_eq_true, Bool.not_true, Bool.not_false]
                rw [dIn_str, inStr2]
                exact h
              · rw [e, List.all_cons]
                simp only [hc, Bool.true_or, Bool.true_and] at h' ⊢
                exact h'
      · rw [decide_eq_false (show ¬ (z.length : Int) ≤ 8 by omega)]
        rw [decide_eq_false h2] at h'
        simpa using h'
    · rw [decide_eq_false (show ¬ (1 : Int) ≤ (z.length : Int) by omega)]
      rw [decide_eq_false h1] at h'
      simpa using h'
  | _ => simp_all [D.isStr, nameD]
theorem n_written {ds : List D} {kk : D → Prop} {kx : XC} (h : c_written ds kk kx) : ds.length = 1 := by
  obtain ⟨a, rfl, _⟩ := h; rfl
theorem dig_all {l : List Nat} (h : l.all inDig = true) : NumText.AllDigits l := fun c hc => by
  have q := List.all_eq_true.mp h c hc
  have q' : c ∈ DIG.cps.toList := of_decide_eq_true q
  have e : DIG.cps.toList = [48, 49, 50, 51, 52, 53, 54, 55, 56, 57] := by decide +kernel
  rw [e] at q'
  simp at q'
  omega
theorem p_written (ds : List D) (kk : D → Prop) (kx : XC) (h : c_written ds kk kx) : (w_written kx) { nx := fun _ => kk .non, rt := fun d _ => kk d } (startE 2 ds) := by
  obtain ⟨a, rfl, z, rfl, hs, h⟩ := h
  simp only [sSeq, sRet, sRetF, sRetN, sIf, sNext, sSet, sOwn, sOwnP, sPar, sExpr, sFldI, sBreak, sCont, sDPutD, sParFF, sParEF, sParFE, sParEFF, wIsi, wVar, wC, wOp, wUn, wB, wCons, wNil, wTup, wLst, wDct, wTru, wTruth, wNot, wAndT, wOrT, wAndV, wOrV, wNotV, wIfE, wChain, wCall, wCallP, wCallPF, wMake, wMakeE, wM, wSl, wPart, wNoPart, wMeth, wFldC, wFldS, wProp, wBor, wBorT, wAppend, wPopAt, wExtend, wDGet2, wLstRng, wFmt, wJoined, jCons, jNil, gN, gTupW, gCons', gNil', iL, iT, iS, iR1, iR2, iZp, iEn, dAdd, dSub, dMul, dMod, dFdiv, dPow, dLt, dLe, dGt, dGe, dNeg, dIs, dIsNot, rLenD, rTupOf, rLstOf, rMax2, rMin2, rAbs, rIntOf, rStrOf, rDivmod, startE, Ev.get, Ev.set, Ev.lend, Ev.noSlf, Slot.lend, Slot.noSlf, Slot.isL, Slot.isDK, Slot.isPurse, List.map, List.all, List.length_cons, List.length_nil, List.replicate, List.append, List.cons_append, List.nil_append, Nat.zero_add, Nat.reduceAdd, Nat.reduceSub, Nat.reduceLT, if_true, if_false, Bool.false_eq_true, Bool.not_true, Bool.not_false, w_written]
  have hl := len_tl z
  refine ⟨hs, ?_⟩
  unfold writtenN at h
  by_cases h1 : 1 ≤ z.length
  · rw [decide_eq_true (show (1 : Int) ≤ (z.length : Int) by omega)]
    by_cases h2 : z.length ≤ 13
    · rw [decide_eq_true (show (z.length : Int) ≤ 13 by omega)]
      simp only [sSeq, sRet, sRetF, sRetN, sIf, sNext, sSet, sOwn, sOwnP, sPar, sExpr, sFldI, sBreak, sCont, sDPutD, sParFF, sParEF, sParFE, sParEFF, wIsi, wVar, wC, wOp, wUn, wB, wCons, wNil, wTup, wLst, wDct, wTru, wTruth, wNot, wAndT, wOrT, wAndV, wOrV, wNotV, wIfE, wChain, wCall, wCallP, wCallPF, wMake, wMakeE, wM, wSl, wPart, wNoPart, wMeth, wFldC, wFldS, wProp, wBor, wBorT, wAppend, wPopAt, wExtend, wDGet2, wLstRng, wFmt, wJoined, jCons, jNil, gN, gTupW, gCons', gNil', iL, iT, iS, iR1, iR2, iZp, iEn, dAdd, dSub, dMul, dMod, dFdiv, dPow, dLt, dLe, dGt, dGe, dNeg, dIs, dIsNot, rLenD, rTupOf, rLstOf, rMax2, rMin2, rAbs, rIntOf, rStrOf, rDivmod, startE, Ev.get, Ev.set, Ev.lend, Ev.noSlf, Slot.lend, Slot.noSlf, Slot.isL, Slot.isDK, Slot.isPurse, List.map, List.all, List.length_cons, List.length_nil, List.replicate, List.append, List.cons_append, List.nil_append, Nat.zero_add, Nat.reduceAdd, Nat.reduceSub, Nat.reduceLT, if_true, if_false, Bool.false_eq_true, Bool.not_true, Bool.not_false]
      refine signs_all (i := 1) (ρ := [Slot.val (D.str z), Slot.un]) (f := inDig) hs (fun k h => h) (fun c kk h => ?_) (fun s => rfl) rfl ?_
      · simp only [sSeq, sRet, sRetF, sRetN, sIf, sNext, sSet, sOwn, sOwnP, sPar, sExpr, sFldI, sBreak, sCont, sDPutD, sParFF, sParEF, sParFE, sParEFF, wIsi, wVar, wC, wOp, wUn, wB, wCons, wNil, wTup, wLst, wDct, wTru, wTruth, wNot, wAndT, wOrT, wAndV, wOrV, wNotV, wIfE, wChain, wCall, wCallP, wCallPF, wMake, wMakeE, wM, wSl, wPart, wNoPart, wMeth, wFldC, wFldS, wProp, wBor, wBorT, wAppend, wPopAt, wExtend, wDGet2, wLstRng, wFmt, wJoined, jCons, jNil, gN, gTupW, gCons', gNil', iL, iT, iS, iR1, iR2, iZp, iEn, dAdd, dSub, dMul, dMod, dFdiv, dPow, dLt, dLe, dGt, dGe, dNeg, dIs, dIsNot, rLenD, rTupOf, rLstOf, rMax2, rMin2, rAbs, rIntOf, rStrOf, rDivmod, startE, Ev.get, Ev.set, Ev.lend, Ev.noSlf, Slot.lend, Slot.noSlf, Slot.isL, Slot.isDK, Slot.isPurse, List.map, List.all, List.length_cons, List.length_nil, List.replicate, List.append, List.cons_append, List.nil_append, Nat.zero_add, Nat.reduceAdd, Nat.reduceSub, Nat.reduceLT, if_true, if_false, Bool.false_eq_true, Bool.not_true, Bool.not_false]
        rw [dIn_str, inStr1]
        exact h
      · cases hd : z.cps.toList.all inDig with
        | false =>
          rw [if_neg (by rintro ⟨_, _, q, _⟩; unfold digB at q; rw [hd] at q; cases q)] at h
          first | exact h | (simp only [sSeq, sRet, sRetF, sRetN, sIf, sNext, sSet, sOwn, sOwnP, sPar, sExpr, sFldI, sBreak, sCont, sDPutD, sParFF, sParEF, sParFE, sParEFF, wIsi, wVar, wC, wOp, wUn, wB, wCons, wNil, wTup, wLst, wDct, wTru, wTruth, wNot, wAndT, wOrT, wAndV, wOrV, wNotV, wIfE, wChain, wCall, wCallP, wCallPF, wMake, wMakeE, wM, wSl, wPart, wNoPart, wMeth, wFldC, wFldS, wProp, wBor, wBorT, wAppend, wPopAt, wExtend, wDGet2, wLstRng, wFmt, wJoined, jCons, jNil, gN, gTupW, gCons', gNil', iL, iT, iS, iR1, iR2, iZp, iEn, dAdd, dSub, dMul, dMod, dFdiv, dPow, dLt, dLe, dGt, dGe, dNeg, dIs, dIsNot, rLenD, rTupOf, rLstOf, rMax2, rMin2, rAbs, rIntOf, rStrOf, rDivmod, startE, Ev.get, Ev.set, Ev.lend, Ev.noSlf, Slot.lend, Slot.noSlf, Slot.isL, Slot.isDK, Slot.isPurse, List.map, List.all, List.length_cons, List.length_nil, List.replicate, List.append, List.cons_append, List.nil_append, Nat.zero_add, Nat.reduceAdd, Nat.reduceSub, Nat.reduceLT, if_true, if_false, Bool.false_eq_true, Bool.not_true, Bool.not_false]; exact h)
        | true =>
          simp only [sSeq, sRet, sRetF, sRetN, sIf, sNext, sSet, sOwn, sOwnP, sPar, sExpr, sFldI, sBreak, sCont, sDPutD, sParFF, sParEF, sParFE, sParEFF, wIsi, wVar, wC, wOp, wUn, wB, wCons, wNil, wTup, wLst, wDct, wTru, wTruth, wNot, wAndT, wOrT, wAndV, wOrV, wNotV, wIfE, wChain, wCall, wCallP, wCallPF, wMake, wMakeE, wM, wSl, wPart, wNoPart, wMeth, wFldC, wFldS, wProp, wBor, wBorT, wAppend, wPopAt, wExtend, wDGet2, wLstRng, wFmt, wJoined, jCons, jNil, gN, gTupW, gCons', gNil', iL, iT, iS, iR1, iR2, iZp, iEn, dAdd, dSub, dMul, dMod, dFdiv, dPow, dLt, dLe, dGt, dGe, dNeg, dIs, dIsNot, rLenD, rTupOf, rLstOf, rMax2, rMin2, rAbs, rIntOf, rStrOf, rDivmod, startE, Ev.get, Ev.set, Ev.lend, Ev.noSlf, Slot.lend, Slot.noSlf, Slot.isL, Slot.isDK, Slot.isPurse, List.map, List.all, List.length_cons, List.length_nil, List.replicate, List.append, List.cons_append, List.nil_append, Nat.zero_add, Nat.reduceAdd, Nat.reduceSub, Nat.reduceLT, if_true, if_false, Bool.false_eq_true, Bool.not_true, Bool.not_false]
          refine ⟨hs, ?_⟩
          cases e : z.cps.toList with
          | nil => rw [e] at hl; simp at hl; omega
          | cons c r =>
            have ea : atI (c :: r) 0 = some c := atI_nat (xs := c :: r) (j := 0) rfl
            rw [ea]
            simp only [dEq_str]
            have ec : decide ((⟨#[c]⟩ : Str) = Str.ofString "0") = decide (c = 48) := by
              have e0 : Str.ofString "0" = ⟨#[48]⟩ := by decide +kernel
              rw [e0]
              by_cases q : c = 48
              · subst q; rfl
              · rw [decide_eq_false q, decide_eq_false (fun z => q (by cases z; rfl))]
            rw [ec]
            rw [e] at hd
            have hint : PySem.intText? z = some (NumText.digitsVal z.cps.toList : Int) := PySem.intText_digits (by rw [e]; exact dig_all hd) (by rw [e]; simp) (by omega)
            by_cases q : c = 48
            · rw [decide_eq_true q]
              rw [if_neg (by rintro ⟨_, _, _, z4⟩; rw [e] at z4; exact z4 q)] at h
              first | exact h | (simp only [sSeq, sRet, sRetF, sRetN, sIf, sNext, sSet, sOwn, sOwnP, sPar, sExpr, sFldI, sBreak, sCont, sDPutD, sParFF, sParEF, sParFE, sParEFF, wIsi, wVar, wC, wOp, wUn, wB, wCons, wNil, wTup, wLst, wDct, wTru, wTruth, wNot, wAndT, wOrT, wAndV, wOrV, wNotV, wIfE, wChain, wCall, wCallP, wCallPF, wMake, wMakeE, wM, wSl, wPart, wNoPart, wMeth, wFldC, wFldS, wProp, wBor, wBorT, wAppend, wPopAt, wExtend, wDGet2, wLstRng, wFmt, wJoined, jCons, jNil, gN, gTupW, gCons', gNil', iL, iT, iS, iR1, iR2, iZp, iEn, dAdd, dSub, dMul, dMod, dFdiv, dPow, dLt, dLe, dGt, dGe, dNeg, dIs, dIsNot, rLenD, rTupOf, rLstOf, rMax2, rMin2, rAbs, rIntOf, rStrOf, rDivmod, startE, Ev.get, Ev.set, Ev.lend, Ev.noSlf, Slot.lend, Slot.noSlf, Slot.isL, Slot.isDK, Slot.isPurse, List.map, List.all, List.length_cons, List.length_nil, List.replicate, List.append, List.cons_append, List.nil_append, Nat.zero_add, Nat.reduceAdd, Nat.reduceSub, Nat.reduceLT, if_true, if_false, Bool.false_eq_true, Bool.not_true, Bool.not_false]; exact h)
            · rw [decide_eq_false q]
              rw [if_pos ⟨h1, h2, by unfold digB; rw [e]; exact hd, by rw [e]; exact q⟩] at h
              simp only [sSeq, sRet, sRetF, sRetN, sIf, sNext, sSet, sOwn, sOwnP, sPar, sExpr, sFldI, sBreak, sCont, sDPutD, sParFF, sParEF, sParFE, sParEFF, wIsi, wVar, wC, wOp, wUn, wB, wCons, wNil, wTup, wLst, wDct, wTru, wTruth, wNot, wAndT, wOrT, wAndV, wOrV, wNotV, wIfE, wChain, wCall, wCallP, wCallPF, wMake, wMakeE, wM, wSl, wPart, wNoPart, wMeth, wFldC, wFldS, wProp, wBor, wBorT, wAppend, wPopAt, wExtend, wDGet2, wLstRng, wFmt, wJoined, jCons, jNil, gN, gTupW, gCons', gNil', iL, iT, iS, iR1, iR2, iZp, iEn, dAdd, dSub, dMul, dMod, dFdiv, dPow, dLt, dLe, dGt, dGe, dNeg, dIs, dIsNot, rLenD, rTupOf, rLstOf, rMax2, rMin2, rAbs, rIntOf, rStrOf, rDivmod, startE, Ev.get, Ev.set, Ev.lend, Ev.noSlf, Slot.lend, Slot.noSlf, Slot.isL, Slot.isDK, Slot.isPurse, List.map, List.all, List.length_cons, List.length_nil, List.replicate, List.append, List.cons_append, List.nil_append, Nat.zero_add, Nat.reduceAdd, Nat.reduceSub, Nat.reduceLT, if_true, if_false, Bool.false_eq_true, Bool.not_true, Bool.not_false]
              refine ⟨by omega, _, hint, ?_⟩
              by_cases q2 : (NumText.digitsVal z.cps.toList : Int) ≤ 1000000000000
              · rw [decide_eq_true q2]
                rw [if_pos q2] at h
                exact ⟨by omega, _, hint, h⟩
              · rw [decide_eq_false q2]
                rw [if_neg q2] at h
                exact h
    · rw [decide_eq_false (show ¬ (z.length : Int) ≤ 13 by omega)]
      rw [if_neg (by rintro ⟨_, q, _⟩; exact h2 q)] at h
      exact h
  · rw [decide_eq_false (show ¬ (1 : Int) ≤ (z.length : Int) by omega)]
    rw [if_neg (by rintro ⟨q, _⟩; exact h1 q)] at h
    exact h
theorem n_Word___init__ {ds : List D} {kk : List (Str × D) → Prop} {kx : XC} (h : ci_Word ds kk kx) : ds.length + 1 = 3 := by
  obtain ⟨a, b, rfl, _⟩ := h; rfl
theorem p_Word___init__ (ds : List D) (kk : List (Str × D) → Prop) (kx : XC) (h : ci_Word ds kk kx) : (w_Word___init__ kx) { nx := fun ρ => ∃ fs, ρ.get 0 = .slf (.ins "Word" fs) ∧ kk fs, rt := fun d ρ => False } (.slf (.ins "Word" []) :: startE 2 ds) := by
  obtain ⟨a, b, rfl, h⟩ := h
  exact ⟨rfl, by show (0 : Nat) < 1000; decide, rfl, by show (1 : Nat) < 1000; decide, _, rfl, h⟩
theorem n_Word_number {ds : List D} {kk : D → Prop} {kx : XC} (h : c_Word_number ds kk kx) : ds.length = 2 := by
  obtain ⟨a, b, rfl, _⟩ := h; rfl
theorem p_Word_number (ds : List D) (kk : D → Prop) (kx : XC) (h : c_Word_number ds kk kx) : (w_Word_number kx) { nx := fun _ => kk .non, rt := fun d _ => kk d } (startE 3 ds) := by
  obtain ⟨a, b, rfl, ⟨hd, sh⟩, z, rfl, rfl, h⟩ := h
  simp only [sSeq, sRet, sRetF, sRetN, sIf, sNext, sSet, sOwn, sOwnP, sPar, sExpr, sFldI, sBreak, sCont, sDPutD, sParFF, sParEF, sParFE, sParEFF, wIsi, wVar, wC, wOp, wUn, wB, wCons, wNil, wTup, wLst, wDct, wTru, wTruth, wNot, wAndT, wOrT, wAndV, wOrV, wNotV, wIfE, wChain, wCall, wCallP, wCallPF, wMake, wMakeE, wM, wSl, wPart, wNoPart, wMeth, wFldC, wFldS, wProp, wBor, wBorT, wAppend, wPopAt, wExtend, wDGet2, wLstRng, wFmt, wJoined, jCons, jNil, gN, gTupW, gCons', gNil', iL, iT, iS, iR1, iR2, iZp, iEn, dAdd, dSub, dMul, dMod, dFdiv, dPow, dLt, dLe, dGt, dGe, dNeg, dIs, dIsNot, rLenD, rTupOf, rLstOf, rMax2, rMin2, rAbs, rIntOf, rStrOf, rDivmod, startE, Ev.get, Ev.set, Ev.lend, Ev.noSlf, Slot.lend, Slot.noSlf, Slot.isL, Slot.isDK, Slot.isPurse, List.map, List.all, List.length_cons, List.length_nil, List.replicate, List.append, List.cons_append, List.nil_append, Nat.zero_add, Nat.reduceAdd, Nat.reduceSub, Nat.reduceLT, if_true, if_false, Bool.false_eq_true, Bool.not_true, Bool.not_false, w_Word_number, wordD]
  have l1 : List.lookup (Str.ofString "head") [(Str.ofString "head", D.str hd), (Str.ofString "shift", D.int sh)] = some (D.str hd) := by simp [List.lookup]
  have l2 : List.lookup (Str.ofString "shift") [(Str.ofString "head", D.str hd), (Str.ofString "shift", D.int sh)] = some (D.int sh) := by
    have : (Str.ofString "shift" == Str.ofString "head") = false := by decide +kernel
    simp [List.lookup, this]
  simp only [l1, l2, dEq_str, sSeq, sRet, sRetF, sRetN, sIf, sNext, sSet, sOwn, sOwnP, sPar, sExpr, sFldI, sBreak, sCont, sDPutD, sParFF, sParEF, sParFE, sParEFF, wIsi, wVar, wC, wOp, wUn, wB, wCons, wNil, wTup, wLst, wDct, wTru, wTruth, wNot, wAndT, wOrT, wAndV, wOrV, wNotV, wIfE, wChain, wCall, wCallP, wCallPF, wMake, wMakeE, wM, wSl, wPart, wNoPart, wMeth, wFldC, wFldS, wProp, wBor, wBorT, wAppend, wPopAt, wExtend, wDGet2, wLstRng, wFmt, wJoined, jCons, jNil, gN, gTupW, gCons', gNil', iL, iT, iS, iR1, iR2, iZp, iEn, dAdd, dSub, dMul, dMod, dFdiv, dPow, dLt, dLe, dGt, dGe, dNeg, dIs, dIsNot, rLenD, rTupOf, rLstOf, rMax2, rMin2, rAbs, rIntOf, rStrOf, rDivmod, startE, Ev.get, Ev.set, Ev.lend, Ev.noSlf, Slot.lend, Slot.noSlf, Slot.isL, Slot.isDK, Slot.isPurse, List.map, List.all, List.length_cons, List.length_nil, List.replicate, List.append, List.cons_append, List.nil_append, Nat.zero_add, Nat.reduceAdd, Nat.reduceSub, Nat.reduceLT, if_true, if_false, Bool.false_eq_true, Bool.not_true, Bool.not_false, true_and]
  unfold numW at h
  by_cases q : hd = "number"
  · rw [decide_eq_true q]
    rw [if_pos q] at h
    exact h
  · rw [decide_eq_false q]
    rw [if_neg q] at h
    by_cases q2 : hd = "all"
    · rw [decide_eq_true q2]
      rw [if_pos q2] at h
      first | exact h | (simp only [sSeq, sRet, sRetF, sRetN, sIf, sNext, sSet, sOwn, sOwnP, sPar, sExpr, sFldI, sBreak, sCont, sDPutD, sParFF, sParEF, sParFE, sParEFF, wIsi, wVar, wC, wOp, wUn, wB, wCons, wNil, wTup, wLst, wDct, wTru, wTruth, wNot, wAndT, wOrT, wAndV, wOrV, wNotV, wIfE, wChain, wCall, wCallP, wCallPF, wMake, wMakeE, wM, wSl, wPart, wNoPart, wMeth, wFldC, wFldS, wProp, wBor, wBorT, wAppend, wPopAt, wExtend, wDGet2, wLstRng, wFmt, wJoined, jCons, jNil, gN, gTupW, gCons', gNil', iL, iT, iS, iR1, iR2, iZp, iEn, dAdd, dSub, dMul, dMod, dFdiv, dPow, dLt, dLe, dGt, dGe, dNeg, dIs, dIsNot, rLenD, rTupOf, rLstOf, rMax2, rMin2, rAbs, rIntOf, rStrOf, rDivmod, startE, Ev.get, Ev.set, Ev.lend, Ev.noSlf, Slot.lend, Slot.noSlf, Slot.isL, Slot.isDK, Slot.isPurse, List.map, List.all, List.length_cons, List.length_nil, List.replicate, List.append, List.cons_append, List.nil_append, Nat.zero_add, Nat.reduceAdd, Nat.reduceSub, Nat.reduceLT, if_true, if_false, Bool.false_eq_true, Bool.not_true, Bool.not_false]; exact h)
    · rw [decide_eq_false q2]
      rw [if_neg q2] at h
      exact ⟨⟨by decide, by decide⟩, h⟩
end W
set_option Elab.async false
set_option linter.all false
set_option maxRecDepth 100000
set_option maxHeartbeats 4000000
namespace W
open PySem PySem.Spec PyProof.Rows L2 Q
theorem sSeq_gen {w w' : WS} {N : DN} {ρ : Ev} (h : ∀ M : Ev → Prop, (∀ ρ', w' N ρ' → M ρ') → w ⟨M, N.rt, N.bk, N.ct, N.rf⟩ ρ) : sSeq w w' N ρ := h _ fun _ h => h
theorem forL_gen {g : WG} {wb : WS} {N : DN} {d : D} {ds : List D} {ρ : Ev} (h : ∀ M : Ev → Prop, (∀ ρ', forL g wb N ds ρ' → M ρ') → g d ρ fun ρ1 => wb ⟨M, N.rt, N.nx, M, N.rf⟩ ρ1) : forL g wb N (d :: ds) ρ := h _ fun _ h => h
theorem cutS_len (z : Str) (lo hi : Option Int) : (cutS z lo hi).length ≤ z.length := by
  rw [← len_tl, ← len_tl]
  show (List.toArray _).toList.length ≤ _
  simp only [List.length_take, List.length_drop]
  omega
theorem la : (Str.ofString "all").length = 3 := by decide +kernel
theorem lm : (Str.ofString "most").length = 4 := by decide +kernel
theorem dIn_two {z a b : Str} {k : D → Prop} : dIn (.str z) (.tup [.str a, .str b]) k = k (.bl (a == z || (b == z || false))) := rfl
theorem beq_str (a b : Str) : (a == b) = decide (b = a) := by
  by_cases h : b = a
  · subst h; simp
  · rw [decide_eq_false h]; exact beq_eq_false_iff_ne.mpr fun z => h z.symm
theorem n_parsed_word {ds : List D} {kk : D → Prop} {kx : XC} (h : c_parsed_word ds kk kx) : ds.length = 1 := by
  obtain ⟨a, rfl, _⟩ := h; rfl
/-- one turn of the loop over the heads -/
theorem word_turn {z hd sg' : Str} {s2 s3 s4 s5 : Slot} {kk : D → Prop} {kx : XC} {M : Ev → Prop} {bk : Ev → Prop} {ct : Ev → Prop} {rf : D → Ev → Prop} {m : Nat} {f : Int → Int} (hs : z.length ≤ sizeLine) (hhd : hd.length = m) (hm : m ≤ 10) (hz : hd.length + sg'.length ≤ sizeLine) (hf : f = fun n => if sg' = "+" then n else -n)
    (h1 : Txt.startswith z (hd ++ sg') = true → kk (optW ((writtenN (cutS z (some ((m : Int) + 1)) none)).map fun n => (hd, f n)))) (h2 : Txt.startswith z (hd ++ sg') = false → ∀ s3, M [.val (.str z), .val (.str hd), .val (.str sg'), s3, s5]) :
    (gTupW 2 (gCons' (gN 1) (gCons' (gN 2) gNil'))) (.tup [.str hd, .str sg']) [.val (.str z), s2, s3, s4, s5] fun ρ1 => (sIf (wTruth (wM "str" mStarts (wVar 0) (wCons (wOp dAdd (wVar 1) (wVar 2)) wNil))) (sSeq (sSet (wCall c_written kx (wCons (wSl (wVar 0) (wPart (wOp dAdd (wB rLenD (wCons (wVar 1) wNil)) (wC (.int 1)))) wNoPart) wNil)) (gN 3))
    (sRet (wIfE (wTru (wOp dIs (wVar 3) (wC .non))) (wC .non) (wMake "Word" ci_Word kx (wCons (wVar 1) (wCons (wIfE (wTru (wOp dEq (wVar 2) (wC (.str "+")))) (wVar 3) (wUn dNeg (wVar 3))) wNil)))))) sNext) ⟨M, fun d _ => kk d, bk, ct, rf⟩ ρ1 := by
  simp only [sSeq, sRet, sRetF, sRetN, sIf, sNext, sSet, sOwn, sOwnP, sPar, sExpr, sFldI, sBreak, sCont, sDPutD, sParFF, sParEF, sParFE, sParEFF, wIsi, wVar, wC, wOp, wUn, wB, wCons, wNil, wTup, wLst, wDct, wTru, wTruth, wNot, wAndT, wOrT, wAndV, wOrV, wNotV, wIfE, wChain, wCall, wCallP, wCallPF, wMake, wMakeE, wM, wSl, wPart, wNoPart, wMeth, wFldC, wFldS, wProp, wBor, wBorT, wAppend, wPopAt, wExtend, wDGet2, wLstRng, wFmt, wJoined, jCons, jNil, gN, gTupW, gCons', gNil', iL, iT, iS, iR1, iR2, iZp, iEn, dAdd, dSub, dMul, dMod, dFdiv, dPow, dLt, dLe, dGt, dGe, dNeg, dIs, dIsNot, rLenD, rTupOf, rLstOf, rMax2, rMin2, rAbs, rIntOf, rStrOf, rDivmod, startE, Ev.get, Ev.set, Ev.lend, Ev.noSlf, Slot.lend, Slot.noSlf, Slot.isL, Slot.isDK, Slot.isPurse, List.map, List.all, List.length_cons, List.length_nil, List.replicate, List.append, List.cons_append, List.nil_append, Nat.zero_add, Nat.reduceAdd, Nat.reduceSub, Nat.reduceLT, if_true, if_false, Bool.false_eq_true, Bool.not_true, Bool.not_false, D.tyOk, mStarts, dSl]
  refine ⟨trivial, trivial, ?_⟩
  refine ⟨by decide, hz, ?_⟩
  cases hst : Txt.startswith z (hd ++ sg') with
  | false => simp only [sSeq, sRet, sRetF, sRetN, sIf, sNext, sSet, sOwn, sOwnP, sPar, sExpr, sFldI, sBreak, sCont, sDPutD, sParFF, sParEF, sParFE, sParEFF, wIsi, wVar, wC, wOp, wUn, wB, wCons, wNil, wTup, wLst, wDct, wTru, wTruth, wNot, wAndT, wOrT, wAndV, wOrV, wNotV, wIfE, wChain, wCall, wCallP, wCallPF, wMake, wMakeE, wM, wSl, wPart, wNoPart, wMeth, wFldC, wFldS, wProp, wBor, wBorT, wAppend, wPopAt, wExtend, wDGet2, wLstRng, wFmt, wJoined, jCons, jNil, gN, gTupW, gCons', gNil', iL, iT, iS, iR1, iR2, iZp, iEn, dAdd, dSub, dMul, dMod, dFdiv, dPow, dLt, dLe, dGt, dGe, dNeg, dIs, dIsNot, rLenD, rTupOf, rLstOf, rMax2, rMin2, rAbs, rIntOf, rStrOf, rDivmod, startE, Ev.get, Ev.set, Ev.lend, Ev.noSlf, Slot.lend, Slot.noSlf, Slot.isL, Slot.isDK, Slot.isPurse, List.map, List.all, List.length_cons, List.length_nil, List.replicate, List.append, List.cons_append, List.nil_append, Nat.zero_add, Nat.reduceAdd, Nat.reduceSub, Nat.reduceLT, if_true, if_false, Bool.false_eq_true, Bool.not_true, Bool.not_false]; exact h2 hst s4
  | true =>
    simp only [sSeq, sRet, sRetF, sRetN, sIf, sNext, sSet, sOwn, sOwnP, sPar, sExpr, sFldI, sBreak, sCont, sDPutD, sParFF, sParEF, sParFE, sParEFF, wIsi, wVar, wC, wOp, wUn, wB, wCons, wNil, wTup, wLst, wDct, wTru, wTruth, wNot, wAndT, wOrT, wAndV, wOrV, wNotV, wIfE, wChain, wCall, wCallP, wCallPF, wMake, wMakeE, wM, wSl, wPart, wNoPart, wMeth, wFldC, wFldS, wProp, wBor, wBorT, wAppend, wPopAt, wExtend, wDGet2, wLstRng, wFmt, wJoined, jCons, jNil, gN, gTupW, gCons', gNil', iL, iT, iS, iR1, iR2, iZp, iEn, dAdd, dSub, dMul, dMod, dFdiv, dPow, dLt, dLe, dGt, dGe, dNeg, dIs, dIsNot, rLenD, rTupOf, rLstOf, rMax2, rMin2, rAbs, rIntOf, rStrOf, rDivmod, startE, Ev.get, Ev.set, Ev.lend, Ev.noSlf, Slot.lend, Slot.noSlf, Slot.isL, Slot.isDK, Slot.isPurse, List.map, List.all, List.length_cons, List.length_nil, List.replicate, List.append, List.cons_append, List.nil_append, Nat.zero_add, Nat.reduceAdd, Nat.reduceSub, Nat.reduceLT, if_true, if_false, Bool.false_eq_true, Bool.not_true, Bool.not_false]
    have h1 := h1 hst
    refine ⟨by rw [hhd]; have : (10 : Nat) ≤ sizeLine := by rw [sizeLine_eq]; decide
               omega, hs, _, rfl, _, rfl, Nat.le_trans (cutS_len _ _ _) hs, ?_⟩
    rw [hhd]
    cases hw : writtenN (cutS z (some ((m : Int) + 1)) none) with
    | none => rw [hw] at h1; simp only [optI, D.isNon, sSeq, sRet, sRetF, sRetN, sIf, sNext, sSet, sOwn, sOwnP, sPar, sExpr, sFldI, sBreak, sCont, sDPutD, sParFF, sParEF, sParFE, sParEFF, wIsi, wVar, wC, wOp, wUn, wB, wCons, wNil, wTup, wLst, wDct, wTru, wTruth, wNot, wAndT, wOrT, wAndV, wOrV, wNotV, wIfE, wChain, wCall, wCallP, wCallPF, wMake, wMakeE, wM, wSl, wPart, wNoPart, wMeth, wFldC, wFldS, wProp, wBor, wBorT, wAppend, wPopAt, wExtend, wDGet2, wLstRng, wFmt, wJoined, jCons, jNil, gN, gTupW, gCons', gNil', iL, iT, iS, iR1, iR2, iZp, iEn, dAdd, dSub, dMul, dMod, dFdiv, dPow, dLt, dLe, dGt, dGe, dNeg, dIs, dIsNot, rLenD, rTupOf, rLstOf, rMax2, rMin2, rAbs, rIntOf, rStrOf, rDivmod, startE, Ev.get, Ev.set, Ev.lend, Ev.noSlf, Slot.lend, Slot.noSlf, Slot.isL, Slot.isDK, Slot.isPurse, List.map, List.all, List.length_cons, List.length_nil, List.replicate, List.append, List.cons_append, List.nil_append, Nat.zero_add, Nat.reduceAdd, Nat.reduceSub, Nat.reduceLT, if_true, if_false, Bool.false_eq_true, Bool.not_true, Bool.not_false]; exact h1
    | some n =>
      rw [hw] at h1
      simp only [optI, D.isNon, sSeq, sRet, sRetF, sRetN, sIf, sNext, sSet, sOwn, sOwnP, sPar, sExpr, sFldI, sBreak, sCont, sDPutD, sParFF, sParEF, sParFE, sParEFF, wIsi, wVar, wC, wOp, wUn, wB, wCons, wNil, wTup, wLst, wDct, wTru, wTruth, wNot, wAndT, wOrT, wAndV, wOrV, wNotV, wIfE, wChain, wCall, wCallP, wCallPF, wMake, wMakeE, wM, wSl, wPart, wNoPart, wMeth, wFldC, wFldS, wProp, wBor, wBorT, wAppend, wPopAt, wExtend, wDGet2, wLstRng, wFmt, wJoined, jCons, jNil, gN, gTupW, gCons', gNil', iL, iT, iS, iR1, iR2, iZp, iEn, dAdd, dSub, dMul, dMod, dFdiv, dPow, dLt, dLe, dGt, dGe, dNeg, dIs, dIsNot, rLenD, rTupOf, rLstOf, rMax2, rMin2, rAbs, rIntOf, rStrOf, rDivmod, startE, Ev.get, Ev.set, Ev.lend, Ev.noSlf, Slot.lend, Slot.noSlf, Slot.isL, Slot.isDK, Slot.isPurse, List.map, List.all, List.length_cons, List.length_nil, List.replicate, List.append, List.cons_append, List.nil_append, Nat.zero_add, Nat.reduceAdd, Nat.reduceSub, Nat.reduceLT, if_true, if_false, Bool.false_eq_true, Bool.not_true, Bool.not_false, dEq_str]
      have e : f n = if sg' = "+" then n else -n := by rw [hf]
      by_cases q : sg' = "+"
      · rw [decide_eq_true q]
        rw [if_pos q] at e
        refine ⟨_, _, rfl, ?_⟩
        rw [← e]
        exact h1
      · rw [decide_eq_false q]
        rw [if_neg q] at e
        refine ⟨_, _, rfl, ?_⟩
        rw [← e]
        exact h1
theorem p_parsed_word (ds : List D) (kk : D → Prop) (kx : XC) (h : c_parsed_word ds kk kx) : (w_parsed_word kx) { nx := fun _ => kk .non, rt := fun d _ => kk d } (startE 5 ds) := by
  obtain ⟨a, rfl, z, rfl, hs, h⟩ := h
  unfold pWord at h
  unfold w_parsed_word
  refine sSeq_gen fun M hM => ?_
  simp only [sSeq, sRet, sRetF, sRetN, sIf, sNext, sSet, sOwn, sOwnP, sPar, sExpr, sFldI, sBreak, sCont, sDPutD, sParFF, sParEF, sParFE, sParEFF, wIsi, wVar, wC, wOp, wUn, wB, wCons, wNil, wTup, wLst, wDct, wTru, wTruth, wNot, wAndT, wOrT, wAndV, wOrV, wNotV, wIfE, wChain, wCall, wCallP, wCallPF, wMake, wMakeE, wM, wSl, wPart, wNoPart, wMeth, wFldC, wFldS, wProp, wBor, wBorT, wAppend, wPopAt, wExtend, wDGet2, wLstRng, wFmt, wJoined, jCons, jNil, gN, gTupW, gCons', gNil', iL, iT, iS, iR1, iR2, iZp, iEn, dAdd, dSub, dMul, dMod, dFdiv, dPow, dLt, dLe, dGt, dGe, dNeg, dIs, dIsNot, rLenD, rTupOf, rLstOf, rMax2, rMin2, rAbs, rIntOf, rStrOf, rDivmod, startE, Ev.get, Ev.set, Ev.lend, Ev.noSlf, Slot.lend, Slot.noSlf, Slot.isL, Slot.isDK, Slot.isPurse, List.map, List.all, List.length_cons, List.length_nil, List.replicate, List.append, List.cons_append, List.nil_append, Nat.zero_add, Nat.reduceAdd, Nat.reduceSub, Nat.reduceLT, if_true, if_false, Bool.false_eq_true, Bool.not_true, Bool.not_false, dIn_two, beq_str]
  refine ⟨by decide +kernel, ?_⟩
  by_cases q1 : z = "all" ∨ z = "most"
  · rw [if_pos q1] at h
    have e : (decide (z = Str.ofString "all") || (decide (z = Str.ofString "most") || false)) = true := by
      rcases q1 with q | q
      · rw [decide_eq_true q]; rfl
      · rw [decide_eq_true q]; simp
    rw [e, if_pos rfl]
    exact ⟨_, _, rfl, h⟩
  · rw [if_neg q1] at h
    have e : (decide (z = Str.ofString "all") || (decide (z = Str.ofString "most") || false)) = false := by
      rw [decide_eq_false fun q => q1 (.inl q), decide_eq_false fun q => q1 (.inr q)]; rfl
    rw [e]
    refine hM _ ?_
    refine sSeq_gen fun M2 hM2 => ?_
    refine ⟨by decide +kernel, by decide +kernel, by decide +kernel, by decide +kernel, ?_⟩
    refine forL_gen fun M3 hM3 => ?_
    refine word_turn (m := 3) (f := fun n => -n) hs la (by decide) (by decide +kernel) (by funext n; rw [if_neg (by decide +kernel)]) (fun q => ?_) fun q2 s3 => hM3 _ ?_
    · rw [if_pos q] at h; exact h
    rw [if_neg (by rw [q2]; exact Bool.false_ne_true)] at h
    refine forL_gen fun M4 hM4 => ?_
    refine word_turn (m := 4) (f := fun n => -n) hs lm (by decide) (by decide +kernel) (by funext n; rw [if_neg (by decide +kernel)]) (fun q => ?_) fun q3 s3 => hM4 _ ?_
    · rw [if_pos q] at h; exact h
    rw [if_neg (by rw [q3]; exact Bool.false_ne_true)] at h
    refine forL_gen fun M5 hM5 => ?_
    refine word_turn (m := 4) (f := fun n => n) hs lm (by decide) (by decide +kernel) (by funext n; rw [if_pos rfl]) (fun q => ?_) fun q4 s3 => hM5 _ (hM2 _ ?_)
    · rw [if_pos q] at h; exact h
    rw [if_neg (by rw [q4]; exact Bool.false_ne_true)] at h
    simp only [sSeq, sRet, sRetF, sRetN, sIf, sNext, sSet, sOwn, sOwnP, sPar, sExpr, sFldI, sBreak, sCont, sDPutD, sParFF, sParEF, sParFE, sParEFF, wIsi, wVar, wC, wOp, wUn, wB, wCons, wNil, wTup, wLst, wDct, wTru, wTruth, wNot, wAndT, wOrT, wAndV, wOrV, wNotV, wIfE, wChain, wCall, wCallP, wCallPF, wMake, wMakeE, wM, wSl, wPart, wNoPart, wMeth, wFldC, wFldS, wProp, wBor, wBorT, wAppend, wPopAt, wExtend, wDGet2, wLstRng, wFmt, wJoined, jCons, jNil, gN, gTupW, gCons', gNil', iL, iT, iS, iR1, iR2, iZp, iEn, dAdd, dSub, dMul, dMod, dFdiv, dPow, dLt, dLe, dGt, dGe, dNeg, dIs, dIsNot, rLenD, rTupOf, rLstOf, rMax2, rMin2, rAbs, rIntOf, rStrOf, rDivmod, startE, Ev.get, Ev.set, Ev.lend, Ev.noSlf, Slot.lend, Slot.noSlf, Slot.isL, Slot.isDK, Slot.isPurse, List.map, List.all, List.length_cons, List.length_nil, List.replicate, List.append, List.cons_append, List.nil_append, Nat.zero_add, Nat.reduceAdd, Nat.reduceSub, Nat.reduceLT, if_true, if_false, Bool.false_eq_true, Bool.not_true, Bool.not_false]
    refine ⟨_, rfl, _, rfl, hs, ?_⟩
    cases hw : writtenN z with
    | none => rw [hw] at h; simp only [optI, D.isNon, sSeq, sRet, sRetF, sRetN, sIf, sNext, sSet, sOwn, sOwnP, sPar, sExpr, sFldI, sBreak, sCont, sDPutD, sParFF, sParEF, sParFE, sParEFF, wIsi, wVar, wC, wOp, wUn, wB, wCons, wNil, wTup, wLst, wDct, wTru, wTruth, wNot, wAndT, wOrT, wAndV, wOrV, wNotV, wIfE, wChain, wCall, wCallP, wCallPF, wMake, wMakeE, wM, wSl, wPart, wNoPart, wMeth, wFldC, wFldS, wProp, wBor, wBorT, wAppend, wPopAt, wExtend, wDGet2, wLstRng, wFmt, wJoined, jCons, jNil, gN, gTupW, gCons', gNil', iL, iT, iS, iR1, iR2, iZp, iEn, dAdd, dSub, dMul, dMod, dFdiv, dPow, dLt, dLe, dGt, dGe, dNeg, dIs, dIsNot, rLenD, rTupOf, rLstOf, rMax2, rMin2, rAbs, rIntOf, rStrOf, rDivmod, startE, Ev.get, Ev.set, Ev.lend, Ev.noSlf, Slot.lend, Slot.noSlf, Slot.isL, Slot.isDK, Slot.isPurse, List.map, List.all, List.length_cons, List.length_nil, List.replicate, List.append, List.cons_append, List.nil_append, Nat.zero_add, Nat.reduceAdd, Nat.reduceSub, Nat.reduceLT, if_true, if_false, Bool.false_eq_true, Bool.not_true, Bool.not_false]; exact h
    | some n => rw [hw] at h; simp only [optI, D.isNon, sSeq, sRet, sRetF, sRetN, sIf, sNext, sSet, sOwn, sOwnP, sPar, sExpr, sFldI, sBreak, sCont, sDPutD, sParFF, sParEF, sParFE, sParEFF, wIsi, wVar, wC, wOp, wUn, wB, wCons, wNil, wTup, wLst, wDct, wTru, wTruth, wNot, wAndT, wOrT, wAndV, wOrV, wNotV, wIfE, wChain, wCall, wCallP, wCallPF, wMake, wMakeE, wM, wSl, wPart, wNoPart, wMeth, wFldC, wFldS, wProp, wBor, wBorT, wAppend, wPopAt, wExtend, wDGet2, wLstRng, wFmt, wJoined, jCons, jNil, gN, gTupW, gCons', gNil', iL, iT, iS, iR1, iR2, iZp, iEn, dAdd, dSub, dMul, dMod, dFdiv, dPow, dLt, dLe, dGt, dGe, dNeg, dIs, dIsNot, rLenD, rTupOf, rLstOf, rMax2, rMin2, rAbs, rIntOf, rStrOf, rDivmod, startE, Ev.get, Ev.set, Ev.lend, Ev.noSlf, Slot.lend, Slot.noSlf, Slot.isL, Slot.isDK, Slot.isPurse, List.map, List.all, List.length_cons, List.length_nil, List.replicate, List.append, List.cons_append, List.nil_append, Nat.zero_add, Nat.reduceAdd, Nat.reduceSub, Nat.reduceLT, if_true, if_false, Bool.false_eq_true, Bool.not_true, Bool.not_false]; exact ⟨_, _, rfl, h⟩
end W
set_option Elab.async false
set_option linter.all false
set_option maxRecDepth 100000
set_option maxHeartbeats 4000000
namespace W
open PySem PySem.Spec PyProof.Rows L2 Q
/-- a comprehension whose frame may change within I -/
theorem lcI {vs : List Nat} {g : WG} {we : WE} {R : D → D → Prop} (I : Ev → Prop) : ∀ (ds : List D) (ρ : Ev) (k : List D → Ev → Prop), I ρ → (∀ d ∈ ds, ∀ ρ, I ρ → ∀ kk : D → Ev → Prop, (∀ y ρ', R d y → I (ρ'.wipe vs) → kk y ρ') → g d ρ fun ρ1 => we ρ1 kk) → (∀ ys ρ', I ρ' → All2 R ds ys → k ys ρ') → lcL vs g wYes we ds ρ k
  | [], ρ, k, hI, _, hk => hk [] ρ hI trivial
  | d :: ds, ρ, k, hI, h, hk => by
    have q := h d (List.mem_cons_self ..) ρ hI (fun y ρ3 => lcL vs g wYes we ds (ρ3.wipe vs) fun ys ρ4 => k (y :: ys) ρ4) fun y ρ' hy he =>
      lcI I ds _ _ he (fun d' hd' => h d' (List.mem_cons_of_mem _ hd')) fun ys ρ4 h4 hys => hk (y :: ys) ρ4 h4 ⟨hy, hys⟩
    unfold lcL
    simpa only [wYes, if_true] using q
theorem all2_map {f : D → D} : ∀ {l m : List D}, All2 (fun d y => y = f d) l m → m = l.map f
  | [], [], _ => rfl
  | _ :: _, _ :: _, h => by rw [h.1, all2_map h.2]; rfl
  | [], _ :: _, h => h.elim
  | _ :: _, [], h => h.elim
theorem inK_strs {b : Str} : ∀ {names : List Str}, inK (.str b) (names.map D.str) = some (decide (b ∈ names))
  | [] => rfl
  | n :: r => by
    have ih := inK_strs (b := b) (names := r)
    show (match eqK (.str n) (.str b), inK (.str b) (r.map D.str) with | some b1, some b2 => some (b1 || b2) | _, _ => none) = _
    rw [ih]
    have e : eqK (.str n) (.str b) = some (n == b) := rfl
    rw [e]
    show some (_ || _) = _
    rw [beq_str]
    congr 1
    simp
def foundD (f : Fd) : D := .dK (f.map fun p => (Sum.inr p.1, wordD p.2))
theorem look_found {b : Str} : ∀ {f : Fd}, lookD (f.map fun p => (Sum.inr p.1, wordD p.2)) (Sum.inr b : Key) = (f.lookup b).map wordD
  | [] => rfl
  | (n, w) :: r => by
    have ih := look_found (b := b) (f := r)
    unfold lookD at ih ⊢
    by_cases q : n = b
    · subst q
      simp [List.lookup]
    · have q2 : (b == n) = false := beq_eq_false_iff_ne.mpr (Ne.symm q)
      have q3 : decide ((Sum.inr n : Key) = Sum.inr b) = false := decide_eq_false fun z => q (by cases z; rfl)
      simp only [List.map_cons, List.find?_cons, q3, List.lookup, q2]
      exact ih
theorem look_some {b : Str} : ∀ {f : Fd}, (f.lookup b).isSome = decide (b ∈ f.map (·.1))
  | [] => rfl
  | (n, w) :: r => by
    by_cases q : b = n
    · subst q; simp [List.lookup]
    · have q2 : (b == n) = false := beq_eq_false_iff_ne.mpr q
      simp only [List.lookup, q2]
      rw [look_some (f := r)]
      simp [q]
theorem put_found {b : Str} {w : Wd} {f : Fd} (h : b ∉ f.map (·.1)) : putDK (f.map fun p => (Sum.inr p.1, wordD p.2)) (Sum.inr b) (wordD w) = (f ++ [(b, w)]).map fun p => (Sum.inr p.1, wordD p.2) := by
  unfold putDK
  have e : ((f.map fun p => ((Sum.inr p.1 : Key), wordD p.2)).any fun kv => decide (kv.1 = Sum.inr b)) = false := by
    rw [List.any_eq_false]
    intro x hx
    obtain ⟨p, hp, rfl⟩ := List.mem_map.mp hx
    simp only [decide_eq_true_eq]
    intro z
    have z' : p.1 = b := by cases z; rfl
    exact h (List.mem_map.mpr ⟨p, hp, z'⟩)
  rw [e, if_neg Bool.false_ne_true]
  simp
theorem n_parsed_option {ds : List D} {kk : D → Prop} {kx : XC} (h : c_parsed_option ds kk kx) : ds.length = 2 := by
  obtain ⟨a, b, rfl, _⟩ := h; rfl
theorem part_pos (z y : Str) : ∃ a r, Txt.split z y = a :: r := by
  have := PyProof.Rows.split_pos z y
  cases e : Txt.split z y with
  | nil => rw [e] at this; simp at this
  | cons a r => exact ⟨a, r, rfl⟩
theorem opt_turn {z : D} {names : List Str} {kk : D → Prop} {kx : XC} {M bk ct : Ev → Prop} {rf : D → Ev → Prop} {d : Str} {found : Fd} {s3 s4 s5 : Slot} (hd : d.length + 2 ≤ sizeLine) (hf : found.length < sizeLine)
    (h0 : pDem names found d = none → kk .non) (h1 : ∀ f, pDem names found d = some f → ∀ s3 s4 s5, M [.val z, .val (namesD names), .own (foundD f), s3, s4, s5, .un]) :
    gN 3 (.str d) [.val z, .val (namesD names), .own (foundD found), s3, s4, s5, .un] fun ρ1 => (sSeq (sSet (wM "str" mSplit (wVar 3) (wCons (wC (.str " ")) wNil)) (gN 4))
    (sSeq (sSet (wCall c_parsed_word kx (wCons (wOp dIx (wVar 4) (wC (.int 0))) wNil)) (gN 5))
    (sSeq (sIf (wOrT (wTru (wOp dNe (wB rLenD (wCons (wVar 4) wNil)) (wC (.int 2)))) (wOrT (wTru (wOp dIs (wVar 5) (wC .non))) (wOrT (wTru (wOp dNotIn (wOp dIx (wVar 4) (wC (.int 1))) (wVar 1))) (wBorT (wTru (wOp dIn (wOp dIx (wVar 4) (wC (.int 1))) (wVar 2))))))) (sRet (wC .non)) sNext)
    (sDPutD 2 (wVar 5) (wOp dIx (wVar 4) (wC (.int 1))))))) ⟨M, fun d _ => kk d, bk, ct, rf⟩ ρ1 := by
  refine sSeq_gen fun M1 hM1 => ?_
  simp only [sSeq, sRet, sRetF, sRetN, sIf, sNext, sSet, sOwn, sOwnP, sPar, sExpr, sFldI, sBreak, sCont, sDPutD, sParFF, sParEF, sParFE, sParEFF, wIsi, wVar, wC, wOp, wUn, wB, wCons, wNil, wTup, wLst, wDct, wTru, wTruth, wNot, wAndT, wOrT, wAndV, wOrV, wNotV, wIfE, wChain, wCall, wCallP, wCallPF, wMake, wMakeE, wM, wSl, wPart, wNoPart, wMeth, wFldC, wFldS, wProp, wBor, wBorT, wAppend, wPopAt, wExtend, wDGet2, wLstRng, wFmt, wJoined, jCons, jNil, gN, gTupW, gCons', gNil', iL, iT, iS, iR1, iR2, iZp, iEn, dAdd, dSub, dMul, dMod, dFdiv, dPow, dLt, dLe, dGt, dGe, dNeg, dIs, dIsNot, rLenD, rTupOf, rLstOf, rMax2, rMin2, rAbs, rIntOf, rStrOf, rDivmod, startE, Ev.get, Ev.set, Ev.lend, Ev.noSlf, Slot.lend, Slot.noSlf, Slot.isL, Slot.isDK, Slot.isPurse, List.map, List.all, List.length_cons, List.length_nil, List.replicate, List.append, List.cons_append, List.nil_append, Nat.zero_add, Nat.reduceAdd, Nat.reduceSub, Nat.reduceLT, if_true, if_false, Bool.false_eq_true, Bool.not_true, Bool.not_false, D.tyOk, mSplit]
  refine ⟨by decide, ⟨by decide +kernel, hd⟩, hM1 _ ?_⟩
  obtain ⟨a, r, ea⟩ := part_pos d " "
  rw [ea]
  refine sSeq_gen fun M2 hM2 => ?_
  have ha : a.length ≤ sizeLine := Nat.le_trans (PyProof.Rows.part_short (x := d) (y := " ") (by rw [ea]; exact List.mem_cons_self ..)) (by omega)
  have e0 : atI (D.str a :: r.map D.str) (0 : Int) = some (.str a) := atI_nat (j := 0) rfl
  simp only [sSeq, sRet, sRetF, sRetN, sIf, sNext, sSet, sOwn, sOwnP, sPar, sExpr, sFldI, sBreak, sCont, sDPutD, sParFF, sParEF, sParFE, sParEFF, wIsi, wVar, wC, wOp, wUn, wB, wCons, wNil, wTup, wLst, wDct, wTru, wTruth, wNot, wAndT, wOrT, wAndV, wOrV, wNotV, wIfE, wChain, wCall, wCallP, wCallPF, wMake, wMakeE, wM, wSl, wPart, wNoPart, wMeth, wFldC, wFldS, wProp, wBor, wBorT, wAppend, wPopAt, wExtend, wDGet2, wLstRng, wFmt, wJoined, jCons, jNil, gN, gTupW, gCons', gNil', iL, iT, iS, iR1, iR2, iZp, iEn, dAdd, dSub, dMul, dMod, dFdiv, dPow, dLt, dLe, dGt, dGe, dNeg, dIs, dIsNot, rLenD, rTupOf, rLstOf, rMax2, rMin2, rAbs, rIntOf, rStrOf, rDivmod, startE, Ev.get, Ev.set, Ev.lend, Ev.noSlf, Slot.lend, Slot.noSlf, Slot.isL, Slot.isDK, Slot.isPurse, List.map, List.all, List.length_cons, List.length_nil, List.replicate, List.append, List.cons_append, List.nil_append, Nat.zero_add, Nat.reduceAdd, Nat.reduceSub, Nat.reduceLT, if_true, if_false, Bool.false_eq_true, Bool.not_true, Bool.not_false, dIx, e0]
  refine ⟨_, rfl, _, rfl, ha, hM2 _ ?_⟩
  unfold pDem at h0 h1
  rw [ea] at h0 h1
  refine sSeq_gen fun M3 hM3 => ?_
  simp only [sSeq, sRet, sRetF, sRetN, sIf, sNext, sSet, sOwn, sOwnP, sPar, sExpr, sFldI, sBreak, sCont, sDPutD, sParFF, sParEF, sParFE, sParEFF, wIsi, wVar, wC, wOp, wUn, wB, wCons, wNil, wTup, wLst, wDct, wTru, wTruth, wNot, wAndT, wOrT, wAndV, wOrV, wNotV, wIfE, wChain, wCall, wCallP, wCallPF, wMake, wMakeE, wM, wSl, wPart, wNoPart, wMeth, wFldC, wFldS, wProp, wBor, wBorT, wAppend, wPopAt, wExtend, wDGet2, wLstRng, wFmt, wJoined, jCons, jNil, gN, gTupW, gCons', gNil', iL, iT, iS, iR1, iR2, iZp, iEn, dAdd, dSub, dMul, dMod, dFdiv, dPow, dLt, dLe, dGt, dGe, dNeg, dIs, dIsNot, rLenD, rTupOf, rLstOf, rMax2, rMin2, rAbs, rIntOf, rStrOf, rDivmod, startE, Ev.get, Ev.set, Ev.lend, Ev.noSlf, Slot.lend, Slot.noSlf, Slot.isL, Slot.isDK, Slot.isPurse, List.map, List.all, List.length_cons, List.length_nil, List.replicate, List.append, List.cons_append, List.nil_append, Nat.zero_add, Nat.reduceAdd, Nat.reduceSub, Nat.reduceLT, if_true, if_false, Bool.false_eq_true, Bool.not_true, Bool.not_false, dNe_int]
  cases r with
  | nil => simp at h0 ⊢; exact h0
  | cons b r =>
    cases r with
    | cons c r =>
      have e : decide (((a :: b :: c :: r).map D.str).length = (2 : Int)) = false := by
        apply decide_eq_false
        simp only [List.length_map, List.length_cons]
        omega
      simp only [List.length_cons, List.length_map]
      have e' : (!decide ((((r.length + 1 + 1 + 1 : Nat)) : Int) = 2)) = true := by
        rw [decide_eq_false (by omega)]; rfl
      rw [e', if_pos rfl]
      exact h0 rfl
    | nil =>
      have e1 : atI [D.str a, D.str b] (1 : Int) = some (.str b) := atI_nat (j := 1) rfl
      simp only [List.map_cons, List.map_nil, List.length_cons, List.length_nil, e1, sSeq, sRet, sRetF, sRetN, sIf, sNext, sSet, sOwn, sOwnP, sPar, sExpr, sFldI, sBreak, sCont, sDPutD, sParFF, sParEF, sParFE, sParEFF, wIsi, wVar, wC, wOp, wUn, wB, wCons, wNil, wTup, wLst, wDct, wTru, wTruth, wNot, wAndT, wOrT, wAndV, wOrV, wNotV, wIfE, wChain, wCall, wCallP, wCallPF, wMake, wMakeE, wM, wSl, wPart, wNoPart, wMeth, wFldC, wFldS, wProp, wBor, wBorT, wAppend, wPopAt, wExtend, wDGet2, wLstRng, wFmt, wJoined, jCons, jNil, gN, gTupW, gCons', gNil', iL, iT, iS, iR1, iR2, iZp, iEn, dAdd, dSub, dMul, dMod, dFdiv, dPow, dLt, dLe, dGt, dGe, dNeg, dIs, dIsNot, rLenD, rTupOf, rLstOf, rMax2, rMin2, rAbs, rIntOf, rStrOf, rDivmod, startE, Ev.get, Ev.set, Ev.lend, Ev.noSlf, Slot.lend, Slot.noSlf, Slot.isL, Slot.isDK, Slot.isPurse, List.map, List.all, List.length_cons, List.length_nil, List.replicate, List.append, List.cons_append, List.nil_append, Nat.zero_add, Nat.reduceAdd, Nat.reduceSub, Nat.reduceLT, if_true, if_false, Bool.false_eq_true, Bool.not_true, Bool.not_false]
      have e2 : (!decide (((2 : Nat) : Int) = 2)) = false := by decide
      rw [e2]
      simp only [sSeq, sRet, sRetF, sRetN, sIf, sNext, sSet, sOwn, sOwnP, sPar, sExpr, sFldI, sBreak, sCont, sDPutD, sParFF, sParEF, sParFE, sParEFF, wIsi, wVar, wC, wOp, wUn, wB, wCons, wNil, wTup, wLst, wDct, wTru, wTruth, wNot, wAndT, wOrT, wAndV, wOrV, wNotV, wIfE, wChain, wCall, wCallP, wCallPF, wMake, wMakeE, wM, wSl, wPart, wNoPart, wMeth, wFldC, wFldS, wProp, wBor, wBorT, wAppend, wPopAt, wExtend, wDGet2, wLstRng, wFmt, wJoined, jCons, jNil, gN, gTupW, gCons', gNil', iL, iT, iS, iR1, iR2, iZp, iEn, dAdd, dSub, dMul, dMod, dFdiv, dPow, dLt, dLe, dGt, dGe, dNeg, dIs, dIsNot, rLenD, rTupOf, rLstOf, rMax2, rMin2, rAbs, rIntOf, rStrOf, rDivmod, startE, Ev.get, Ev.set, Ev.lend, Ev.noSlf, Slot.lend, Slot.noSlf, Slot.isL, Slot.isDK, Slot.isPurse, List.map, List.all, List.length_cons, List.length_nil, List.replicate, List.append, List.cons_append, List.nil_append, Nat.zero_add, Nat.reduceAdd, Nat.reduceSub, Nat.reduceLT, if_true, if_false, Bool.false_eq_true, Bool.not_true, Bool.not_false]
      dsimp only at h0 h1
      cases hw : pWord a with
      | none => rw [hw] at h0; simp only [optW, D.isNon, sSeq, sRet, sRetF, sRetN, sIf, sNext, sSet, sOwn, sOwnP, sPar, sExpr, sFldI, sBreak, sCont, sDPutD, sParFF, sParEF, sParFE, sParEFF, wIsi, wVar, wC, wOp, wUn, wB, wCons, wNil, wTup, wLst, wDct, wTru, wTruth, wNot, wAndT, wOrT, wAndV, wOrV, wNotV, wIfE, wChain, wCall, wCallP, wCallPF, wMake, wMakeE, wM, wSl, wPart, wNoPart, wMeth, wFldC, wFldS, wProp, wBor, wBorT, wAppend, wPopAt, wExtend, wDGet2, wLstRng, wFmt, wJoined, jCons, jNil, gN, gTupW, gCons', gNil', iL, iT, iS, iR1, iR2, iZp, iEn, dAdd, dSub, dMul, dMod, dFdiv, dPow, dLt, dLe, dGt, dGe, dNeg, dIs, dIsNot, rLenD, rTupOf, rLstOf, rMax2, rMin2, rAbs, rIntOf, rStrOf, rDivmod, startE, Ev.get, Ev.set, Ev.lend, Ev.noSlf, Slot.lend, Slot.noSlf, Slot.isL, Slot.isDK, Slot.isPurse, List.map, List.all, List.length_cons, List.length_nil, List.replicate, List.append, List.cons_append, List.nil_append, Nat.zero_add, Nat.reduceAdd, Nat.reduceSub, Nat.reduceLT, if_true, if_false, Bool.false_eq_true, Bool.not_true, Bool.not_false]; exact h0 rfl
      | some w =>
        rw [hw] at h0 h1
        simp only [optW, wordD, D.isNon, sSeq, sRet, sRetF, sRetN, sIf, sNext, sSet, sOwn, sOwnP, sPar, sExpr, sFldI, sBreak, sCont, sDPutD, sParFF, sParEF, sParFE, sParEFF, wIsi, wVar, wC, wOp, wUn, wB, wCons, wNil, wTup, wLst, wDct, wTru, wTruth, wNot, wAndT, wOrT, wAndV, wOrV, wNotV, wIfE, wChain, wCall, wCallP, wCallPF, wMake, wMakeE, wM, wSl, wPart, wNoPart, wMeth, wFldC, wFldS, wProp, wBor, wBorT, wAppend, wPopAt, wExtend, wDGet2, wLstRng, wFmt, wJoined, jCons, jNil, gN, gTupW, gCons', gNil', iL, iT, iS, iR1, iR2, iZp, iEn, dAdd, dSub, dMul, dMod, dFdiv, dPow, dLt, dLe, dGt, dGe, dNeg, dIs, dIsNot, rLenD, rTupOf, rLstOf, rMax2, rMin2, rAbs, rIntOf, rStrOf, rDivmod, startE, Ev.get, Ev.set, Ev.lend, Ev.noSlf, Slot.lend, Slot.noSlf, Slot.isL, Slot.isDK, Slot.isPurse, List.map, List.all, List.length_cons, List.length_nil, List.replicate, List.append, List.cons_append, List.nil_append, Nat.zero_add, Nat.reduceAdd, Nat.reduceSub, Nat.reduceLT, if_true, if_false, Bool.false_eq_true, Bool.not_true, Bool.not_false]
        simp only [dIx, e1, dNotIn, namesD, inK_strs]
        by_cases hb : b ∈ names
        · rw [decide_eq_true hb]
          simp only [sSeq, sRet, sRetF, sRetN, sIf, sNext, sSet, sOwn, sOwnP, sPar, sExpr, sFldI, sBreak, sCont, sDPutD, sParFF, sParEF, sParFE, sParEFF, wIsi, wVar, wC, wOp, wUn, wB, wCons, wNil, wTup, wLst, wDct, wTru, wTruth, wNot, wAndT, wOrT, wAndV, wOrV, wNotV, wIfE, wChain, wCall, wCallP, wCallPF, wMake, wMakeE, wM, wSl, wPart, wNoPart, wMeth, wFldC, wFldS, wProp, wBor, wBorT, wAppend, wPopAt, wExtend, wDGet2, wLstRng, wFmt, wJoined, jCons, jNil, gN, gTupW, gCons', gNil', iL, iT, iS, iR1, iR2, iZp, iEn, dAdd, dSub, dMul, dMod, dFdiv, dPow, dLt, dLe, dGt, dGe, dNeg, dIs, dIsNot, rLenD, rTupOf, rLstOf, rMax2, rMin2, rAbs, rIntOf, rStrOf, rDivmod, startE, Ev.get, Ev.set, Ev.lend, Ev.noSlf, Slot.lend, Slot.noSlf, Slot.isL, Slot.isDK, Slot.isPurse, List.map, List.all, List.length_cons, List.length_nil, List.replicate, List.append, List.cons_append, List.nil_append, Nat.zero_add, Nat.reduceAdd, Nat.reduceSub, Nat.reduceLT, if_true, if_false, Bool.false_eq_true, Bool.not_true, Bool.not_false, dIx, e1, namesD, foundD, dIn, keyD, look_found, look_some, Option.isSome_map, Bool.true_and, Bool.and_true]
          by_cases hb2 : b ∈ found.map (·.1)
          · rw [decide_eq_true hb2]
            refine ⟨trivial, trivial, ?_⟩
            rw [if_pos rfl]
            exact h0 (if_neg fun z => z.2 hb2)
          · rw [decide_eq_false hb2]
            refine ⟨trivial, trivial, ?_⟩
            rw [if_neg Bool.false_ne_true]
            refine hM3 _ ?_
            simp only [sSeq, sRet, sRetF, sRetN, sIf, sNext, sSet, sOwn, sOwnP, sPar, sExpr, sFldI, sBreak, sCont, sDPutD, sParFF, sParEF, sParFE, sParEFF, wIsi, wVar, wC, wOp, wUn, wB, wCons, wNil, wTup, wLst, wDct, wTru, wTruth, wNot, wAndT, wOrT, wAndV, wOrV, wNotV, wIfE, wChain, wCall, wCallP, wCallPF, wMake, wMakeE, wM, wSl, wPart, wNoPart, wMeth, wFldC, wFldS, wProp, wBor, wBorT, wAppend, wPopAt, wExtend, wDGet2, wLstRng, wFmt, wJoined, jCons, jNil, gN, gTupW, gCons', gNil', iL, iT, iS, iR1, iR2, iZp, iEn, dAdd, dSub, dMul, dMod, dFdiv, dPow, dLt, dLe, dGt, dGe, dNeg, dIs, dIsNot, rLenD, rTupOf, rLstOf, rMax2, rMin2, rAbs, rIntOf, rStrOf, rDivmod, startE, Ev.get, Ev.set, Ev.lend, Ev.noSlf, Slot.lend, Slot.noSlf, Slot.isL, Slot.isDK, Slot.isPurse, List.map, List.all, List.length_cons, List.length_nil, List.replicate, List.append, List.cons_append, List.nil_append, Nat.zero_add, Nat.reduceAdd, Nat.reduceSub, Nat.reduceLT, if_true, if_false, Bool.false_eq_true, Bool.not_true, Bool.not_false, dIx, e1, keyD]
            refine ⟨trivial, by rw [List.length_map]; exact hf, ?_⟩
            rw [show (D.ins "Word" [("head", D.str w.1), ("shift", D.int w.2)]) = wordD w from rfl, put_found hb2]
            exact h1 _ (if_pos ⟨hb, hb2⟩) _ _ _
        · rw [decide_eq_false hb]
          simp only [sSeq, sRet, sRetF, sRetN, sIf, sNext, sSet, sOwn, sOwnP, sPar, sExpr, sFldI, sBreak, sCont, sDPutD, sParFF, sParEF, sParFE, sParEFF, wIsi, wVar, wC, wOp, wUn, wB, wCons, wNil, wTup, wLst, wDct, wTru, wTruth, wNot, wAndT, wOrT, wAndV, wOrV, wNotV, wIfE, wChain, wCall, wCallP, wCallPF, wMake, wMakeE, wM, wSl, wPart, wNoPart, wMeth, wFldC, wFldS, wProp, wBor, wBorT, wAppend, wPopAt, wExtend, wDGet2, wLstRng, wFmt, wJoined, jCons, jNil, gN, gTupW, gCons', gNil', iL, iT, iS, iR1, iR2, iZp, iEn, dAdd, dSub, dMul, dMod, dFdiv, dPow, dLt, dLe, dGt, dGe, dNeg, dIs, dIsNot, rLenD, rTupOf, rLstOf, rMax2, rMin2, rAbs, rIntOf, rStrOf, rDivmod, startE, Ev.get, Ev.set, Ev.lend, Ev.noSlf, Slot.lend, Slot.noSlf, Slot.isL, Slot.isDK, Slot.isPurse, List.map, List.all, List.length_cons, List.length_nil, List.replicate, List.append, List.cons_append, List.nil_append, Nat.zero_add, Nat.reduceAdd, Nat.reduceSub, Nat.reduceLT, if_true, if_false, Bool.false_eq_true, Bool.not_true, Bool.not_false]
          exact h0 (if_neg fun z => hb z.1)
theorem opt_loop {z : D} {names : List Str} {kk : D → Prop} {kx : XC} {M : Ev → Prop} {rf : D → Ev → Prop} : ∀ (dems : List Str) (found : Fd) (s3 s4 s5 : Slot), (∀ d ∈ dems, d.length + 2 ≤ sizeLine) → found.length + dems.length ≤ sizeLine →
    (pDems names found dems = none → kk .non) → (∀ f, pDems names found dems = some f → ∀ s3 s4 s5, M [.val z, .val (namesD names), .own (foundD f), s3, s4, s5, .un]) →
    forL (gN 3) (sSeq (sSet (wM "str" mSplit (wVar 3) (wCons (wC (.str " ")) wNil)) (gN 4))
    (sSeq (sSet (wCall c_parsed_word kx (wCons (wOp dIx (wVar 4) (wC (.int 0))) wNil)) (gN 5))
    (sSeq (sIf (wOrT (wTru (wOp dNe (wB rLenD (wCons (wVar 4) wNil)) (wC (.int 2)))) (wOrT (wTru (wOp dIs (wVar 5) (wC .non))) (wOrT (wTru (wOp dNotIn (wOp dIx (wVar 4) (wC (.int 1))) (wVar 1))) (wBorT (wTru (wOp dIn (wOp dIx (wVar 4) (wC (.int 1))) (wVar 2))))))) (sRet (wC .non)) sNext)
    (sDPutD 2 (wVar 5) (wOp dIx (wVar 4) (wC (.int 1))))))) ⟨M, fun d _ => kk d, fun _ => False, fun _ => False, rf⟩ (dems.map D.str) [.val z, .val (namesD names), .own (foundD found), s3, s4, s5, .un]
  | [], found, s3, s4, s5, _, _, h0, h1 => h1 found rfl s3 s4 s5
  | d :: r, found, s3, s4, s5, hd, hz, h0, h1 => by
    refine forL_gen fun M1 hM1 => ?_
    simp only [List.length_cons] at hz
    refine opt_turn (hd d (List.mem_cons_self ..)) (by omega) (fun q => h0 ?_) fun f q s3 s4 s5 => hM1 _ ?_
    · show (match pDem names found d with | none => none | some f => pDems names f r) = none
      rw [q]
    · have e : pDems names found (d :: r) = pDems names f r := by
        show (match pDem names found d with | none => none | some f => pDems names f r) = _
        rw [q]
      have hl : f.length ≤ found.length + 1 := by
        unfold pDem at q
        split at q
        · split at q
          · cases q
          · split at q
            · cases q; simp
            · cases q
        · cases q
      exact opt_loop r f s3 s4 s5 (fun d hd' => hd d (List.mem_cons_of_mem _ hd')) (by omega) (fun q => h0 (e.trans q)) fun f' q' => h1 f' (e.trans q')
theorem p_parsed_option (ds : List D) (kk : D → Prop) (kx : XC) (h : c_parsed_option ds kk kx) : (w_parsed_option kx) { nx := fun _ => kk .non, rt := fun d _ => kk d } (startE 7 ds) := by
  obtain ⟨a, b, rfl, hok, names, rfl, hn, h⟩ := h
  have ht := ok_ty hok
  unfold w_parsed_option
  refine sSeq_gen fun M hM => ?_
  simp only [sSeq, sRet, sRetF, sRetN, sIf, sNext, sSet, sOwn, sOwnP, sPar, sExpr, sFldI, sBreak, sCont, sDPutD, sParFF, sParEF, sParFE, sParEFF, wIsi, wVar, wC, wOp, wUn, wB, wCons, wNil, wTup, wLst, wDct, wTru, wTruth, wNot, wAndT, wOrT, wAndV, wOrV, wNotV, wIfE, wChain, wCall, wCallP, wCallPF, wMake, wMakeE, wM, wSl, wPart, wNoPart, wMeth, wFldC, wFldS, wProp, wBor, wBorT, wAppend, wPopAt, wExtend, wDGet2, wLstRng, wFmt, wJoined, jCons, jNil, gN, gTupW, gCons', gNil', iL, iT, iS, iR1, iR2, iZp, iEn, dAdd, dSub, dMul, dMod, dFdiv, dPow, dLt, dLe, dGt, dGe, dNeg, dIs, dIsNot, rLenD, rTupOf, rLstOf, rMax2, rMin2, rAbs, rIntOf, rStrOf, rDivmod, startE, Ev.get, Ev.set, Ev.lend, Ev.noSlf, Slot.lend, Slot.noSlf, Slot.isL, Slot.isDK, Slot.isPurse, List.map, List.all, List.length_cons, List.length_nil, List.replicate, List.append, List.cons_append, List.nil_append, Nat.zero_add, Nat.reduceAdd, Nat.reduceSub, Nat.reduceLT, if_true, if_false, Bool.false_eq_true, Bool.not_true, Bool.not_false, isa_str ht]
  cases a with
  | str z =>
    simp only [D.isStr, sSeq, sRet, sRetF, sRetN, sIf, sNext, sSet, sOwn, sOwnP, sPar, sExpr, sFldI, sBreak, sCont, sDPutD, sParFF, sParEF, sParFE, sParEFF, wIsi, wVar, wC, wOp, wUn, wB, wCons, wNil, wTup, wLst, wDct, wTru, wTruth, wNot, wAndT, wOrT, wAndV, wOrV, wNotV, wIfE, wChain, wCall, wCallP, wCallPF, wMake, wMakeE, wM, wSl, wPart, wNoPart, wMeth, wFldC, wFldS, wProp, wBor, wBorT, wAppend, wPopAt, wExtend, wDGet2, wLstRng, wFmt, wJoined, jCons, jNil, gN, gTupW, gCons', gNil', iL, iT, iS, iR1, iR2, iZp, iEn, dAdd, dSub, dMul, dMod, dFdiv, dPow, dLt, dLe, dGt, dGe, dNeg, dIs, dIsNot, rLenD, rTupOf, rLstOf, rMax2, rMin2, rAbs, rIntOf, rStrOf, rDivmod, startE, Ev.get, Ev.set, Ev.lend, Ev.noSlf, Slot.lend, Slot.noSlf, Slot.isL, Slot.isDK, Slot.isPurse, List.map, List.all, List.length_cons, List.length_nil, List.replicate, List.append, List.cons_append, List.nil_append, Nat.zero_add, Nat.reduceAdd, Nat.reduceSub, Nat.reduceLT, if_true, if_false, Bool.false_eq_true, Bool.not_true, Bool.not_false]
    have hz : z.length + 2 ≤ sizeLine := by simpa [D.ok] using hok
    refine hM _ (sSeq_gen fun M1 hM1 => ?_)
    simp only [sSeq, sRet, sRetF, sRetN, sIf, sNext, sSet, sOwn, sOwnP, sPar, sExpr, sFldI, sBreak, sCont, sDPutD, sParFF, sParEF, sParFE, sParEFF, wIsi, wVar, wC, wOp, wUn, wB, wCons, wNil, wTup, wLst, wDct, wTru, wTruth, wNot, wAndT, wOrT, wAndV, wOrV, wNotV, wIfE, wChain, wCall, wCallP, wCallPF, wMake, wMakeE, wM, wSl, wPart, wNoPart, wMeth, wFldC, wFldS, wProp, wBor, wBorT, wAppend, wPopAt, wExtend, wDGet2, wLstRng, wFmt, wJoined, jCons, jNil, gN, gTupW, gCons', gNil', iL, iT, iS, iR1, iR2, iZp, iEn, dAdd, dSub, dMul, dMod, dFdiv, dPow, dLt, dLe, dGt, dGe, dNeg, dIs, dIsNot, rLenD, rTupOf, rLstOf, rMax2, rMin2, rAbs, rIntOf, rStrOf, rDivmod, startE, Ev.get, Ev.set, Ev.lend, Ev.noSlf, Slot.lend, Slot.noSlf, Slot.isL, Slot.isDK, Slot.isPurse, List.map, List.all, List.length_cons, List.length_nil, List.replicate, List.append, List.cons_append, List.nil_append, Nat.zero_add, Nat.reduceAdd, Nat.reduceSub, Nat.reduceLT, if_true, if_false, Bool.false_eq_true, Bool.not_true, Bool.not_false]
    refine ⟨by decide, hM1 _ (sSeq_gen fun M2 hM2 => ?_)⟩
    simp only [sSeq, sRet, sRetF, sRetN, sIf, sNext, sSet, sOwn, sOwnP, sPar, sExpr, sFldI, sBreak, sCont, sDPutD, sParFF, sParEF, sParFE, sParEFF, wIsi, wVar, wC, wOp, wUn, wB, wCons, wNil, wTup, wLst, wDct, wTru, wTruth, wNot, wAndT, wOrT, wAndV, wOrV, wNotV, wIfE, wChain, wCall, wCallP, wCallPF, wMake, wMakeE, wM, wSl, wPart, wNoPart, wMeth, wFldC, wFldS, wProp, wBor, wBorT, wAppend, wPopAt, wExtend, wDGet2, wLstRng, wFmt, wJoined, jCons, jNil, gN, gTupW, gCons', gNil', iL, iT, iS, iR1, iR2, iZp, iEn, dAdd, dSub, dMul, dMod, dFdiv, dPow, dLt, dLe, dGt, dGe, dNeg, dIs, dIsNot, rLenD, rTupOf, rLstOf, rMax2, rMin2, rAbs, rIntOf, rStrOf, rDivmod, startE, Ev.get, Ev.set, Ev.lend, Ev.noSlf, Slot.lend, Slot.noSlf, Slot.isL, Slot.isDK, Slot.isPurse, List.map, List.all, List.length_cons, List.length_nil, List.replicate, List.append, List.cons_append, List.nil_append, Nat.zero_add, Nat.reduceAdd, Nat.reduceSub, Nat.reduceLT, if_true, if_false, Bool.false_eq_true, Bool.not_true, Bool.not_false, sFor, D.tyOk, mSplit]
    refine ⟨by decide, ⟨by decide +kernel, hz⟩, ?_⟩
    have h : kk (optO ((pDems names [] (Txt.split z ", ")).map (fill names))) := h
    refine opt_loop (z := .str z) (names := names) (Txt.split z ", ") [] .un .un .un (fun d hd => ?_) ?_ (fun q => ?_) (fun f q s3 s4 s5 => hM2 _ ?_)
    · have := PyProof.Rows.part_short hd
      omega
    · have := PyProof.Rows.split_le z ", "
      simp only [List.length_nil]; omega
    · rw [q] at h; exact h
    · rw [q] at h
      simp only [sSeq, sRet, sRetF, sRetN, sIf, sNext, sSet, sOwn, sOwnP, sPar, sExpr, sFldI, sBreak, sCont, sDPutD, sParFF, sParEF, sParFE, sParEFF, wIsi, wVar, wC, wOp, wUn, wB, wCons, wNil, wTup, wLst, wDct, wTru, wTruth, wNot, wAndT, wOrT, wAndV, wOrV, wNotV, wIfE, wChain, wCall, wCallP, wCallPF, wMake, wMakeE, wM, wSl, wPart, wNoPart, wMeth, wFldC, wFldS, wProp, wBor, wBorT, wAppend, wPopAt, wExtend, wDGet2, wLstRng, wFmt, wJoined, jCons, jNil, gN, gTupW, gCons', gNil', iL, iT, iS, iR1, iR2, iZp, iEn, dAdd, dSub, dMul, dMod, dFdiv, dPow, dLt, dLe, dGt, dGe, dNeg, dIs, dIsNot, rLenD, rTupOf, rLstOf, rMax2, rMin2, rAbs, rIntOf, rStrOf, rDivmod, startE, Ev.get, Ev.set, Ev.lend, Ev.noSlf, Slot.lend, Slot.noSlf, Slot.isL, Slot.isDK, Slot.isPurse, List.map, List.all, List.length_cons, List.length_nil, List.replicate, List.append, List.cons_append, List.nil_append, Nat.zero_add, Nat.reduceAdd, Nat.reduceSub, Nat.reduceLT, if_true, if_false, Bool.false_eq_true, Bool.not_true, Bool.not_false]
      refine ⟨by simpa using hn, ?_⟩
      refine lcI (R := fun d y => y = match d with | .str n => wordD ((f.lookup n).getD ("number", 0)) | _ => .non) (fun ρ => ∃ s, (s = .own (foundD f) ∨ s = .val (foundD f)) ∧ ρ = [.val (.str z), .val (namesD names), s, s3, s4, s5, .un]) _ _ _ ⟨_, .inl rfl, rfl⟩ ?_ ?_
      · rintro d hd ρ ⟨s, hs, rfl⟩ kk2 hk
        obtain ⟨n, hn2, rfl⟩ := List.mem_map.mp hd
        have fin : ∀ s5', kk2 ((lookD (f.map fun p => ((Sum.inr p.1 : Key), wordD p.2)) (Sum.inr n)).getD (wordD ("number", 0))) [.val (.str z), .val (namesD names), .val (foundD f), s3, s4, s5, s5'] := fun s5' => by
          rw [look_found]
          refine hk _ _ ?_ ⟨.val (foundD f), .inr rfl, rfl⟩
          show _ = wordD ((f.lookup n).getD ("number", 0))
          cases hl : f.lookup n <;> rfl
        rcases hs with rfl | rfl
        · simp only [sSeq, sRet, sRetF, sRetN, sIf, sNext, sSet, sOwn, sOwnP, sPar, sExpr, sFldI, sBreak, sCont, sDPutD, sParFF, sParEF, sParFE, sParEFF, wIsi, wVar, wC, wOp, wUn, wB, wCons, wNil, wTup, wLst, wDct, wTru, wTruth, wNot, wAndT, wOrT, wAndV, wOrV, wNotV, wIfE, wChain, wCall, wCallP, wCallPF, wMake, wMakeE, wM, wSl, wPart, wNoPart, wMeth, wFldC, wFldS, wProp, wBor, wBorT, wAppend, wPopAt, wExtend, wDGet2, wLstRng, wFmt, wJoined, jCons, jNil, gN, gTupW, gCons', gNil', iL, iT, iS, iR1, iR2, iZp, iEn, dAdd, dSub, dMul, dMod, dFdiv, dPow, dLt, dLe, dGt, dGe, dNeg, dIs, dIsNot, rLenD, rTupOf, rLstOf, rMax2, rMin2, rAbs, rIntOf, rStrOf, rDivmod, startE, Ev.get, Ev.set, Ev.lend, Ev.noSlf, Slot.lend, Slot.noSlf, Slot.isL, Slot.isDK, Slot.isPurse, List.map, List.all, List.length_cons, List.length_nil, List.replicate, List.append, List.cons_append, List.nil_append, Nat.zero_add, Nat.reduceAdd, Nat.reduceSub, Nat.reduceLT, if_true, if_false, Bool.false_eq_true, Bool.not_true, Bool.not_false, foundD, keyD]
          exact ⟨_, _, rfl, fin _⟩
        · simp only [sSeq, sRet, sRetF, sRetN, sIf, sNext, sSet, sOwn, sOwnP, sPar, sExpr, sFldI, sBreak, sCont, sDPutD, sParFF, sParEF, sParFE, sParEFF, wIsi, wVar, wC, wOp, wUn, wB, wCons, wNil, wTup, wLst, wDct, wTru, wTruth, wNot, wAndT, wOrT, wAndV, wOrV, wNotV, wIfE, wChain, wCall, wCallP, wCallPF, wMake, wMakeE, wM, wSl, wPart, wNoPart, wMeth, wFldC, wFldS, wProp, wBor, wBorT, wAppend, wPopAt, wExtend, wDGet2, wLstRng, wFmt, wJoined, jCons, jNil, gN, gTupW, gCons', gNil', iL, iT, iS, iR1, iR2, iZp, iEn, dAdd, dSub, dMul, dMod, dFdiv, dPow, dLt, dLe, dGt, dGe, dNeg, dIs, dIsNot, rLenD, rTupOf, rLstOf, rMax2, rMin2, rAbs, rIntOf, rStrOf, rDivmod, startE, Ev.get, Ev.set, Ev.lend, Ev.noSlf, Slot.lend, Slot.noSlf, Slot.isL, Slot.isDK, Slot.isPurse, List.map, List.all, List.length_cons, List.length_nil, List.replicate, List.append, List.cons_append, List.nil_append, Nat.zero_add, Nat.reduceAdd, Nat.reduceSub, Nat.reduceLT, if_true, if_false, Bool.false_eq_true, Bool.not_true, Bool.not_false, foundD, keyD]
          exact ⟨_, _, rfl, fin _⟩
      · rintro ys ρ' _ hys
        have e := all2_map hys
        subst e
        simp only [sSeq, sRet, sRetF, sRetN, sIf, sNext, sSet, sOwn, sOwnP, sPar, sExpr, sFldI, sBreak, sCont, sDPutD, sParFF, sParEF, sParFE, sParEFF, wIsi, wVar, wC, wOp, wUn, wB, wCons, wNil, wTup, wLst, wDct, wTru, wTruth, wNot, wAndT, wOrT, wAndV, wOrV, wNotV, wIfE, wChain, wCall, wCallP, wCallPF, wMake, wMakeE, wM, wSl, wPart, wNoPart, wMeth, wFldC, wFldS, wProp, wBor, wBorT, wAppend, wPopAt, wExtend, wDGet2, wLstRng, wFmt, wJoined, jCons, jNil, gN, gTupW, gCons', gNil', iL, iT, iS, iR1, iR2, iZp, iEn, dAdd, dSub, dMul, dMod, dFdiv, dPow, dLt, dLe, dGt, dGe, dNeg, dIs, dIsNot, rLenD, rTupOf, rLstOf, rMax2, rMin2, rAbs, rIntOf, rStrOf, rDivmod, startE, Ev.get, Ev.set, Ev.lend, Ev.noSlf, Slot.lend, Slot.noSlf, Slot.isL, Slot.isDK, Slot.isPurse, List.map, List.all, List.length_cons, List.length_nil, List.replicate, List.append, List.cons_append, List.nil_append, Nat.zero_add, Nat.reduceAdd, Nat.reduceSub, Nat.reduceLT, if_true, if_false, Bool.false_eq_true, Bool.not_true, Bool.not_false, rTupOf]
        have e2 : (names.map D.str).map (fun d => match d with | .str n => wordD ((f.lookup n).getD ("number", 0)) | _ => .non) = (fill names f).map wordD := by
          simp [fill, Function.comp_def]
        rw [e2]
        exact h
  | ins c fs => exact absurd rfl ht
  | _ => simp only [D.isStr, sSeq, sRet, sRetF, sRetN, sIf, sNext, sSet, sOwn, sOwnP, sPar, sExpr, sFldI, sBreak, sCont, sDPutD, sParFF, sParEF, sParFE, sParEFF, wIsi, wVar, wC, wOp, wUn, wB, wCons, wNil, wTup, wLst, wDct, wTru, wTruth, wNot, wAndT, wOrT, wAndV, wOrV, wNotV, wIfE, wChain, wCall, wCallP, wCallPF, wMake, wMakeE, wM, wSl, wPart, wNoPart, wMeth, wFldC, wFldS, wProp, wBor, wBorT, wAppend, wPopAt, wExtend, wDGet2, wLstRng, wFmt, wJoined, jCons, jNil, gN, gTupW, gCons', gNil', iL, iT, iS, iR1, iR2, iZp, iEn, dAdd, dSub, dMul, dMod, dFdiv, dPow, dLt, dLe, dGt, dGe, dNeg, dIs, dIsNot, rLenD, rTupOf, rLstOf, rMax2, rMin2, rAbs, rIntOf, rStrOf, rDivmod, startE, Ev.get, Ev.set, Ev.lend, Ev.noSlf, Slot.lend, Slot.noSlf, Slot.isL, Slot.isDK, Slot.isPurse, List.map, List.all, List.length_cons, List.length_nil, List.replicate, List.append, List.cons_append, List.nil_append, Nat.zero_add, Nat.reduceAdd, Nat.reduceSub, Nat.reduceLT, if_true, if_false, Bool.false_eq_true, Bool.not_true, Bool.not_false]; exact h
end W
set_option Elab.async false
set_option linter.all false
set_option maxRecDepth 100000
set_option maxHeartbeats 4000000
namespace W
open PySem PySem.Spec PyProof.Rows L2 Q
theorem n_is_lot {ds : List D} {kk : D → Prop} {kx : XC} (h : c_is_lot ds kk kx) : ds.length = 2 := by
  obtain ⟨a, b, rfl, _⟩ := h; rfl
theorem nameD_str {d : D} (h : nameD d = true) : ∃ z, d = .str z := by
  cases d <;> first | exact ⟨_, rfl⟩ | cases h
theorem okL3 {x y z : D} (h : D.ok (.tup [x, y, z]) = true) : D.ok x = true ∧ D.ok y = true ∧ D.ok z = true := by
  have q : (D.ok x && (D.ok y && (D.ok z && true))) = true := h
  simp only [Bool.and_eq_true] at q
  exact ⟨q.1, q.2.1, q.2.2.1⟩
theorem p_is_lot (ds : List D) (kk : D → Prop) (kx : XC) (h : c_is_lot ds kk kx) : (w_is_lot kx) { nx := fun _ => kk .non, rt := fun d _ => kk d } (startE 2 ds) := by
  obtain ⟨a, b, rfl, hok, taken, rfl, h⟩ := h
  have ht := ok_ty hok
  unfold w_is_lot
  refine sSeq_gen fun M hM => ?_
  simp only [sSeq, sRet, sRetF, sRetN, sIf, sNext, sSet, sOwn, sOwnP, sPar, sExpr, sFldI, sBreak, sCont, sDPutD, sParFF, sParEF, sParFE, sParEFF, wIsi, wVar, wC, wOp, wUn, wB, wCons, wNil, wTup, wLst, wDct, wTru, wTruth, wNot, wAndT, wOrT, wAndV, wOrV, wNotV, wIfE, wChain, wCall, wCallP, wCallPF, wMake, wMakeE, wM, wSl, wPart, wNoPart, wMeth, wFldC, wFldS, wProp, wBor, wBorT, wAppend, wPopAt, wExtend, wDGet2, wLstRng, wFmt, wJoined, jCons, jNil, gN, gTupW, gCons', gNil', iL, iT, iS, iR1, iR2, iZp, iEn, dAdd, dSub, dMul, dMod, dFdiv, dPow, dLt, dLe, dGt, dGe, dNeg, dIs, dIsNot, rLenD, rTupOf, rLstOf, rMax2, rMin2, rAbs, rIntOf, rStrOf, rDivmod, startE, Ev.get, Ev.set, Ev.lend, Ev.noSlf, Slot.lend, Slot.noSlf, Slot.isL, Slot.isDK, Slot.isPurse, List.map, List.all, List.length_cons, List.length_nil, List.replicate, List.append, List.cons_append, List.nil_append, Nat.zero_add, Nat.reduceAdd, Nat.reduceSub, Nat.reduceLT, if_true, if_false, Bool.false_eq_true, Bool.not_true, Bool.not_false, isa_tuple ht]
  cases a with
  | tup xs =>
    simp only [D.isTup, sSeq, sRet, sRetF, sRetN, sIf, sNext, sSet, sOwn, sOwnP, sPar, sExpr, sFldI, sBreak, sCont, sDPutD, sParFF, sParEF, sParFE, sParEFF, wIsi, wVar, wC, wOp, wUn, wB, wCons, wNil, wTup, wLst, wDct, wTru, wTruth, wNot, wAndT, wOrT, wAndV, wOrV, wNotV, wIfE, wChain, wCall, wCallP, wCallPF, wMake, wMakeE, wM, wSl, wPart, wNoPart, wMeth, wFldC, wFldS, wProp, wBor, wBorT, wAppend, wPopAt, wExtend, wDGet2, wLstRng, wFmt, wJoined, jCons, jNil, gN, gTupW, gCons', gNil', iL, iT, iS, iR1, iR2, iZp, iEn, dAdd, dSub, dMul, dMod, dFdiv, dPow, dLt, dLe, dGt, dGe, dNeg, dIs, dIsNot, rLenD, rTupOf, rLstOf, rMax2, rMin2, rAbs, rIntOf, rStrOf, rDivmod, startE, Ev.get, Ev.set, Ev.lend, Ev.noSlf, Slot.lend, Slot.noSlf, Slot.isL, Slot.isDK, Slot.isPurse, List.map, List.all, List.length_cons, List.length_nil, List.replicate, List.append, List.cons_append, List.nil_append, Nat.zero_add, Nat.reduceAdd, Nat.reduceSub, Nat.reduceLT, if_true, if_false, Bool.false_eq_true, Bool.not_true, Bool.not_false, dNe_int]
    by_cases hl : ¬ xs.length = 3
    · rw [if_pos (show (!decide ((xs.length : Int) = 3)) = true by rw [decide_eq_false (by omega)]; rfl)]
      have e : lotB taken (.tup xs) = false := by
        match xs, hl with
        | [], _ => rfl
        | [a], _ => cases a <;> rfl
        | [a, _], _ => cases a <;> rfl
        | [_, _, _], hl => exact absurd rfl hl
        | a :: _ :: _ :: _ :: _, _ => cases a <;> rfl
      rw [e] at h
      exact h
    have hl := Classical.not_not.mp hl
    rw [if_neg (show ¬ (!decide ((xs.length : Int) = 3)) = true by rw [decide_eq_true (by omega)]; exact Bool.false_ne_true)]
    match xs, hok, h, hl with
    | [x, y, z], hok, h, _ =>
      obtain ⟨hx, hy, hz⟩ := okL3 hok
      have e0 : atI [x, y, z] (0 : Int) = some x := atI_nat (j := 0) rfl
      have e1 : atI [x, y, z] (1 : Int) = some y := atI_nat (j := 1) rfl
      have e2 : atI [x, y, z] (2 : Int) = some z := atI_nat (j := 2) rfl
      simp only [dIx, e0, e1, e2, sSeq, sRet, sRetF, sRetN, sIf, sNext, sSet, sOwn, sOwnP, sPar, sExpr, sFldI, sBreak, sCont, sDPutD, sParFF, sParEF, sParFE, sParEFF, wIsi, wVar, wC, wOp, wUn, wB, wCons, wNil, wTup, wLst, wDct, wTru, wTruth, wNot, wAndT, wOrT, wAndV, wOrV, wNotV, wIfE, wChain, wCall, wCallP, wCallPF, wMake, wMakeE, wM, wSl, wPart, wNoPart, wMeth, wFldC, wFldS, wProp, wBor, wBorT, wAppend, wPopAt, wExtend, wDGet2, wLstRng, wFmt, wJoined, jCons, jNil, gN, gTupW, gCons', gNil', iL, iT, iS, iR1, iR2, iZp, iEn, dAdd, dSub, dMul, dMod, dFdiv, dPow, dLt, dLe, dGt, dGe, dNeg, dIs, dIsNot, rLenD, rTupOf, rLstOf, rMax2, rMin2, rAbs, rIntOf, rStrOf, rDivmod, startE, Ev.get, Ev.set, Ev.lend, Ev.noSlf, Slot.lend, Slot.noSlf, Slot.isL, Slot.isDK, Slot.isPurse, List.map, List.all, List.length_cons, List.length_nil, List.replicate, List.append, List.cons_append, List.nil_append, Nat.zero_add, Nat.reduceAdd, Nat.reduceSub, Nat.reduceLT, if_true, if_false, Bool.false_eq_true, Bool.not_true, Bool.not_false]
      refine ⟨_, rfl, ok_ty hx, ok_small hx, ?_⟩
      simp only [sSeq, sRet, sRetF, sRetN, sIf, sNext, sSet, sOwn, sOwnP, sPar, sExpr, sFldI, sBreak, sCont, sDPutD, sParFF, sParEF, sParFE, sParEFF, wIsi, wVar, wC, wOp, wUn, wB, wCons, wNil, wTup, wLst, wDct, wTru, wTruth, wNot, wAndT, wOrT, wAndV, wOrV, wNotV, wIfE, wChain, wCall, wCallP, wCallPF, wMake, wMakeE, wM, wSl, wPart, wNoPart, wMeth, wFldC, wFldS, wProp, wBor, wBorT, wAppend, wPopAt, wExtend, wDGet2, wLstRng, wFmt, wJoined, jCons, jNil, gN, gTupW, gCons', gNil', iL, iT, iS, iR1, iR2, iZp, iEn, dAdd, dSub, dMul, dMod, dFdiv, dPow, dLt, dLe, dGt, dGe, dNeg, dIs, dIsNot, rLenD, rTupOf, rLstOf, rMax2, rMin2, rAbs, rIntOf, rStrOf, rDivmod, startE, Ev.get, Ev.set, Ev.lend, Ev.noSlf, Slot.lend, Slot.noSlf, Slot.isL, Slot.isDK, Slot.isPurse, List.map, List.all, List.length_cons, List.length_nil, List.replicate, List.append, List.cons_append, List.nil_append, Nat.zero_add, Nat.reduceAdd, Nat.reduceSub, Nat.reduceLT, if_true, if_false, Bool.false_eq_true, Bool.not_true, Bool.not_false]
      cases hn : nameD x with
      | false =>
        simp only [sSeq, sRet, sRetF, sRetN, sIf, sNext, sSet, sOwn, sOwnP, sPar, sExpr, sFldI, sBreak, sCont, sDPutD, sParFF, sParEF, sParFE, sParEFF, wIsi, wVar, wC, wOp, wUn, wB, wCons, wNil, wTup, wLst, wDct, wTru, wTruth, wNot, wAndT, wOrT, wAndV, wOrV, wNotV, wIfE, wChain, wCall, wCallP, wCallPF, wMake, wMakeE, wM, wSl, wPart, wNoPart, wMeth, wFldC, wFldS, wProp, wBor, wBorT, wAppend, wPopAt, wExtend, wDGet2, wLstRng, wFmt, wJoined, jCons, jNil, gN, gTupW, gCons', gNil', iL, iT, iS, iR1, iR2, iZp, iEn, dAdd, dSub, dMul, dMod, dFdiv, dPow, dLt, dLe, dGt, dGe, dNeg, dIs, dIsNot, rLenD, rTupOf, rLstOf, rMax2, rMin2, rAbs, rIntOf, rStrOf, rDivmod, startE, Ev.get, Ev.set, Ev.lend, Ev.noSlf, Slot.lend, Slot.noSlf, Slot.isL, Slot.isDK, Slot.isPurse, List.map, List.all, List.length_cons, List.length_nil, List.replicate, List.append, List.cons_append, List.nil_append, Nat.zero_add, Nat.reduceAdd, Nat.reduceSub, Nat.reduceLT, if_true, if_false, Bool.false_eq_true, Bool.not_true, Bool.not_false]
        have e : lotB taken (.tup [x, y, z]) = false := by
          cases x with
          | str zz => have hn : nameB zz = false := hn
                      show (nameB zz && !decide (zz ∈ taken) && intIn 1 1000000000000 y && endOk y z) = false
                      rw [hn]; rfl
          | _ => rfl
        rw [e] at h; exact h
      | true =>
        obtain ⟨zz, rfl⟩ := nameD_str hn
        have hn : nameB zz = true := hn
        have eL : lotB taken (.tup [.str zz, y, z]) = (nameB zz && !decide (zz ∈ taken) && intIn 1 1000000000000 y && endOk y z) := rfl
        rw [eL, hn] at h
        simp only [sSeq, sRet, sRetF, sRetN, sIf, sNext, sSet, sOwn, sOwnP, sPar, sExpr, sFldI, sBreak, sCont, sDPutD, sParFF, sParEF, sParFE, sParEFF, wIsi, wVar, wC, wOp, wUn, wB, wCons, wNil, wTup, wLst, wDct, wTru, wTruth, wNot, wAndT, wOrT, wAndV, wOrV, wNotV, wIfE, wChain, wCall, wCallP, wCallPF, wMake, wMakeE, wM, wSl, wPart, wNoPart, wMeth, wFldC, wFldS, wProp, wBor, wBorT, wAppend, wPopAt, wExtend, wDGet2, wLstRng, wFmt, wJoined, jCons, jNil, gN, gTupW, gCons', gNil', iL, iT, iS, iR1, iR2, iZp, iEn, dAdd, dSub, dMul, dMod, dFdiv, dPow, dLt, dLe, dGt, dGe, dNeg, dIs, dIsNot, rLenD, rTupOf, rLstOf, rMax2, rMin2, rAbs, rIntOf, rStrOf, rDivmod, startE, Ev.get, Ev.set, Ev.lend, Ev.noSlf, Slot.lend, Slot.noSlf, Slot.isL, Slot.isDK, Slot.isPurse, List.map, List.all, List.length_cons, List.length_nil, List.replicate, List.append, List.cons_append, List.nil_append, Nat.zero_add, Nat.reduceAdd, Nat.reduceSub, Nat.reduceLT, if_true, if_false, Bool.false_eq_true, Bool.not_true, Bool.not_false, dIn, namesD, inK_strs]
        by_cases ht2 : zz ∈ taken
        · rw [decide_eq_true ht2] at h ⊢
          rw [if_pos rfl]
          exact h
        · rw [decide_eq_false ht2] at h ⊢
          rw [if_neg Bool.false_ne_true]
          refine hM _ (sSeq_gen fun M2 hM2 => ?_)
          simp only [sSeq, sRet, sRetF, sRetN, sIf, sNext, sSet, sOwn, sOwnP, sPar, sExpr, sFldI, sBreak, sCont, sDPutD, sParFF, sParEF, sParFE, sParEFF, wIsi, wVar, wC, wOp, wUn, wB, wCons, wNil, wTup, wLst, wDct, wTru, wTruth, wNot, wAndT, wOrT, wAndV, wOrV, wNotV, wIfE, wChain, wCall, wCallP, wCallPF, wMake, wMakeE, wM, wSl, wPart, wNoPart, wMeth, wFldC, wFldS, wProp, wBor, wBorT, wAppend, wPopAt, wExtend, wDGet2, wLstRng, wFmt, wJoined, jCons, jNil, gN, gTupW, gCons', gNil', iL, iT, iS, iR1, iR2, iZp, iEn, dAdd, dSub, dMul, dMod, dFdiv, dPow, dLt, dLe, dGt, dGe, dNeg, dIs, dIsNot, rLenD, rTupOf, rLstOf, rMax2, rMin2, rAbs, rIntOf, rStrOf, rDivmod, startE, Ev.get, Ev.set, Ev.lend, Ev.noSlf, Slot.lend, Slot.noSlf, Slot.isL, Slot.isDK, Slot.isPurse, List.map, List.all, List.length_cons, List.length_nil, List.replicate, List.append, List.cons_append, List.nil_append, Nat.zero_add, Nat.reduceAdd, Nat.reduceSub, Nat.reduceLT, if_true, if_false, Bool.false_eq_true, Bool.not_true, Bool.not_false, dIx, e1, e2]
          refine ⟨_, rfl, ok_ty hy, ?_⟩
          cases y with
          | int i =>
            simp only [D.isInt, sSeq, sRet, sRetF, sRetN, sIf, sNext, sSet, sOwn, sOwnP, sPar, sExpr, sFldI, sBreak, sCont, sDPutD, sParFF, sParEF, sParFE, sParEFF, wIsi, wVar, wC, wOp, wUn, wB, wCons, wNil, wTup, wLst, wDct, wTru, wTruth, wNot, wAndT, wOrT, wAndV, wOrV, wNotV, wIfE, wChain, wCall, wCallP, wCallPF, wMake, wMakeE, wM, wSl, wPart, wNoPart, wMeth, wFldC, wFldS, wProp, wBor, wBorT, wAppend, wPopAt, wExtend, wDGet2, wLstRng, wFmt, wJoined, jCons, jNil, gN, gTupW, gCons', gNil', iL, iT, iS, iR1, iR2, iZp, iEn, dAdd, dSub, dMul, dMod, dFdiv, dPow, dLt, dLe, dGt, dGe, dNeg, dIs, dIsNot, rLenD, rTupOf, rLstOf, rMax2, rMin2, rAbs, rIntOf, rStrOf, rDivmod, startE, Ev.get, Ev.set, Ev.lend, Ev.noSlf, Slot.lend, Slot.noSlf, Slot.isL, Slot.isDK, Slot.isPurse, List.map, List.all, List.length_cons, List.length_nil, List.replicate, List.append, List.cons_append, List.nil_append, Nat.zero_add, Nat.reduceAdd, Nat.reduceSub, Nat.reduceLT, if_true, if_false, Bool.false_eq_true, Bool.not_true, Bool.not_false, dIx, e1]
            by_cases h1 : 1 ≤ i
            · by_cases h2 : i ≤ 1000000000000
              · rw [decide_eq_true h1]
                simp only [sSeq, sRet, sRetF, sRetN, sIf, sNext, sSet, sOwn, sOwnP, sPar, sExpr, sFldI, sBreak, sCont, sDPutD, sParFF, sParEF, sParFE, sParEFF, wIsi, wVar, wC, wOp, wUn, wB, wCons, wNil, wTup, wLst, wDct, wTru, wTruth, wNot, wAndT, wOrT, wAndV, wOrV, wNotV, wIfE, wChain, wCall, wCallP, wCallPF, wMake, wMakeE, wM, wSl, wPart, wNoPart, wMeth, wFldC, wFldS, wProp, wBor, wBorT, wAppend, wPopAt, wExtend, wDGet2, wLstRng, wFmt, wJoined, jCons, jNil, gN, gTupW, gCons', gNil', iL, iT, iS, iR1, iR2, iZp, iEn, dAdd, dSub, dMul, dMod, dFdiv, dPow, dLt, dLe, dGt, dGe, dNeg, dIs, dIsNot, rLenD, rTupOf, rLstOf, rMax2, rMin2, rAbs, rIntOf, rStrOf, rDivmod, startE, Ev.get, Ev.set, Ev.lend, Ev.noSlf, Slot.lend, Slot.noSlf, Slot.isL, Slot.isDK, Slot.isPurse, List.map, List.all, List.length_cons, List.length_nil, List.replicate, List.append, List.cons_append, List.nil_append, Nat.zero_add, Nat.reduceAdd, Nat.reduceSub, Nat.reduceLT, if_true, if_false, Bool.false_eq_true, Bool.not_true, Bool.not_false]
                rw [decide_eq_true h2]
                simp only [sSeq, sRet, sRetF, sRetN, sIf, sNext, sSet, sOwn, sOwnP, sPar, sExpr, sFldI, sBreak, sCont, sDPutD, sParFF, sParEF, sParFE, sParEFF, wIsi, wVar, wC, wOp, wUn, wB, wCons, wNil, wTup, wLst, wDct, wTru, wTruth, wNot, wAndT, wOrT, wAndV, wOrV, wNotV, wIfE, wChain, wCall, wCallP, wCallPF, wMake, wMakeE, wM, wSl, wPart, wNoPart, wMeth, wFldC, wFldS, wProp, wBor, wBorT, wAppend, wPopAt, wExtend, wDGet2, wLstRng, wFmt, wJoined, jCons, jNil, gN, gTupW, gCons', gNil', iL, iT, iS, iR1, iR2, iZp, iEn, dAdd, dSub, dMul, dMod, dFdiv, dPow, dLt, dLe, dGt, dGe, dNeg, dIs, dIsNot, rLenD, rTupOf, rLstOf, rMax2, rMin2, rAbs, rIntOf, rStrOf, rDivmod, startE, Ev.get, Ev.set, Ev.lend, Ev.noSlf, Slot.lend, Slot.noSlf, Slot.isL, Slot.isDK, Slot.isPurse, List.map, List.all, List.length_cons, List.length_nil, List.replicate, List.append, List.cons_append, List.nil_append, Nat.zero_add, Nat.reduceAdd, Nat.reduceSub, Nat.reduceLT, if_true, if_false, Bool.false_eq_true, Bool.not_true, Bool.not_false]
                refine hM2 _ ?_
                simp only [sSeq, sRet, sRetF, sRetN, sIf, sNext, sSet, sOwn, sOwnP, sPar, sExpr, sFldI, sBreak, sCont, sDPutD, sParFF, sParEF, sParFE, sParEFF, wIsi, wVar, wC, wOp, wUn, wB, wCons, wNil, wTup, wLst, wDct, wTru, wTruth, wNot, wAndT, wOrT, wAndV, wOrV, wNotV, wIfE, wChain, wCall, wCallP, wCallPF, wMake, wMakeE, wM, wSl, wPart, wNoPart, wMeth, wFldC, wFldS, wProp, wBor, wBorT, wAppend, wPopAt, wExtend, wDGet2, wLstRng, wFmt, wJoined, jCons, jNil, gN, gTupW, gCons', gNil', iL, iT, iS, iR1, iR2, iZp, iEn, dAdd, dSub, dMul, dMod, dFdiv, dPow, dLt, dLe, dGt, dGe, dNeg, dIs, dIsNot, rLenD, rTupOf, rLstOf, rMax2, rMin2, rAbs, rIntOf, rStrOf, rDivmod, startE, Ev.get, Ev.set, Ev.lend, Ev.noSlf, Slot.lend, Slot.noSlf, Slot.isL, Slot.isDK, Slot.isPurse, List.map, List.all, List.length_cons, List.length_nil, List.replicate, List.append, List.cons_append, List.nil_append, Nat.zero_add, Nat.reduceAdd, Nat.reduceSub, Nat.reduceLT, if_true, if_false, Bool.false_eq_true, Bool.not_true, Bool.not_false, dIx, e1, e2]
                have e3 : intIn 1 1000000000000 (.int i) = true := by simp [intIn, h1, h2]
                rw [e3] at h
                cases z with
                | non => simp only [D.isNon, sSeq, sRet, sRetF, sRetN, sIf, sNext, sSet, sOwn, sOwnP, sPar, sExpr, sFldI, sBreak, sCont, sDPutD, sParFF, sParEF, sParFE, sParEFF, wIsi, wVar, wC, wOp, wUn, wB, wCons, wNil, wTup, wLst, wDct, wTru, wTruth, wNot, wAndT, wOrT, wAndV, wOrV, wNotV, wIfE, wChain, wCall, wCallP, wCallPF, wMake, wMakeE, wM, wSl, wPart, wNoPart, wMeth, wFldC, wFldS, wProp, wBor, wBorT, wAppend, wPopAt, wExtend, wDGet2, wLstRng, wFmt, wJoined, jCons, jNil, gN, gTupW, gCons', gNil', iL, iT, iS, iR1, iR2, iZp, iEn, dAdd, dSub, dMul, dMod, dFdiv, dPow, dLt, dLe, dGt, dGe, dNeg, dIs, dIsNot, rLenD, rTupOf, rLstOf, rMax2, rMin2, rAbs, rIntOf, rStrOf, rDivmod, startE, Ev.get, Ev.set, Ev.lend, Ev.noSlf, Slot.lend, Slot.noSlf, Slot.isL, Slot.isDK, Slot.isPurse, List.map, List.all, List.length_cons, List.length_nil, List.replicate, List.append, List.cons_append, List.nil_append, Nat.zero_add, Nat.reduceAdd, Nat.reduceSub, Nat.reduceLT, if_true, if_false, Bool.false_eq_true, Bool.not_true, Bool.not_false]; exact h
                | int j =>
                  simp only [D.isNon, sSeq, sRet, sRetF, sRetN, sIf, sNext, sSet, sOwn, sOwnP, sPar, sExpr, sFldI, sBreak, sCont, sDPutD, sParFF, sParEF, sParFE, sParEFF, wIsi, wVar, wC, wOp, wUn, wB, wCons, wNil, wTup, wLst, wDct, wTru, wTruth, wNot, wAndT, wOrT, wAndV, wOrV, wNotV, wIfE, wChain, wCall, wCallP, wCallPF, wMake, wMakeE, wM, wSl, wPart, wNoPart, wMeth, wFldC, wFldS, wProp, wBor, wBorT, wAppend, wPopAt, wExtend, wDGet2, wLstRng, wFmt, wJoined, jCons, jNil, gN, gTupW, gCons', gNil', iL, iT, iS, iR1, iR2, iZp, iEn, dAdd, dSub, dMul, dMod, dFdiv, dPow, dLt, dLe, dGt, dGe, dNeg, dIs, dIsNot, rLenD, rTupOf, rLstOf, rMax2, rMin2, rAbs, rIntOf, rStrOf, rDivmod, startE, Ev.get, Ev.set, Ev.lend, Ev.noSlf, Slot.lend, Slot.noSlf, Slot.isL, Slot.isDK, Slot.isPurse, List.map, List.all, List.length_cons, List.length_nil, List.replicate, List.append, List.cons_append, List.nil_append, Nat.zero_add, Nat.reduceAdd, Nat.reduceSub, Nat.reduceLT, if_true, if_false, Bool.false_eq_true, Bool.not_true, Bool.not_false]
                  refine ⟨_, rfl, ok_ty hz, ?_⟩
                  simp only [D.isInt, sSeq, sRet, sRetF, sRetN, sIf, sNext, sSet, sOwn, sOwnP, sPar, sExpr, sFldI, sBreak, sCont, sDPutD, sParFF, sParEF, sParFE, sParEFF, wIsi, wVar, wC, wOp, wUn, wB, wCons, wNil, wTup, wLst, wDct, wTru, wTruth, wNot, wAndT, wOrT, wAndV, wOrV, wNotV, wIfE, wChain, wCall, wCallP, wCallPF, wMake, wMakeE, wM, wSl, wPart, wNoPart, wMeth, wFldC, wFldS, wProp, wBor, wBorT, wAppend, wPopAt, wExtend, wDGet2, wLstRng, wFmt, wJoined, jCons, jNil, gN, gTupW, gCons', gNil', iL, iT, iS, iR1, iR2, iZp, iEn, dAdd, dSub, dMul, dMod, dFdiv, dPow, dLt, dLe, dGt, dGe, dNeg, dIs, dIsNot, rLenD, rTupOf, rLstOf, rMax2, rMin2, rAbs, rIntOf, rStrOf, rDivmod, startE, Ev.get, Ev.set, Ev.lend, Ev.noSlf, Slot.lend, Slot.noSlf, Slot.isL, Slot.isDK, Slot.isPurse, List.map, List.all, List.length_cons, List.length_nil, List.replicate, List.append, List.cons_append, List.nil_append, Nat.zero_add, Nat.reduceAdd, Nat.reduceSub, Nat.reduceLT, if_true, if_false, Bool.false_eq_true, Bool.not_true, Bool.not_false, dIx, e1, e2]
                  by_cases h3 : i ≤ j
                  · rw [decide_eq_true h3]
                    simp only [sSeq, sRet, sRetF, sRetN, sIf, sNext, sSet, sOwn, sOwnP, sPar, sExpr, sFldI, sBreak, sCont, sDPutD, sParFF, sParEF, sParFE, sParEFF, wIsi, wVar, wC, wOp, wUn, wB, wCons, wNil, wTup, wLst, wDct, wTru, wTruth, wNot, wAndT, wOrT, wAndV, wOrV, wNotV, wIfE, wChain, wCall, wCallP, wCallPF, wMake, wMakeE, wM, wSl, wPart, wNoPart, wMeth, wFldC, wFldS, wProp, wBor, wBorT, wAppend, wPopAt, wExtend, wDGet2, wLstRng, wFmt, wJoined, jCons, jNil, gN, gTupW, gCons', gNil', iL, iT, iS, iR1, iR2, iZp, iEn, dAdd, dSub, dMul, dMod, dFdiv, dPow, dLt, dLe, dGt, dGe, dNeg, dIs, dIsNot, rLenD, rTupOf, rLstOf, rMax2, rMin2, rAbs, rIntOf, rStrOf, rDivmod, startE, Ev.get, Ev.set, Ev.lend, Ev.noSlf, Slot.lend, Slot.noSlf, Slot.isL, Slot.isDK, Slot.isPurse, List.map, List.all, List.length_cons, List.length_nil, List.replicate, List.append, List.cons_append, List.nil_append, Nat.zero_add, Nat.reduceAdd, Nat.reduceSub, Nat.reduceLT, if_true, if_false, Bool.false_eq_true, Bool.not_true, Bool.not_false, dIx, e2]
                    have e4 : endOk (.int i) (.int j) = decide (j ≤ 1000000000000) := by simp [endOk, h3]
                    rw [e4] at h
                    exact h
                  · rw [decide_eq_false h3]
                    simp only [sSeq, sRet, sRetF, sRetN, sIf, sNext, sSet, sOwn, sOwnP, sPar, sExpr, sFldI, sBreak, sCont, sDPutD, sParFF, sParEF, sParFE, sParEFF, wIsi, wVar, wC, wOp, wUn, wB, wCons, wNil, wTup, wLst, wDct, wTru, wTruth, wNot, wAndT, wOrT, wAndV, wOrV, wNotV, wIfE, wChain, wCall, wCallP, wCallPF, wMake, wMakeE, wM, wSl, wPart, wNoPart, wMeth, wFldC, wFldS, wProp, wBor, wBorT, wAppend, wPopAt, wExtend, wDGet2, wLstRng, wFmt, wJoined, jCons, jNil, gN, gTupW, gCons', gNil', iL, iT, iS, iR1, iR2, iZp, iEn, dAdd, dSub, dMul, dMod, dFdiv, dPow, dLt, dLe, dGt, dGe, dNeg, dIs, dIsNot, rLenD, rTupOf, rLstOf, rMax2, rMin2, rAbs, rIntOf, rStrOf, rDivmod, startE, Ev.get, Ev.set, Ev.lend, Ev.noSlf, Slot.lend, Slot.noSlf, Slot.isL, Slot.isDK, Slot.isPurse, List.map, List.all, List.length_cons, List.length_nil, List.replicate, List.append, List.cons_append, List.nil_append, Nat.zero_add, Nat.reduceAdd, Nat.reduceSub, Nat.reduceLT, if_true, if_false, Bool.false_eq_true, Bool.not_true, Bool.not_false]
                    have e4 : endOk (.int i) (.int j) = false := by simp [endOk, h3]
                    rw [e4] at h
                    exact h
                | _ =>
                  simp only [D.isNon, sSeq, sRet, sRetF, sRetN, sIf, sNext, sSet, sOwn, sOwnP, sPar, sExpr, sFldI, sBreak, sCont, sDPutD, sParFF, sParEF, sParFE, sParEFF, wIsi, wVar, wC, wOp, wUn, wB, wCons, wNil, wTup, wLst, wDct, wTru, wTruth, wNot, wAndT, wOrT, wAndV, wOrV, wNotV, wIfE, wChain, wCall, wCallP, wCallPF, wMake, wMakeE, wM, wSl, wPart, wNoPart, wMeth, wFldC, wFldS, wProp, wBor, wBorT, wAppend, wPopAt, wExtend, wDGet2, wLstRng, wFmt, wJoined, jCons, jNil, gN, gTupW, gCons', gNil', iL, iT, iS, iR1, iR2, iZp, iEn, dAdd, dSub, dMul, dMod, dFdiv, dPow, dLt, dLe, dGt, dGe, dNeg, dIs, dIsNot, rLenD, rTupOf, rLstOf, rMax2, rMin2, rAbs, rIntOf, rStrOf, rDivmod, startE, Ev.get, Ev.set, Ev.lend, Ev.noSlf, Slot.lend, Slot.noSlf, Slot.isL, Slot.isDK, Slot.isPurse, List.map, List.all, List.length_cons, List.length_nil, List.replicate, List.append, List.cons_append, List.nil_append, Nat.zero_add, Nat.reduceAdd, Nat.reduceSub, Nat.reduceLT, if_true, if_false, Bool.false_eq_true, Bool.not_true, Bool.not_false]
                  refine ⟨_, rfl, ok_ty hz, ?_⟩
                  simp only [D.isInt, sSeq, sRet, sRetF, sRetN, sIf, sNext, sSet, sOwn, sOwnP, sPar, sExpr, sFldI, sBreak, sCont, sDPutD, sParFF, sParEF, sParFE, sParEFF, wIsi, wVar, wC, wOp, wUn, wB, wCons, wNil, wTup, wLst, wDct, wTru, wTruth, wNot, wAndT, wOrT, wAndV, wOrV, wNotV, wIfE, wChain, wCall, wCallP, wCallPF, wMake, wMakeE, wM, wSl, wPart, wNoPart, wMeth, wFldC, wFldS, wProp, wBor, wBorT, wAppend, wPopAt, wExtend, wDGet2, wLstRng, wFmt, wJoined, jCons, jNil, gN, gTupW, gCons', gNil', iL, iT, iS, iR1, iR2, iZp, iEn, dAdd, dSub, dMul, dMod, dFdiv, dPow, dLt, dLe, dGt, dGe, dNeg, dIs, dIsNot, rLenD, rTupOf, rLstOf, rMax2, rMin2, rAbs, rIntOf, rStrOf, rDivmod, startE, Ev.get, Ev.set, Ev.lend, Ev.noSlf, Slot.lend, Slot.noSlf, Slot.isL, Slot.isDK, Slot.isPurse, List.map, List.all, List.length_cons, List.length_nil, List.replicate, List.append, List.cons_append, List.nil_append, Nat.zero_add, Nat.reduceAdd, Nat.reduceSub, Nat.reduceLT, if_true, if_false, Bool.false_eq_true, Bool.not_true, Bool.not_false]
                  exact h
              · rw [decide_eq_true h1]
                simp only [sSeq, sRet, sRetF, sRetN, sIf, sNext, sSet, sOwn, sOwnP, sPar, sExpr, sFldI, sBreak, sCont, sDPutD, sParFF, sParEF, sParFE, sParEFF, wIsi, wVar, wC, wOp, wUn, wB, wCons, wNil, wTup, wLst, wDct, wTru, wTruth, wNot, wAndT, wOrT, wAndV, wOrV, wNotV, wIfE, wChain, wCall, wCallP, wCallPF, wMake, wMakeE, wM, wSl, wPart, wNoPart, wMeth, wFldC, wFldS, wProp, wBor, wBorT, wAppend, wPopAt, wExtend, wDGet2, wLstRng, wFmt, wJoined, jCons, jNil, gN, gTupW, gCons', gNil', iL, iT, iS, iR1, iR2, iZp, iEn, dAdd, dSub, dMul, dMod, dFdiv, dPow, dLt, dLe, dGt, dGe, dNeg, dIs, dIsNot, rLenD, rTupOf, rLstOf, rMax2, rMin2, rAbs, rIntOf, rStrOf, rDivmod, startE, Ev.get, Ev.set, Ev.lend, Ev.noSlf, Slot.lend, Slot.noSlf, Slot.isL, Slot.isDK, Slot.isPurse, List.map, List.all, List.length_cons, List.length_nil, List.replicate, List.append, List.cons_append, List.nil_append, Nat.zero_add, Nat.reduceAdd, Nat.reduceSub, Nat.reduceLT, if_true, if_false, Bool.false_eq_true, Bool.not_true, Bool.not_false]
                rw [decide_eq_false h2]
                simp only [sSeq, sRet, sRetF, sRetN, sIf, sNext, sSet, sOwn, sOwnP, sPar, sExpr, sFldI, sBreak, sCont, sDPutD, sParFF, sParEF, sParFE, sParEFF, wIsi, wVar, wC, wOp, wUn, wB, wCons, wNil, wTup, wLst, wDct, wTru, wTruth, wNot, wAndT, wOrT, wAndV, wOrV, wNotV, wIfE, wChain, wCall, wCallP, wCallPF, wMake, wMakeE, wM, wSl, wPart, wNoPart, wMeth, wFldC, wFldS, wProp, wBor, wBorT, wAppend, wPopAt, wExtend, wDGet2, wLstRng, wFmt, wJoined, jCons, jNil, gN, gTupW, gCons', gNil', iL, iT, iS, iR1, iR2, iZp, iEn, dAdd, dSub, dMul, dMod, dFdiv, dPow, dLt, dLe, dGt, dGe, dNeg, dIs, dIsNot, rLenD, rTupOf, rLstOf, rMax2, rMin2, rAbs, rIntOf, rStrOf, rDivmod, startE, Ev.get, Ev.set, Ev.lend, Ev.noSlf, Slot.lend, Slot.noSlf, Slot.isL, Slot.isDK, Slot.isPurse, List.map, List.all, List.length_cons, List.length_nil, List.replicate, List.append, List.cons_append, List.nil_append, Nat.zero_add, Nat.reduceAdd, Nat.reduceSub, Nat.reduceLT, if_true, if_false, Bool.false_eq_true, Bool.not_true, Bool.not_false]
                have e3 : intIn 1 1000000000000 (.int i) = false := by simp [intIn, h2]
                rw [e3] at h
                simpa using h
            · rw [decide_eq_false h1]
              simp only [sSeq, sRet, sRetF, sRetN, sIf, sNext, sSet, sOwn, sOwnP, sPar, sExpr, sFldI, sBreak, sCont, sDPutD, sParFF, sParEF, sParFE, sParEFF, wIsi, wVar, wC, wOp, wUn, wB, wCons, wNil, wTup, wLst, wDct, wTru, wTruth, wNot, wAndT, wOrT, wAndV, wOrV, wNotV, wIfE, wChain, wCall, wCallP, wCallPF, wMake, wMakeE, wM, wSl, wPart, wNoPart, wMeth, wFldC, wFldS, wProp, wBor, wBorT, wAppend, wPopAt, wExtend, wDGet2, wLstRng, wFmt, wJoined, jCons, jNil, gN, gTupW, gCons', gNil', iL, iT, iS, iR1, iR2, iZp, iEn, dAdd, dSub, dMul, dMod, dFdiv, dPow, dLt, dLe, dGt, dGe, dNeg, dIs, dIsNot, rLenD, rTupOf, rLstOf, rMax2, rMin2, rAbs, rIntOf, rStrOf, rDivmod, startE, Ev.get, Ev.set, Ev.lend, Ev.noSlf, Slot.lend, Slot.noSlf, Slot.isL, Slot.isDK, Slot.isPurse, List.map, List.all, List.length_cons, List.length_nil, List.replicate, List.append, List.cons_append, List.nil_append, Nat.zero_add, Nat.reduceAdd, Nat.reduceSub, Nat.reduceLT, if_true, if_false, Bool.false_eq_true, Bool.not_true, Bool.not_false]
              have e3 : intIn 1 1000000000000 (.int i) = false := by simp [intIn, h1]
              rw [e3] at h
              simpa using h
          | _ =>
            simp only [D.isInt, sSeq, sRet, sRetF, sRetN, sIf, sNext, sSet, sOwn, sOwnP, sPar, sExpr, sFldI, sBreak, sCont, sDPutD, sParFF, sParEF, sParFE, sParEFF, wIsi, wVar, wC, wOp, wUn, wB, wCons, wNil, wTup, wLst, wDct, wTru, wTruth, wNot, wAndT, wOrT, wAndV, wOrV, wNotV, wIfE, wChain, wCall, wCallP, wCallPF, wMake, wMakeE, wM, wSl, wPart, wNoPart, wMeth, wFldC, wFldS, wProp, wBor, wBorT, wAppend, wPopAt, wExtend, wDGet2, wLstRng, wFmt, wJoined, jCons, jNil, gN, gTupW, gCons', gNil', iL, iT, iS, iR1, iR2, iZp, iEn, dAdd, dSub, dMul, dMod, dFdiv, dPow, dLt, dLe, dGt, dGe, dNeg, dIs, dIsNot, rLenD, rTupOf, rLstOf, rMax2, rMin2, rAbs, rIntOf, rStrOf, rDivmod, startE, Ev.get, Ev.set, Ev.lend, Ev.noSlf, Slot.lend, Slot.noSlf, Slot.isL, Slot.isDK, Slot.isPurse, List.map, List.all, List.length_cons, List.length_nil, List.replicate, List.append, List.cons_append, List.nil_append, Nat.zero_add, Nat.reduceAdd, Nat.reduceSub, Nat.reduceLT, if_true, if_false, Bool.false_eq_true, Bool.not_true, Bool.not_false]
            exact h
  | ins c fs => exact absurd rfl ht
  | _ => simp only [D.isTup, sSeq, sRet, sRetF, sRetN, sIf, sNext, sSet, sOwn, sOwnP, sPar, sExpr, sFldI, sBreak, sCont, sDPutD, sParFF, sParEF, sParFE, sParEFF, wIsi, wVar, wC, wOp, wUn, wB, wCons, wNil, wTup, wLst, wDct, wTru, wTruth, wNot, wAndT, wOrT, wAndV, wOrV, wNotV, wIfE, wChain, wCall, wCallP, wCallPF, wMake, wMakeE, wM, wSl, wPart, wNoPart, wMeth, wFldC, wFldS, wProp, wBor, wBorT, wAppend, wPopAt, wExtend, wDGet2, wLstRng, wFmt, wJoined, jCons, jNil, gN, gTupW, gCons', gNil', iL, iT, iS, iR1, iR2, iZp, iEn, dAdd, dSub, dMul, dMod, dFdiv, dPow, dLt, dLe, dGt, dGe, dNeg, dIs, dIsNot, rLenD, rTupOf, rLstOf, rMax2, rMin2, rAbs, rIntOf, rStrOf, rDivmod, startE, Ev.get, Ev.set, Ev.lend, Ev.noSlf, Slot.lend, Slot.noSlf, Slot.isL, Slot.isDK, Slot.isPurse, List.map, List.all, List.length_cons, List.length_nil, List.replicate, List.append, List.cons_append, List.nil_append, Nat.zero_add, Nat.reduceAdd, Nat.reduceSub, Nat.reduceLT, if_true, if_false, Bool.false_eq_true, Bool.not_true, Bool.not_false]; exact h
theorem n_check_lots {ds : List D} {kk : D → Prop} {kx : XC} (h : c_check_lots ds kk kx) : ds.length = 1 := by
  obtain ⟨a, rfl, _⟩ := h; rfl
theorem lotB_name {taken : List Str} {d : D} (h : lotB taken d = true) : ∃ z r, d = .tup (.str z :: r) ∧ lotName d = z := by
  unfold lotB at h
  split at h
  · exact ⟨_, _, rfl, rfl⟩
  · cases h
theorem enumD_cons (d : D) (ds : List D) : enumD (d :: ds) = .tup [.int 0, d] :: ((List.range ds.length).map Nat.succ).zipWith (fun (i : Nat) d => D.tup [.int (i : Int), d]) ds := by
  unfold enumD
  rw [List.length_cons, List.range_succ_eq_map]
  rfl
/-- the items from i on -/
def enumF (i : Nat) : List D → List D
  | [] => []
  | d :: r => .tup [.int (i : Int), d] :: enumF (i + 1) r
theorem enumF_eq (ds : List D) : enumD ds = enumF 0 ds := by
  have key : ∀ (ds : List D) (i : Nat), (List.range' i ds.length).zipWith (fun (i : Nat) d => D.tup [.int (i : Int), d]) ds = enumF i ds := by
    intro ds
    induction ds with
    | nil => intro i; rfl
    | cons d r ih =>
      intro i
      rw [List.length_cons, List.range'_succ, List.zipWith_cons_cons, ih]
      rfl
  unfold enumD
  rw [List.range_eq_range']
  exact key ds 0
theorem lots_loop {v : D} {kk : D → Prop} {kx : XC} {rf : D → Ev → Prop} : ∀ (ds : List D) (i : Nat) (taken : List Str) (s2 s3 : Slot), i + ds.length ≤ 5 → taken.length = i → D.okL ds = true → lotsL taken ds = true → kk .non →
    forL (gTupW 2 (gCons' (gN 2) (gCons' (gN 3) gNil'))) (sSeq (sIf (wOrT (wTru (wOp dEq (wVar 2) (wC (.int 5)))) (wNot (wTruth (wBor (wCall c_is_lot kx (wCons (wVar 3) (wCons (wVar 1) wNil))))))) sDead sNext)
    (sExpr (wAppend 1 (wOp dIx (wVar 3) (wC (.int 0)))))) ⟨fun _ => kk .non, fun d _ => kk d, fun _ => False, fun _ => False, rf⟩ (enumF i ds) [.val v, .own (namesD taken), s2, s3]
  | [], i, taken, s2, s3, _, _, _, _, hk => hk
  | d :: r, i, taken, s2, s3, hi, ht, hok, hl, hk => by
    refine forL_gen fun M hM => ?_
    simp only [List.length_cons] at hi
    have hl' : (lotB taken d && lotsL (taken ++ [lotName d]) r) = true := hl
    rw [Bool.and_eq_true] at hl'
    have hd := okL_mem hok (List.mem_cons_self ..)
    obtain ⟨z, rr, ed, en⟩ := lotB_name hl'.1
    refine ⟨rfl, rfl, ?_⟩
    refine sSeq_gen fun M1 hM1 => ?_
    simp only [sSeq, sRet, sRetF, sRetN, sIf, sNext, sSet, sOwn, sOwnP, sPar, sExpr, sFldI, sBreak, sCont, sDPutD, sParFF, sParEF, sParFE, sParEFF, wIsi, wVar, wC, wOp, wUn, wB, wCons, wNil, wTup, wLst, wDct, wTru, wTruth, wNot, wAndT, wOrT, wAndV, wOrV, wNotV, wIfE, wChain, wCall, wCallP, wCallPF, wMake, wMakeE, wM, wSl, wPart, wNoPart, wMeth, wFldC, wFldS, wProp, wBor, wBorT, wAppend, wPopAt, wExtend, wDGet2, wLstRng, wFmt, wJoined, jCons, jNil, gN, gTupW, gCons', gNil', iL, iT, iS, iR1, iR2, iZp, iEn, dAdd, dSub, dMul, dMod, dFdiv, dPow, dLt, dLe, dGt, dGe, dNeg, dIs, dIsNot, rLenD, rTupOf, rLstOf, rMax2, rMin2, rAbs, rIntOf, rStrOf, rDivmod, startE, Ev.get, Ev.set, Ev.lend, Ev.noSlf, Slot.lend, Slot.noSlf, Slot.isL, Slot.isDK, Slot.isPurse, List.map, List.all, List.length_cons, List.length_nil, List.replicate, List.append, List.cons_append, List.nil_append, Nat.zero_add, Nat.reduceAdd, Nat.reduceSub, Nat.reduceLT, if_true, if_false, Bool.false_eq_true, Bool.not_true, Bool.not_false, dEq_int]
    rw [decide_eq_false (show ¬ ((i : Int) = 5) by omega)]
    simp only [sSeq, sRet, sRetF, sRetN, sIf, sNext, sSet, sOwn, sOwnP, sPar, sExpr, sFldI, sBreak, sCont, sDPutD, sParFF, sParEF, sParFE, sParEFF, wIsi, wVar, wC, wOp, wUn, wB, wCons, wNil, wTup, wLst, wDct, wTru, wTruth, wNot, wAndT, wOrT, wAndV, wOrV, wNotV, wIfE, wChain, wCall, wCallP, wCallPF, wMake, wMakeE, wM, wSl, wPart, wNoPart, wMeth, wFldC, wFldS, wProp, wBor, wBorT, wAppend, wPopAt, wExtend, wDGet2, wLstRng, wFmt, wJoined, jCons, jNil, gN, gTupW, gCons', gNil', iL, iT, iS, iR1, iR2, iZp, iEn, dAdd, dSub, dMul, dMod, dFdiv, dPow, dLt, dLe, dGt, dGe, dNeg, dIs, dIsNot, rLenD, rTupOf, rLstOf, rMax2, rMin2, rAbs, rIntOf, rStrOf, rDivmod, startE, Ev.get, Ev.set, Ev.lend, Ev.noSlf, Slot.lend, Slot.noSlf, Slot.isL, Slot.isDK, Slot.isPurse, List.map, List.all, List.length_cons, List.length_nil, List.replicate, List.append, List.cons_append, List.nil_append, Nat.zero_add, Nat.reduceAdd, Nat.reduceSub, Nat.reduceLT, if_true, if_false, Bool.false_eq_true, Bool.not_true, Bool.not_false, namesD]
    refine ⟨rfl, _, _, rfl, hd, taken, rfl, trivial, rfl, ?_⟩
    simp only [hl'.1, sSeq, sRet, sRetF, sRetN, sIf, sNext, sSet, sOwn, sOwnP, sPar, sExpr, sFldI, sBreak, sCont, sDPutD, sParFF, sParEF, sParFE, sParEFF, wIsi, wVar, wC, wOp, wUn, wB, wCons, wNil, wTup, wLst, wDct, wTru, wTruth, wNot, wAndT, wOrT, wAndV, wOrV, wNotV, wIfE, wChain, wCall, wCallP, wCallPF, wMake, wMakeE, wM, wSl, wPart, wNoPart, wMeth, wFldC, wFldS, wProp, wBor, wBorT, wAppend, wPopAt, wExtend, wDGet2, wLstRng, wFmt, wJoined, jCons, jNil, gN, gTupW, gCons', gNil', iL, iT, iS, iR1, iR2, iZp, iEn, dAdd, dSub, dMul, dMod, dFdiv, dPow, dLt, dLe, dGt, dGe, dNeg, dIs, dIsNot, rLenD, rTupOf, rLstOf, rMax2, rMin2, rAbs, rIntOf, rStrOf, rDivmod, startE, Ev.get, Ev.set, Ev.lend, Ev.noSlf, Slot.lend, Slot.noSlf, Slot.isL, Slot.isDK, Slot.isPurse, List.map, List.all, List.length_cons, List.length_nil, List.replicate, List.append, List.cons_append, List.nil_append, Nat.zero_add, Nat.reduceAdd, Nat.reduceSub, Nat.reduceLT, if_true, if_false, Bool.false_eq_true, Bool.not_true, Bool.not_false]
    refine hM1 _ ?_
    subst ed
    have e0 : atI (D.str z :: rr) (0 : Int) = some (.str z) := atI_nat (j := 0) rfl
    simp only [sSeq, sRet, sRetF, sRetN, sIf, sNext, sSet, sOwn, sOwnP, sPar, sExpr, sFldI, sBreak, sCont, sDPutD, sParFF, sParEF, sParFE, sParEFF, wIsi, wVar, wC, wOp, wUn, wB, wCons, wNil, wTup, wLst, wDct, wTru, wTruth, wNot, wAndT, wOrT, wAndV, wOrV, wNotV, wIfE, wChain, wCall, wCallP, wCallPF, wMake, wMakeE, wM, wSl, wPart, wNoPart, wMeth, wFldC, wFldS, wProp, wBor, wBorT, wAppend, wPopAt, wExtend, wDGet2, wLstRng, wFmt, wJoined, jCons, jNil, gN, gTupW, gCons', gNil', iL, iT, iS, iR1, iR2, iZp, iEn, dAdd, dSub, dMul, dMod, dFdiv, dPow, dLt, dLe, dGt, dGe, dNeg, dIs, dIsNot, rLenD, rTupOf, rLstOf, rMax2, rMin2, rAbs, rIntOf, rStrOf, rDivmod, startE, Ev.get, Ev.set, Ev.lend, Ev.noSlf, Slot.lend, Slot.noSlf, Slot.isL, Slot.isDK, Slot.isPurse, List.map, List.all, List.length_cons, List.length_nil, List.replicate, List.append, List.cons_append, List.nil_append, Nat.zero_add, Nat.reduceAdd, Nat.reduceSub, Nat.reduceLT, if_true, if_false, Bool.false_eq_true, Bool.not_true, Bool.not_false, dIx, e0]
    refine ⟨trivial, ?_, hM _ ?_⟩
    · rw [List.length_map, ht]
      have : (5 : Nat) ≤ sizeLine := by rw [sizeLine_eq]; decide
      omega
    · have ih := lots_loop (v := v) (kk := kk) (kx := kx) (rf := rf) r (i + 1) (taken ++ [z]) (.val (.int i)) (.val (.tup (.str z :: rr))) (by omega) (by simp [ht]) (by
        have q : (D.ok (.tup (.str z :: rr)) && D.okL r) = true := hok
        rw [Bool.and_eq_true] at q
        exact q.2) (by rw [← en]; exact hl'.2) hk
      simpa [namesD] using ih
theorem p_check_lots (ds : List D) (kk : D → Prop) (kx : XC) (h : c_check_lots ds kk kx) : (w_check_lots kx) { nx := fun _ => kk .non, rt := fun d _ => kk d } (startE 4 ds) := by
  obtain ⟨a, rfl, ds, rfl, hok, hne, hlen, hl, h⟩ := h
  have ht := ok_ty hok
  unfold w_check_lots
  refine sSeq_gen fun M hM => ?_
  simp only [sSeq, sRet, sRetF, sRetN, sIf, sNext, sSet, sOwn, sOwnP, sPar, sExpr, sFldI, sBreak, sCont, sDPutD, sParFF, sParEF, sParFE, sParEFF, wIsi, wVar, wC, wOp, wUn, wB, wCons, wNil, wTup, wLst, wDct, wTru, wTruth, wNot, wAndT, wOrT, wAndV, wOrV, wNotV, wIfE, wChain, wCall, wCallP, wCallPF, wMake, wMakeE, wM, wSl, wPart, wNoPart, wMeth, wFldC, wFldS, wProp, wBor, wBorT, wAppend, wPopAt, wExtend, wDGet2, wLstRng, wFmt, wJoined, jCons, jNil, gN, gTupW, gCons', gNil', iL, iT, iS, iR1, iR2, iZp, iEn, dAdd, dSub, dMul, dMod, dFdiv, dPow, dLt, dLe, dGt, dGe, dNeg, dIs, dIsNot, rLenD, rTupOf, rLstOf, rMax2, rMin2, rAbs, rIntOf, rStrOf, rDivmod, startE, Ev.get, Ev.set, Ev.lend, Ev.noSlf, Slot.lend, Slot.noSlf, Slot.isL, Slot.isDK, Slot.isPurse, List.map, List.all, List.length_cons, List.length_nil, List.replicate, List.append, List.cons_append, List.nil_append, Nat.zero_add, Nat.reduceAdd, Nat.reduceSub, Nat.reduceLT, if_true, if_false, Bool.false_eq_true, Bool.not_true, Bool.not_false, isa_tuple ht, D.isTup, dEq_int]
  rw [decide_eq_false (show ¬ ((ds.length : Int) = 0) by
    have : ds.length ≠ 0 := fun z => hne (List.length_eq_zero_iff.mp z)
    omega)]
  simp only [sSeq, sRet, sRetF, sRetN, sIf, sNext, sSet, sOwn, sOwnP, sPar, sExpr, sFldI, sBreak, sCont, sDPutD, sParFF, sParEF, sParFE, sParEFF, wIsi, wVar, wC, wOp, wUn, wB, wCons, wNil, wTup, wLst, wDct, wTru, wTruth, wNot, wAndT, wOrT, wAndV, wOrV, wNotV, wIfE, wChain, wCall, wCallP, wCallPF, wMake, wMakeE, wM, wSl, wPart, wNoPart, wMeth, wFldC, wFldS, wProp, wBor, wBorT, wAppend, wPopAt, wExtend, wDGet2, wLstRng, wFmt, wJoined, jCons, jNil, gN, gTupW, gCons', gNil', iL, iT, iS, iR1, iR2, iZp, iEn, dAdd, dSub, dMul, dMod, dFdiv, dPow, dLt, dLe, dGt, dGe, dNeg, dIs, dIsNot, rLenD, rTupOf, rLstOf, rMax2, rMin2, rAbs, rIntOf, rStrOf, rDivmod, startE, Ev.get, Ev.set, Ev.lend, Ev.noSlf, Slot.lend, Slot.noSlf, Slot.isL, Slot.isDK, Slot.isPurse, List.map, List.all, List.length_cons, List.length_nil, List.replicate, List.append, List.cons_append, List.nil_append, Nat.zero_add, Nat.reduceAdd, Nat.reduceSub, Nat.reduceLT, if_true, if_false, Bool.false_eq_true, Bool.not_true, Bool.not_false]
  refine hM _ (sSeq_gen fun M1 hM1 => ?_)
  simp only [sSeq, sRet, sRetF, sRetN, sIf, sNext, sSet, sOwn, sOwnP, sPar, sExpr, sFldI, sBreak, sCont, sDPutD, sParFF, sParEF, sParFE, sParEFF, wIsi, wVar, wC, wOp, wUn, wB, wCons, wNil, wTup, wLst, wDct, wTru, wTruth, wNot, wAndT, wOrT, wAndV, wOrV, wNotV, wIfE, wChain, wCall, wCallP, wCallPF, wMake, wMakeE, wM, wSl, wPart, wNoPart, wMeth, wFldC, wFldS, wProp, wBor, wBorT, wAppend, wPopAt, wExtend, wDGet2, wLstRng, wFmt, wJoined, jCons, jNil, gN, gTupW, gCons', gNil', iL, iT, iS, iR1, iR2, iZp, iEn, dAdd, dSub, dMul, dMod, dFdiv, dPow, dLt, dLe, dGt, dGe, dNeg, dIs, dIsNot, rLenD, rTupOf, rLstOf, rMax2, rMin2, rAbs, rIntOf, rStrOf, rDivmod, startE, Ev.get, Ev.set, Ev.lend, Ev.noSlf, Slot.lend, Slot.noSlf, Slot.isL, Slot.isDK, Slot.isPurse, List.map, List.all, List.length_cons, List.length_nil, List.replicate, List.append, List.cons_append, List.nil_append, Nat.zero_add, Nat.reduceAdd, Nat.reduceSub, Nat.reduceLT, if_true, if_false, Bool.false_eq_true, Bool.not_true, Bool.not_false]
  refine ⟨by decide, by decide +kernel, hM1 _ ?_⟩
  simp only [sFor, sSeq, sRet, sRetF, sRetN, sIf, sNext, sSet, sOwn, sOwnP, sPar, sExpr, sFldI, sBreak, sCont, sDPutD, sParFF, sParEF, sParFE, sParEFF, wIsi, wVar, wC, wOp, wUn, wB, wCons, wNil, wTup, wLst, wDct, wTru, wTruth, wNot, wAndT, wOrT, wAndV, wOrV, wNotV, wIfE, wChain, wCall, wCallP, wCallPF, wMake, wMakeE, wM, wSl, wPart, wNoPart, wMeth, wFldC, wFldS, wProp, wBor, wBorT, wAppend, wPopAt, wExtend, wDGet2, wLstRng, wFmt, wJoined, jCons, jNil, gN, gTupW, gCons', gNil', iL, iT, iS, iR1, iR2, iZp, iEn, dAdd, dSub, dMul, dMod, dFdiv, dPow, dLt, dLe, dGt, dGe, dNeg, dIs, dIsNot, rLenD, rTupOf, rLstOf, rMax2, rMin2, rAbs, rIntOf, rStrOf, rDivmod, startE, Ev.get, Ev.set, Ev.lend, Ev.noSlf, Slot.lend, Slot.noSlf, Slot.isL, Slot.isDK, Slot.isPurse, List.map, List.all, List.length_cons, List.length_nil, List.replicate, List.append, List.cons_append, List.nil_append, Nat.zero_add, Nat.reduceAdd, Nat.reduceSub, Nat.reduceLT, if_true, if_false, Bool.false_eq_true, Bool.not_true, Bool.not_false]
  rw [enumF_eq]
  exact lots_loop ds 0 [] .un .un (by omega) rfl hok hl h
theorem n_parsed_options {ds : List D} {kk : D → Prop} {kx : XC} (h : c_parsed_options ds kk kx) : ds.length = 2 := by
  obtain ⟨a, b, rfl, _⟩ := h; rfl
theorem inK_none : ∀ {l : List (Option (List Wd))}, inK .non (l.map optO) = some (decide (none ∈ l))
  | [] => rfl
  | o :: r => by
    have ih := inK_none (l := r)
    show (match eqK (optO o) .non, inK .non (r.map optO) with | some b1, some b2 => some (b1 || b2) | _, _ => none) = _
    rw [ih]
    cases o with
    | none => show some (true || _) = _; simp
    | some ws => show some (false || _) = _; simp
theorem mapM_opt {f : D → Option (List Wd)} : ∀ {l : List D}, l.mapM f = if none ∈ l.map f then none else some (l.map fun d => (f d).getD [])
  | [] => by simp
  | d :: r => by
    rw [List.mapM_cons, mapM_opt (l := r)]
    cases e : f d with
    | none => simp [e]
    | some w =>
      by_cases q : none ∈ r.map f
      · rw [if_pos q, if_pos (by rw [List.map_cons]; exact List.mem_cons_of_mem _ q)]
        rfl
      · rw [if_neg q, if_neg (by rw [List.map_cons, e]; simpa using q)]
        simp [e]
theorem p_parsed_options (ds : List D) (kk : D → Prop) (kx : XC) (h : c_parsed_options ds kk kx) : (w_parsed_options kx) { nx := fun _ => kk .non, rt := fun d _ => kk d } (startE 4 ds) := by
  obtain ⟨a, b, rfl, hok, names, rfl, hn, h⟩ := h
  have ht := ok_ty hok
  unfold w_parsed_options
  refine sSeq_gen fun M hM => ?_
  simp only [sSeq, sRet, sRetF, sRetN, sIf, sNext, sSet, sOwn, sOwnP, sPar, sExpr, sFldI, sBreak, sCont, sDPutD, sParFF, sParEF, sParFE, sParEFF, wIsi, wVar, wC, wOp, wUn, wB, wCons, wNil, wTup, wLst, wDct, wTru, wTruth, wNot, wAndT, wOrT, wAndV, wOrV, wNotV, wIfE, wChain, wCall, wCallP, wCallPF, wMake, wMakeE, wM, wSl, wPart, wNoPart, wMeth, wFldC, wFldS, wProp, wBor, wBorT, wAppend, wPopAt, wExtend, wDGet2, wLstRng, wFmt, wJoined, jCons, jNil, gN, gTupW, gCons', gNil', iL, iT, iS, iR1, iR2, iZp, iEn, dAdd, dSub, dMul, dMod, dFdiv, dPow, dLt, dLe, dGt, dGe, dNeg, dIs, dIsNot, rLenD, rTupOf, rLstOf, rMax2, rMin2, rAbs, rIntOf, rStrOf, rDivmod, startE, Ev.get, Ev.set, Ev.lend, Ev.noSlf, Slot.lend, Slot.noSlf, Slot.isL, Slot.isDK, Slot.isPurse, List.map, List.all, List.length_cons, List.length_nil, List.replicate, List.append, List.cons_append, List.nil_append, Nat.zero_add, Nat.reduceAdd, Nat.reduceSub, Nat.reduceLT, if_true, if_false, Bool.false_eq_true, Bool.not_true, Bool.not_false, isa_tuple ht]
  cases a with
  | tup xs =>
    simp only [D.isTup, sSeq, sRet, sRetF, sRetN, sIf, sNext, sSet, sOwn, sOwnP, sPar, sExpr, sFldI, sBreak, sCont, sDPutD, sParFF, sParEF, sParFE, sParEFF, wIsi, wVar, wC, wOp, wUn, wB, wCons, wNil, wTup, wLst, wDct, wTru, wTruth, wNot, wAndT, wOrT, wAndV, wOrV, wNotV, wIfE, wChain, wCall, wCallP, wCallPF, wMake, wMakeE, wM, wSl, wPart, wNoPart, wMeth, wFldC, wFldS, wProp, wBor, wBorT, wAppend, wPopAt, wExtend, wDGet2, wLstRng, wFmt, wJoined, jCons, jNil, gN, gTupW, gCons', gNil', iL, iT, iS, iR1, iR2, iZp, iEn, dAdd, dSub, dMul, dMod, dFdiv, dPow, dLt, dLe, dGt, dGe, dNeg, dIs, dIsNot, rLenD, rTupOf, rLstOf, rMax2, rMin2, rAbs, rIntOf, rStrOf, rDivmod, startE, Ev.get, Ev.set, Ev.lend, Ev.noSlf, Slot.lend, Slot.noSlf, Slot.isL, Slot.isDK, Slot.isPurse, List.map, List.all, List.length_cons, List.length_nil, List.replicate, List.append, List.cons_append, List.nil_append, Nat.zero_add, Nat.reduceAdd, Nat.reduceSub, Nat.reduceLT, if_true, if_false, Bool.false_eq_true, Bool.not_true, Bool.not_false]
    have h : kk (optL (if 1 ≤ xs.length ∧ xs.length ≤ 6 then xs.mapM (pOptD names) else none)) := h
    by_cases h1 : 1 ≤ xs.length
    · rw [decide_eq_true (show (1 : Int) ≤ (xs.length : Int) by omega)]
      by_cases h2 : xs.length ≤ 6
      · rw [decide_eq_true (show (xs.length : Int) ≤ 6 by omega)]
        rw [if_pos ⟨h1, h2⟩] at h
        simp only [sSeq, sRet, sRetF, sRetN, sIf, sNext, sSet, sOwn, sOwnP, sPar, sExpr, sFldI, sBreak, sCont, sDPutD, sParFF, sParEF, sParFE, sParEFF, wIsi, wVar, wC, wOp, wUn, wB, wCons, wNil, wTup, wLst, wDct, wTru, wTruth, wNot, wAndT, wOrT, wAndV, wOrV, wNotV, wIfE, wChain, wCall, wCallP, wCallPF, wMake, wMakeE, wM, wSl, wPart, wNoPart, wMeth, wFldC, wFldS, wProp, wBor, wBorT, wAppend, wPopAt, wExtend, wDGet2, wLstRng, wFmt, wJoined, jCons, jNil, gN, gTupW, gCons', gNil', iL, iT, iS, iR1, iR2, iZp, iEn, dAdd, dSub, dMul, dMod, dFdiv, dPow, dLt, dLe, dGt, dGe, dNeg, dIs, dIsNot, rLenD, rTupOf, rLstOf, rMax2, rMin2, rAbs, rIntOf, rStrOf, rDivmod, startE, Ev.get, Ev.set, Ev.lend, Ev.noSlf, Slot.lend, Slot.noSlf, Slot.isL, Slot.isDK, Slot.isPurse, List.map, List.all, List.length_cons, List.length_nil, List.replicate, List.append, List.cons_append, List.nil_append, Nat.zero_add, Nat.reduceAdd, Nat.reduceSub, Nat.reduceLT, if_true, if_false, Bool.false_eq_true, Bool.not_true, Bool.not_false]
        refine hM _ (sSeq_gen fun M1 hM1 => ?_)
        simp only [sSeq, sRet, sRetF, sRetN, sIf, sNext, sSet, sOwn, sOwnP, sPar, sExpr, sFldI, sBreak, sCont, sDPutD, sParFF, sParEF, sParFE, sParEFF, wIsi, wVar, wC, wOp, wUn, wB, wCons, wNil, wTup, wLst, wDct, wTru, wTruth, wNot, wAndT, wOrT, wAndV, wOrV, wNotV, wIfE, wChain, wCall, wCallP, wCallPF, wMake, wMakeE, wM, wSl, wPart, wNoPart, wMeth, wFldC, wFldS, wProp, wBor, wBorT, wAppend, wPopAt, wExtend, wDGet2, wLstRng, wFmt, wJoined, jCons, jNil, gN, gTupW, gCons', gNil', iL, iT, iS, iR1, iR2, iZp, iEn, dAdd, dSub, dMul, dMod, dFdiv, dPow, dLt, dLe, dGt, dGe, dNeg, dIs, dIsNot, rLenD, rTupOf, rLstOf, rMax2, rMin2, rAbs, rIntOf, rStrOf, rDivmod, startE, Ev.get, Ev.set, Ev.lend, Ev.noSlf, Slot.lend, Slot.noSlf, Slot.isL, Slot.isDK, Slot.isPurse, List.map, List.all, List.length_cons, List.length_nil, List.replicate, List.append, List.cons_append, List.nil_append, Nat.zero_add, Nat.reduceAdd, Nat.reduceSub, Nat.reduceLT, if_true, if_false, Bool.false_eq_true, Bool.not_true, Bool.not_false]
        refine ⟨Nat.le_trans h2 (by rw [sizeLine_eq]; decide), ?_⟩
        refine lcM (fun d => optO (pOptD names d)) _ _ _ (fun d hd kk2 q => ?_) (hM1 _ ?_)
        · exact ⟨_, _, rfl, okL_mem hok hd, names, rfl, hn, q _ rfl⟩
        · simp only [sSeq, sRet, sRetF, sRetN, sIf, sNext, sSet, sOwn, sOwnP, sPar, sExpr, sFldI, sBreak, sCont, sDPutD, sParFF, sParEF, sParFE, sParEFF, wIsi, wVar, wC, wOp, wUn, wB, wCons, wNil, wTup, wLst, wDct, wTru, wTruth, wNot, wAndT, wOrT, wAndV, wOrV, wNotV, wIfE, wChain, wCall, wCallP, wCallPF, wMake, wMakeE, wM, wSl, wPart, wNoPart, wMeth, wFldC, wFldS, wProp, wBor, wBorT, wAppend, wPopAt, wExtend, wDGet2, wLstRng, wFmt, wJoined, jCons, jNil, gN, gTupW, gCons', gNil', iL, iT, iS, iR1, iR2, iZp, iEn, dAdd, dSub, dMul, dMod, dFdiv, dPow, dLt, dLe, dGt, dGe, dNeg, dIs, dIsNot, rLenD, rTupOf, rLstOf, rMax2, rMin2, rAbs, rIntOf, rStrOf, rDivmod, startE, Ev.get, Ev.set, Ev.lend, Ev.noSlf, Slot.lend, Slot.noSlf, Slot.isL, Slot.isDK, Slot.isPurse, List.map, List.all, List.length_cons, List.length_nil, List.replicate, List.append, List.cons_append, List.nil_append, Nat.zero_add, Nat.reduceAdd, Nat.reduceSub, Nat.reduceLT, if_true, if_false, Bool.false_eq_true, Bool.not_true, Bool.not_false, Ev.wipe]
          have e : (xs.map fun d => optO (pOptD names d)) = (xs.map (pOptD names)).map optO := by simp
          rw [e]
          simp only [dIn, inK_none]
          rw [mapM_opt] at h
          by_cases q : none ∈ xs.map (pOptD names)
          · rw [decide_eq_true q]
            rw [if_pos q] at h
            exact h
          · rw [decide_eq_false q]
            rw [if_neg q] at h
            simp only [sSeq, sRet, sRetF, sRetN, sIf, sNext, sSet, sOwn, sOwnP, sPar, sExpr, sFldI, sBreak, sCont, sDPutD, sParFF, sParEF, sParFE, sParEFF, wIsi, wVar, wC, wOp, wUn, wB, wCons, wNil, wTup, wLst, wDct, wTru, wTruth, wNot, wAndT, wOrT, wAndV, wOrV, wNotV, wIfE, wChain, wCall, wCallP, wCallPF, wMake, wMakeE, wM, wSl, wPart, wNoPart, wMeth, wFldC, wFldS, wProp, wBor, wBorT, wAppend, wPopAt, wExtend, wDGet2, wLstRng, wFmt, wJoined, jCons, jNil, gN, gTupW, gCons', gNil', iL, iT, iS, iR1, iR2, iZp, iEn, dAdd, dSub, dMul, dMod, dFdiv, dPow, dLt, dLe, dGt, dGe, dNeg, dIs, dIsNot, rLenD, rTupOf, rLstOf, rMax2, rMin2, rAbs, rIntOf, rStrOf, rDivmod, startE, Ev.get, Ev.set, Ev.lend, Ev.noSlf, Slot.lend, Slot.noSlf, Slot.isL, Slot.isDK, Slot.isPurse, List.map, List.all, List.length_cons, List.length_nil, List.replicate, List.append, List.cons_append, List.nil_append, Nat.zero_add, Nat.reduceAdd, Nat.reduceSub, Nat.reduceLT, if_true, if_false, Bool.false_eq_true, Bool.not_true, Bool.not_false]
            have e2 : (xs.map (pOptD names)).map optO = (xs.map fun d => (pOptD names d).getD []).map tupW := by
              rw [List.map_map, List.map_map]
              refine List.map_congr_left fun d hd => ?_
              cases e3 : pOptD names d with
              | none => exact absurd (List.mem_map.mpr ⟨d, hd, e3⟩) q
              | some w => simp [e3, optO]
            rw [e2]
            exact h
      · rw [decide_eq_false (show ¬ (xs.length : Int) ≤ 6 by omega)]
        rw [if_neg (fun z => h2 z.2)] at h
        exact h
    · rw [decide_eq_false (show ¬ (1 : Int) ≤ (xs.length : Int) by omega)]
      rw [if_neg (fun z => h1 z.1)] at h
      exact h
  | ins c fs => exact absurd rfl ht
  | _ => simp only [D.isTup, sSeq, sRet, sRetF, sRetN, sIf, sNext, sSet, sOwn, sOwnP, sPar, sExpr, sFldI, sBreak, sCont, sDPutD, sParFF, sParEF, sParFE, sParEFF, wIsi, wVar, wC, wOp, wUn, wB, wCons, wNil, wTup, wLst, wDct, wTru, wTruth, wNot, wAndT, wOrT, wAndV, wOrV, wNotV, wIfE, wChain, wCall, wCallP, wCallPF, wMake, wMakeE, wM, wSl, wPart, wNoPart, wMeth, wFldC, wFldS, wProp, wBor, wBorT, wAppend, wPopAt, wExtend, wDGet2, wLstRng, wFmt, wJoined, jCons, jNil, gN, gTupW, gCons', gNil', iL, iT, iS, iR1, iR2, iZp, iEn, dAdd, dSub, dMul, dMod, dFdiv, dPow, dLt, dLe, dGt, dGe, dNeg, dIs, dIsNot, rLenD, rTupOf, rLstOf, rMax2, rMin2, rAbs, rIntOf, rStrOf, rDivmod, startE, Ev.get, Ev.set, Ev.lend, Ev.noSlf, Slot.lend, Slot.noSlf, Slot.isL, Slot.isDK, Slot.isPurse, List.map, List.all, List.length_cons, List.length_nil, List.replicate, List.append, List.cons_append, List.nil_append, Nat.zero_add, Nat.reduceAdd, Nat.reduceSub, Nat.reduceLT, if_true, if_false, Bool.false_eq_true, Bool.not_true, Bool.not_false]; exact h
end W
set_option Elab.async false
set_option linter.all false
set_option maxRecDepth 100000
set_option maxHeartbeats 4000000
namespace W
open PySem PySem.Spec PyProof.Rows L2 Q
theorem n_check_rules {ds : List D} {kk : D → Prop} {kx : XC} (h : c_check_rules ds kk kx) : ds.length = 2 := by
  obtain ⟨a, b, rfl, _⟩ := h; rfl
theorem isNon_lstW {os : List (List Wd)} : (lstW os).isNon = false := rfl
theorem small5 : (7 : Nat) ≤ sizeLine := by rw [sizeLine_eq]; decide
theorem look_rules {b : Str} : ∀ {f : Rl}, lookD (f.map fun p => (Sum.inr p.1, lstW p.2)) (Sum.inr b : Key) = (f.lookup b).map lstW
  | [] => rfl
  | (n, w) :: r => by
    have ih := look_rules (b := b) (f := r)
    unfold lookD at ih ⊢
    by_cases q : n = b
    · subst q
      simp [List.lookup]
    · have q2 : (b == n) = false := beq_eq_false_iff_ne.mpr (Ne.symm q)
      have q3 : decide ((Sum.inr n : Key) = Sum.inr b) = false := decide_eq_false fun z => q (by cases z; rfl)
      simp only [List.map_cons, List.find?_cons, q3, List.lookup, q2]
      exact ih
theorem look_rsome {b : Str} : ∀ {f : Rl}, (f.lookup b).isSome = decide (b ∈ f.map (·.1))
  | [] => rfl
  | (n, w) :: r => by
    by_cases q : b = n
    · subst q; simp [List.lookup]
    · have q2 : (b == n) = false := beq_eq_false_iff_ne.mpr q
      simp only [List.lookup, q2]
      rw [look_rsome (f := r)]
      simp [q]
theorem put_rule {b : Str} {w : List (List Wd)} {f : Rl} (h : b ∉ f.map (·.1)) : putDK (f.map fun p => (Sum.inr p.1, lstW p.2)) (Sum.inr b) (lstW w) = (f ++ [(b, w)]).map fun p => (Sum.inr p.1, lstW p.2) := by
  unfold putDK
  have e : ((f.map fun p => ((Sum.inr p.1 : Key), lstW p.2)).any fun kv => decide (kv.1 = Sum.inr b)) = false := by
    rw [List.any_eq_false]
    intro x hx
    obtain ⟨p, hp, rfl⟩ := List.mem_map.mp hx
    simp only [decide_eq_true_eq]
    intro z
    have z' : p.1 = b := by cases z; rfl
    exact h (List.mem_map.mpr ⟨p, hp, z'⟩)
  rw [e, if_neg Bool.false_ne_true]
  simp
theorem pRule_some {names : List Str} {found f : Rl} {d : D} (h : pRule names found d = some f) : ∃ z o os, d = .tup [.str z, o] ∧ nameB z = true ∧ pOpts names o = some os ∧ z ∉ found.map (·.1) ∧ f = found ++ [(z, os)] := by
  unfold pRule at h
  split at h
  · rename_i z o
    by_cases q : nameB z = true
    · rw [if_pos q] at h
      cases e : pOpts names o with
      | none => rw [e] at h; cases h
      | some os =>
        rw [e] at h
        dsimp only at h
        by_cases q2 : z ∉ found.map (·.1)
        · rw [if_pos q2] at h
          cases h
          exact ⟨z, o, os, rfl, q, e, q2, rfl⟩
        · rw [if_neg q2] at h; cases h
    · rw [if_neg q] at h; cases h
  · cases h
theorem okL2 {x y : D} (h : D.ok (.tup [x, y]) = true) : D.ok x = true ∧ D.ok y = true := by
  have q : (D.ok x && (D.ok y && true)) = true := h
  simp only [Bool.and_eq_true] at q
  exact ⟨q.1, q.2.1⟩
theorem rules_loop {v : D} {names : List Str} {kk : D → Prop} {kx : XC} {M : Ev → Prop} {rf : D → Ev → Prop} {rs : Rl} (hn : names.length ≤ sizeLine) : ∀ (ds : List D) (i : Nat) (found : Rl) (s3 s4 s5 : Slot), i + ds.length ≤ 6 → found.length = i → D.okL ds = true → pRulesL names found ds = some rs →
    (∀ s3 s4 s5, M [.val (namesD names), .val v, .own (rulesD rs), s3, s4, s5]) →
    forL (gTupW 2 (gCons' (gN 3) (gCons' (gN 4) gNil'))) (sSeq (sIf (wOrT (wTru (wOp dEq (wVar 3) (wC (.int 6)))) (wOrT (wNot (wTruth (wIsi "tuple" (wVar 4)))) (wOrT (wTru (wOp dNe (wB rLenD (wCons (wVar 4) wNil)) (wC (.int 2)))) (wNot (wTruth (wCall c_is_name kx (wCons (wOp dIx (wVar 4) (wC (.int 0))) wNil))))))) sDead sNext)
    (sSeq (sSet (wCall c_parsed_options kx (wCons (wOp dIx (wVar 4) (wC (.int 1))) (wCons (wVar 0) wNil))) (gN 5))
    (sSeq (sIf (wOrT (wTru (wOp dIs (wVar 5) (wC .non))) (wBorT (wTru (wOp dIn (wOp dIx (wVar 4) (wC (.int 0))) (wVar 2))))) sDead sNext)
    (sDPutD 2 (wVar 5) (wOp dIx (wVar 4) (wC (.int 0))))))) ⟨M, fun d _ => kk d, fun _ => False, fun _ => False, rf⟩ (enumF i ds) [.val (namesD names), .val v, .own (rulesD found), s3, s4, s5]
  | [], i, found, s3, s4, s5, _, _, _, hl, hk => by
    cases hl
    exact hk s3 s4 s5
  | d :: r, i, found, s3, s4, s5, hi, ht, hok, hl, hk => by
    refine forL_gen fun M0 hM0 => ?_
    simp only [List.length_cons] at hi
    have hl' : (match pRule names found d with | none => none | some f => pRulesL names f r) = some rs := hl
    cases e : pRule names found d with
    | none => rw [e] at hl'; cases hl'
    | some f =>
      rw [e] at hl'
      dsimp only at hl'
      obtain ⟨z, o, os, ed, hz, ho, hnew, ef⟩ := pRule_some e
      have hd := okL_mem hok (List.mem_cons_self ..)
      subst ed
      obtain ⟨hz1, ho1⟩ := okL2 hd
      have e0 : atI [D.str z, o] (0 : Int) = some (.str z) := atI_nat (j := 0) rfl
      have e1 : atI [D.str z, o] (1 : Int) = some o := atI_nat (j := 1) rfl
      refine ⟨rfl, rfl, ?_⟩
      refine sSeq_gen fun M1 hM1 => ?_
      have htt : (D.tup [D.str z, o]).ty ≠ "" := ok_ty hd
      simp only [sSeq, sRet, sRetF, sRetN, sIf, sNext, sSet, sOwn, sOwnP, sPar, sExpr, sFldI, sBreak, sCont, sDPutD, sParFF, sParEF, sParFE, sParEFF, wIsi, wVar, wC, wOp, wUn, wB, wCons, wNil, wTup, wLst, wDct, wTru, wTruth, wNot, wAndT, wOrT, wAndV, wOrV, wNotV, wIfE, wChain, wCall, wCallP, wCallPF, wMake, wMakeE, wM, wSl, wPart, wNoPart, wMeth, wFldC, wFldS, wProp, wBor, wBorT, wAppend, wPopAt, wExtend, wDGet2, wLstRng, wFmt, wJoined, jCons, jNil, gN, gTupW, gCons', gNil', iL, iT, iS, iR1, iR2, iZp, iEn, dAdd, dSub, dMul, dMod, dFdiv, dPow, dLt, dLe, dGt, dGe, dNeg, dIs, dIsNot, rLenD, rTupOf, rLstOf, rMax2, rMin2, rAbs, rIntOf, rStrOf, rDivmod, startE, Ev.get, Ev.set, Ev.lend, Ev.noSlf, Slot.lend, Slot.noSlf, Slot.isL, Slot.isDK, Slot.isPurse, List.map, List.all, List.length_cons, List.length_nil, List.replicate, List.append, List.cons_append, List.nil_append, Nat.zero_add, Nat.reduceAdd, Nat.reduceSub, Nat.reduceLT, if_true, if_false, Bool.false_eq_true, Bool.not_true, Bool.not_false, dEq_int, dNe_int, isa_tuple htt, D.isTup]
      rw [decide_eq_false (show ¬ ((i : Int) = 6) by omega)]
      rw [show (!decide (((0 + 1 + 1 : Nat) : Int) = 2)) = false from rfl]
      simp only [sSeq, sRet, sRetF, sRetN, sIf, sNext, sSet, sOwn, sOwnP, sPar, sExpr, sFldI, sBreak, sCont, sDPutD, sParFF, sParEF, sParFE, sParEFF, wIsi, wVar, wC, wOp, wUn, wB, wCons, wNil, wTup, wLst, wDct, wTru, wTruth, wNot, wAndT, wOrT, wAndV, wOrV, wNotV, wIfE, wChain, wCall, wCallP, wCallPF, wMake, wMakeE, wM, wSl, wPart, wNoPart, wMeth, wFldC, wFldS, wProp, wBor, wBorT, wAppend, wPopAt, wExtend, wDGet2, wLstRng, wFmt, wJoined, jCons, jNil, gN, gTupW, gCons', gNil', iL, iT, iS, iR1, iR2, iZp, iEn, dAdd, dSub, dMul, dMod, dFdiv, dPow, dLt, dLe, dGt, dGe, dNeg, dIs, dIsNot, rLenD, rTupOf, rLstOf, rMax2, rMin2, rAbs, rIntOf, rStrOf, rDivmod, startE, Ev.get, Ev.set, Ev.lend, Ev.noSlf, Slot.lend, Slot.noSlf, Slot.isL, Slot.isDK, Slot.isPurse, List.map, List.all, List.length_cons, List.length_nil, List.replicate, List.append, List.cons_append, List.nil_append, Nat.zero_add, Nat.reduceAdd, Nat.reduceSub, Nat.reduceLT, if_true, if_false, Bool.false_eq_true, Bool.not_true, Bool.not_false, dIx, e0, e1]
      refine ⟨_, rfl, ok_ty hz1, ok_small hz1, ?_⟩
      rw [show nameD (.str z) = true from hz]
      simp only [sSeq, sRet, sRetF, sRetN, sIf, sNext, sSet, sOwn, sOwnP, sPar, sExpr, sFldI, sBreak, sCont, sDPutD, sParFF, sParEF, sParFE, sParEFF, wIsi, wVar, wC, wOp, wUn, wB, wCons, wNil, wTup, wLst, wDct, wTru, wTruth, wNot, wAndT, wOrT, wAndV, wOrV, wNotV, wIfE, wChain, wCall, wCallP, wCallPF, wMake, wMakeE, wM, wSl, wPart, wNoPart, wMeth, wFldC, wFldS, wProp, wBor, wBorT, wAppend, wPopAt, wExtend, wDGet2, wLstRng, wFmt, wJoined, jCons, jNil, gN, gTupW, gCons', gNil', iL, iT, iS, iR1, iR2, iZp, iEn, dAdd, dSub, dMul, dMod, dFdiv, dPow, dLt, dLe, dGt, dGe, dNeg, dIs, dIsNot, rLenD, rTupOf, rLstOf, rMax2, rMin2, rAbs, rIntOf, rStrOf, rDivmod, startE, Ev.get, Ev.set, Ev.lend, Ev.noSlf, Slot.lend, Slot.noSlf, Slot.isL, Slot.isDK, Slot.isPurse, List.map, List.all, List.length_cons, List.length_nil, List.replicate, List.append, List.cons_append, List.nil_append, Nat.zero_add, Nat.reduceAdd, Nat.reduceSub, Nat.reduceLT, if_true, if_false, Bool.false_eq_true, Bool.not_true, Bool.not_false]
      refine hM1 _ (sSeq_gen fun M2 hM2 => ?_)
      simp only [sSeq, sRet, sRetF, sRetN, sIf, sNext, sSet, sOwn, sOwnP, sPar, sExpr, sFldI, sBreak, sCont, sDPutD, sParFF, sParEF, sParFE, sParEFF, wIsi, wVar, wC, wOp, wUn, wB, wCons, wNil, wTup, wLst, wDct, wTru, wTruth, wNot, wAndT, wOrT, wAndV, wOrV, wNotV, wIfE, wChain, wCall, wCallP, wCallPF, wMake, wMakeE, wM, wSl, wPart, wNoPart, wMeth, wFldC, wFldS, wProp, wBor, wBorT, wAppend, wPopAt, wExtend, wDGet2, wLstRng, wFmt, wJoined, jCons, jNil, gN, gTupW, gCons', gNil', iL, iT, iS, iR1, iR2, iZp, iEn, dAdd, dSub, dMul, dMod, dFdiv, dPow, dLt, dLe, dGt, dGe, dNeg, dIs, dIsNot, rLenD, rTupOf, rLstOf, rMax2, rMin2, rAbs, rIntOf, rStrOf, rDivmod, startE, Ev.get, Ev.set, Ev.lend, Ev.noSlf, Slot.lend, Slot.noSlf, Slot.isL, Slot.isDK, Slot.isPurse, List.map, List.all, List.length_cons, List.length_nil, List.replicate, List.append, List.cons_append, List.nil_append, Nat.zero_add, Nat.reduceAdd, Nat.reduceSub, Nat.reduceLT, if_true, if_false, Bool.false_eq_true, Bool.not_true, Bool.not_false, dIx, e1]
      refine ⟨_, _, rfl, ho1, names, rfl, hn, ?_⟩
      rw [ho]
      simp only [optL, sSeq, sRet, sRetF, sRetN, sIf, sNext, sSet, sOwn, sOwnP, sPar, sExpr, sFldI, sBreak, sCont, sDPutD, sParFF, sParEF, sParFE, sParEFF, wIsi, wVar, wC, wOp, wUn, wB, wCons, wNil, wTup, wLst, wDct, wTru, wTruth, wNot, wAndT, wOrT, wAndV, wOrV, wNotV, wIfE, wChain, wCall, wCallP, wCallPF, wMake, wMakeE, wM, wSl, wPart, wNoPart, wMeth, wFldC, wFldS, wProp, wBor, wBorT, wAppend, wPopAt, wExtend, wDGet2, wLstRng, wFmt, wJoined, jCons, jNil, gN, gTupW, gCons', gNil', iL, iT, iS, iR1, iR2, iZp, iEn, dAdd, dSub, dMul, dMod, dFdiv, dPow, dLt, dLe, dGt, dGe, dNeg, dIs, dIsNot, rLenD, rTupOf, rLstOf, rMax2, rMin2, rAbs, rIntOf, rStrOf, rDivmod, startE, Ev.get, Ev.set, Ev.lend, Ev.noSlf, Slot.lend, Slot.noSlf, Slot.isL, Slot.isDK, Slot.isPurse, List.map, List.all, List.length_cons, List.length_nil, List.replicate, List.append, List.cons_append, List.nil_append, Nat.zero_add, Nat.reduceAdd, Nat.reduceSub, Nat.reduceLT, if_true, if_false, Bool.false_eq_true, Bool.not_true, Bool.not_false]
      refine hM2 _ (sSeq_gen fun M3 hM3 => ?_)
      simp only [sSeq, sRet, sRetF, sRetN, sIf, sNext, sSet, sOwn, sOwnP, sPar, sExpr, sFldI, sBreak, sCont, sDPutD, sParFF, sParEF, sParFE, sParEFF, wIsi, wVar, wC, wOp, wUn, wB, wCons, wNil, wTup, wLst, wDct, wTru, wTruth, wNot, wAndT, wOrT, wAndV, wOrV, wNotV, wIfE, wChain, wCall, wCallP, wCallPF, wMake, wMakeE, wM, wSl, wPart, wNoPart, wMeth, wFldC, wFldS, wProp, wBor, wBorT, wAppend, wPopAt, wExtend, wDGet2, wLstRng, wFmt, wJoined, jCons, jNil, gN, gTupW, gCons', gNil', iL, iT, iS, iR1, iR2, iZp, iEn, dAdd, dSub, dMul, dMod, dFdiv, dPow, dLt, dLe, dGt, dGe, dNeg, dIs, dIsNot, rLenD, rTupOf, rLstOf, rMax2, rMin2, rAbs, rIntOf, rStrOf, rDivmod, startE, Ev.get, Ev.set, Ev.lend, Ev.noSlf, Slot.lend, Slot.noSlf, Slot.isL, Slot.isDK, Slot.isPurse, List.map, List.all, List.length_cons, List.length_nil, List.replicate, List.append, List.cons_append, List.nil_append, Nat.zero_add, Nat.reduceAdd, Nat.reduceSub, Nat.reduceLT, if_true, if_false, Bool.false_eq_true, Bool.not_true, Bool.not_false, isNon_lstW, dIx, e0, dIn, rulesD, keyD, look_rules, Option.isSome_map, look_rsome]
      rw [decide_eq_false hnew]
      refine ⟨by first | rfl | trivial, by first | trivial | rfl, ?_⟩
      rw [if_neg Bool.false_ne_true]
      refine hM3 _ ?_
      simp only [sSeq, sRet, sRetF, sRetN, sIf, sNext, sSet, sOwn, sOwnP, sPar, sExpr, sFldI, sBreak, sCont, sDPutD, sParFF, sParEF, sParFE, sParEFF, wIsi, wVar, wC, wOp, wUn, wB, wCons, wNil, wTup, wLst, wDct, wTru, wTruth, wNot, wAndT, wOrT, wAndV, wOrV, wNotV, wIfE, wChain, wCall, wCallP, wCallPF, wMake, wMakeE, wM, wSl, wPart, wNoPart, wMeth, wFldC, wFldS, wProp, wBor, wBorT, wAppend, wPopAt, wExtend, wDGet2, wLstRng, wFmt, wJoined, jCons, jNil, gN, gTupW, gCons', gNil', iL, iT, iS, iR1, iR2, iZp, iEn, dAdd, dSub, dMul, dMod, dFdiv, dPow, dLt, dLe, dGt, dGe, dNeg, dIs, dIsNot, rLenD, rTupOf, rLstOf, rMax2, rMin2, rAbs, rIntOf, rStrOf, rDivmod, startE, Ev.get, Ev.set, Ev.lend, Ev.noSlf, Slot.lend, Slot.noSlf, Slot.isL, Slot.isDK, Slot.isPurse, List.map, List.all, List.length_cons, List.length_nil, List.replicate, List.append, List.cons_append, List.nil_append, Nat.zero_add, Nat.reduceAdd, Nat.reduceSub, Nat.reduceLT, if_true, if_false, Bool.false_eq_true, Bool.not_true, Bool.not_false, dIx, e0, keyD]
      refine ⟨trivial, by rw [List.length_map, ht]; have := small5; omega, ?_⟩
      rw [put_rule hnew, ← ef]
      refine hM0 _ ?_
      exact rules_loop hn r (i + 1) f _ _ _ (by omega) (by rw [ef]; simp [ht]) (by
        have q : (D.ok (.tup [D.str z, o]) && D.okL r) = true := hok
        rw [Bool.and_eq_true] at q
        exact q.2) hl' hk
theorem p_check_rules (ds : List D) (kk : D → Prop) (kx : XC) (h : c_check_rules ds kk kx) : (w_check_rules kx) { nx := fun _ => kk .non, rt := fun d _ => kk d } (startE 6 ds) := by
  obtain ⟨a, b, rfl, names, ds, rs, rfl, hn, rfl, hok, hne, hlen, hl, h⟩ := h
  have ht := ok_ty hok
  unfold w_check_rules
  refine sSeq_gen fun M hM => ?_
  simp only [sSeq, sRet, sRetF, sRetN, sIf, sNext, sSet, sOwn, sOwnP, sPar, sExpr, sFldI, sBreak, sCont, sDPutD, sParFF, sParEF, sParFE, sParEFF, wIsi, wVar, wC, wOp, wUn, wB, wCons, wNil, wTup, wLst, wDct, wTru, wTruth, wNot, wAndT, wOrT, wAndV, wOrV, wNotV, wIfE, wChain, wCall, wCallP, wCallPF, wMake, wMakeE, wM, wSl, wPart, wNoPart, wMeth, wFldC, wFldS, wProp, wBor, wBorT, wAppend, wPopAt, wExtend, wDGet2, wLstRng, wFmt, wJoined, jCons, jNil, gN, gTupW, gCons', gNil', iL, iT, iS, iR1, iR2, iZp, iEn, dAdd, dSub, dMul, dMod, dFdiv, dPow, dLt, dLe, dGt, dGe, dNeg, dIs, dIsNot, rLenD, rTupOf, rLstOf, rMax2, rMin2, rAbs, rIntOf, rStrOf, rDivmod, startE, Ev.get, Ev.set, Ev.lend, Ev.noSlf, Slot.lend, Slot.noSlf, Slot.isL, Slot.isDK, Slot.isPurse, List.map, List.all, List.length_cons, List.length_nil, List.replicate, List.append, List.cons_append, List.nil_append, Nat.zero_add, Nat.reduceAdd, Nat.reduceSub, Nat.reduceLT, if_true, if_false, Bool.false_eq_true, Bool.not_true, Bool.not_false, isa_tuple ht, D.isTup, dEq_int]
  rw [decide_eq_false (show ¬ ((ds.length : Int) = 0) by
    have : ds.length ≠ 0 := fun z => hne (List.length_eq_zero_iff.mp z)
    omega)]
  simp only [sSeq, sRet, sRetF, sRetN, sIf, sNext, sSet, sOwn, sOwnP, sPar, sExpr, sFldI, sBreak, sCont, sDPutD, sParFF, sParEF, sParFE, sParEFF, wIsi, wVar, wC, wOp, wUn, wB, wCons, wNil, wTup, wLst, wDct, wTru, wTruth, wNot, wAndT, wOrT, wAndV, wOrV, wNotV, wIfE, wChain, wCall, wCallP, wCallPF, wMake, wMakeE, wM, wSl, wPart, wNoPart, wMeth, wFldC, wFldS, wProp, wBor, wBorT, wAppend, wPopAt, wExtend, wDGet2, wLstRng, wFmt, wJoined, jCons, jNil, gN, gTupW, gCons', gNil', iL, iT, iS, iR1, iR2, iZp, iEn, dAdd, dSub, dMul, dMod, dFdiv, dPow, dLt, dLe, dGt, dGe, dNeg, dIs, dIsNot, rLenD, rTupOf, rLstOf, rMax2, rMin2, rAbs, rIntOf, rStrOf, rDivmod, startE, Ev.get, Ev.set, Ev.lend, Ev.noSlf, Slot.lend, Slot.noSlf, Slot.isL, Slot.isDK, Slot.isPurse, List.map, List.all, List.length_cons, List.length_nil, List.replicate, List.append, List.cons_append, List.nil_append, Nat.zero_add, Nat.reduceAdd, Nat.reduceSub, Nat.reduceLT, if_true, if_false, Bool.false_eq_true, Bool.not_true, Bool.not_false]
  refine hM _ (sSeq_gen fun M1 hM1 => ?_)
  simp only [sSeq, sRet, sRetF, sRetN, sIf, sNext, sSet, sOwn, sOwnP, sPar, sExpr, sFldI, sBreak, sCont, sDPutD, sParFF, sParEF, sParFE, sParEFF, wIsi, wVar, wC, wOp, wUn, wB, wCons, wNil, wTup, wLst, wDct, wTru, wTruth, wNot, wAndT, wOrT, wAndV, wOrV, wNotV, wIfE, wChain, wCall, wCallP, wCallPF, wMake, wMakeE, wM, wSl, wPart, wNoPart, wMeth, wFldC, wFldS, wProp, wBor, wBorT, wAppend, wPopAt, wExtend, wDGet2, wLstRng, wFmt, wJoined, jCons, jNil, gN, gTupW, gCons', gNil', iL, iT, iS, iR1, iR2, iZp, iEn, dAdd, dSub, dMul, dMod, dFdiv, dPow, dLt, dLe, dGt, dGe, dNeg, dIs, dIsNot, rLenD, rTupOf, rLstOf, rMax2, rMin2, rAbs, rIntOf, rStrOf, rDivmod, startE, Ev.get, Ev.set, Ev.lend, Ev.noSlf, Slot.lend, Slot.noSlf, Slot.isL, Slot.isDK, Slot.isPurse, List.map, List.all, List.length_cons, List.length_nil, List.replicate, List.append, List.cons_append, List.nil_append, Nat.zero_add, Nat.reduceAdd, Nat.reduceSub, Nat.reduceLT, if_true, if_false, Bool.false_eq_true, Bool.not_true, Bool.not_false]
  refine ⟨by decide, hM1 _ (sSeq_gen fun M2 hM2 => ?_)⟩
  simp only [sFor, sSeq, sRet, sRetF, sRetN, sIf, sNext, sSet, sOwn, sOwnP, sPar, sExpr, sFldI, sBreak, sCont, sDPutD, sParFF, sParEF, sParFE, sParEFF, wIsi, wVar, wC, wOp, wUn, wB, wCons, wNil, wTup, wLst, wDct, wTru, wTruth, wNot, wAndT, wOrT, wAndV, wOrV, wNotV, wIfE, wChain, wCall, wCallP, wCallPF, wMake, wMakeE, wM, wSl, wPart, wNoPart, wMeth, wFldC, wFldS, wProp, wBor, wBorT, wAppend, wPopAt, wExtend, wDGet2, wLstRng, wFmt, wJoined, jCons, jNil, gN, gTupW, gCons', gNil', iL, iT, iS, iR1, iR2, iZp, iEn, dAdd, dSub, dMul, dMod, dFdiv, dPow, dLt, dLe, dGt, dGe, dNeg, dIs, dIsNot, rLenD, rTupOf, rLstOf, rMax2, rMin2, rAbs, rIntOf, rStrOf, rDivmod, startE, Ev.get, Ev.set, Ev.lend, Ev.noSlf, Slot.lend, Slot.noSlf, Slot.isL, Slot.isDK, Slot.isPurse, List.map, List.all, List.length_cons, List.length_nil, List.replicate, List.append, List.cons_append, List.nil_append, Nat.zero_add, Nat.reduceAdd, Nat.reduceSub, Nat.reduceLT, if_true, if_false, Bool.false_eq_true, Bool.not_true, Bool.not_false]
  rw [enumF_eq]
  refine rules_loop hn ds 0 [] .un .un .un (by omega) rfl hok hl fun s3 s4 s5 => hM2 _ ?_
  simp only [sSeq, sRet, sRetF, sRetN, sIf, sNext, sSet, sOwn, sOwnP, sPar, sExpr, sFldI, sBreak, sCont, sDPutD, sParFF, sParEF, sParFE, sParEFF, wIsi, wVar, wC, wOp, wUn, wB, wCons, wNil, wTup, wLst, wDct, wTru, wTruth, wNot, wAndT, wOrT, wAndV, wOrV, wNotV, wIfE, wChain, wCall, wCallP, wCallPF, wMake, wMakeE, wM, wSl, wPart, wNoPart, wMeth, wFldC, wFldS, wProp, wBor, wBorT, wAppend, wPopAt, wExtend, wDGet2, wLstRng, wFmt, wJoined, jCons, jNil, gN, gTupW, gCons', gNil', iL, iT, iS, iR1, iR2, iZp, iEn, dAdd, dSub, dMul, dMod, dFdiv, dPow, dLt, dLe, dGt, dGe, dNeg, dIs, dIsNot, rLenD, rTupOf, rLstOf, rMax2, rMin2, rAbs, rIntOf, rStrOf, rDivmod, startE, Ev.get, Ev.set, Ev.lend, Ev.noSlf, Slot.lend, Slot.noSlf, Slot.isL, Slot.isDK, Slot.isPurse, List.map, List.all, List.length_cons, List.length_nil, List.replicate, List.append, List.cons_append, List.nil_append, Nat.zero_add, Nat.reduceAdd, Nat.reduceSub, Nat.reduceLT, if_true, if_false, Bool.false_eq_true, Bool.not_true, Bool.not_false]
  exact h
theorem n_check_lies {ds : List D} {kk : D → Prop} {kx : XC} (h : c_check_lies ds kk kx) : ds.length = 2 := by
  obtain ⟨a, b, rfl, _⟩ := h; rfl
theorem mapM_cons' {f : D → Option (List Wd)} {d : D} {r : List D} {os : List (List Wd)} (h : (d :: r).mapM f = some os) : ∃ w ws, f d = some w ∧ r.mapM f = some ws ∧ os = w :: ws := by
  rw [List.mapM_cons] at h
  cases e : f d with
  | none => rw [e] at h; cases h
  | some w =>
    rw [e] at h
    cases e2 : r.mapM f with
    | none => rw [e2] at h; cases h
    | some ws =>
      rw [e2] at h
      cases h
      exact ⟨w, ws, rfl, rfl, rfl⟩
theorem lies_loop {v : D} {names : List Str} {kk : D → Prop} {kx : XC} {M : Ev → Prop} {rf : D → Ev → Prop} {os : List (List Wd)} (hn : names.length ≤ sizeLine) : ∀ (ds : List D) (i : Nat) (pre ws : List (List Wd)) (s3 s4 s5 : Slot), i + ds.length ≤ 6 → pre.length = i → D.okL ds = true → ds.mapM (pOptD names) = some ws → os = pre ++ ws →
    (∀ s3 s4 s5, M [.val (namesD names), .val v, .own (lstW os), s3, s4, s5]) →
    forL (gTupW 2 (gCons' (gN 3) (gCons' (gN 4) gNil'))) (sSeq (sSet (wIfE (wTru (wOp dLt (wVar 3) (wC (.int 6)))) (wCall c_parsed_option kx (wCons (wVar 4) (wCons (wVar 0) wNil))) (wC .non)) (gN 5))
    (sSeq (sIf (wTru (wOp dIs (wVar 5) (wC .non))) sDead sNext)
    (sExpr (wAppend 2 (wVar 5))))) ⟨M, fun d _ => kk d, fun _ => False, fun _ => False, rf⟩ (enumF i ds) [.val (namesD names), .val v, .own (lstW pre), s3, s4, s5]
  | [], i, pre, ws, s3, s4, s5, _, _, _, hl, he, hk => by
    cases hl
    have he : os = pre := by simpa using he
    subst he
    exact hk s3 s4 s5
  | d :: r, i, pre, ws, s3, s4, s5, hi, ht, hok, hl, he, hk => by
    refine forL_gen fun M0 hM0 => ?_
    simp only [List.length_cons] at hi
    obtain ⟨w, ws', h1, h2, rfl⟩ := mapM_cons' hl
    have hd := okL_mem hok (List.mem_cons_self ..)
    refine ⟨rfl, rfl, ?_⟩
    refine sSeq_gen fun M1 hM1 => ?_
    simp only [sSeq, sRet, sRetF, sRetN, sIf, sNext, sSet, sOwn, sOwnP, sPar, sExpr, sFldI, sBreak, sCont, sDPutD, sParFF, sParEF, sParFE, sParEFF, wIsi, wVar, wC, wOp, wUn, wB, wCons, wNil, wTup, wLst, wDct, wTru, wTruth, wNot, wAndT, wOrT, wAndV, wOrV, wNotV, wIfE, wChain, wCall, wCallP, wCallPF, wMake, wMakeE, wM, wSl, wPart, wNoPart, wMeth, wFldC, wFldS, wProp, wBor, wBorT, wAppend, wPopAt, wExtend, wDGet2, wLstRng, wFmt, wJoined, jCons, jNil, gN, gTupW, gCons', gNil', iL, iT, iS, iR1, iR2, iZp, iEn, dAdd, dSub, dMul, dMod, dFdiv, dPow, dLt, dLe, dGt, dGe, dNeg, dIs, dIsNot, rLenD, rTupOf, rLstOf, rMax2, rMin2, rAbs, rIntOf, rStrOf, rDivmod, startE, Ev.get, Ev.set, Ev.lend, Ev.noSlf, Slot.lend, Slot.noSlf, Slot.isL, Slot.isDK, Slot.isPurse, List.map, List.all, List.length_cons, List.length_nil, List.replicate, List.append, List.cons_append, List.nil_append, Nat.zero_add, Nat.reduceAdd, Nat.reduceSub, Nat.reduceLT, if_true, if_false, Bool.false_eq_true, Bool.not_true, Bool.not_false]
    rw [decide_eq_true (show (i : Int) < 6 by omega)]
    simp only [sSeq, sRet, sRetF, sRetN, sIf, sNext, sSet, sOwn, sOwnP, sPar, sExpr, sFldI, sBreak, sCont, sDPutD, sParFF, sParEF, sParFE, sParEFF, wIsi, wVar, wC, wOp, wUn, wB, wCons, wNil, wTup, wLst, wDct, wTru, wTruth, wNot, wAndT, wOrT, wAndV, wOrV, wNotV, wIfE, wChain, wCall, wCallP, wCallPF, wMake, wMakeE, wM, wSl, wPart, wNoPart, wMeth, wFldC, wFldS, wProp, wBor, wBorT, wAppend, wPopAt, wExtend, wDGet2, wLstRng, wFmt, wJoined, jCons, jNil, gN, gTupW, gCons', gNil', iL, iT, iS, iR1, iR2, iZp, iEn, dAdd, dSub, dMul, dMod, dFdiv, dPow, dLt, dLe, dGt, dGe, dNeg, dIs, dIsNot, rLenD, rTupOf, rLstOf, rMax2, rMin2, rAbs, rIntOf, rStrOf, rDivmod, startE, Ev.get, Ev.set, Ev.lend, Ev.noSlf, Slot.lend, Slot.noSlf, Slot.isL, Slot.isDK, Slot.isPurse, List.map, List.all, List.length_cons, List.length_nil, List.replicate, List.append, List.cons_append, List.nil_append, Nat.zero_add, Nat.reduceAdd, Nat.reduceSub, Nat.reduceLT, if_true, if_false, Bool.false_eq_true, Bool.not_true, Bool.not_false]
    refine ⟨_, _, rfl, hd, names, rfl, hn, ?_⟩
    rw [h1]
    refine hM1 _ (sSeq_gen fun M2 hM2 => ?_)
    simp only [sSeq, sRet, sRetF, sRetN, sIf, sNext, sSet, sOwn, sOwnP, sPar, sExpr, sFldI, sBreak, sCont, sDPutD, sParFF, sParEF, sParFE, sParEFF, wIsi, wVar, wC, wOp, wUn, wB, wCons, wNil, wTup, wLst, wDct, wTru, wTruth, wNot, wAndT, wOrT, wAndV, wOrV, wNotV, wIfE, wChain, wCall, wCallP, wCallPF, wMake, wMakeE, wM, wSl, wPart, wNoPart, wMeth, wFldC, wFldS, wProp, wBor, wBorT, wAppend, wPopAt, wExtend, wDGet2, wLstRng, wFmt, wJoined, jCons, jNil, gN, gTupW, gCons', gNil', iL, iT, iS, iR1, iR2, iZp, iEn, dAdd, dSub, dMul, dMod, dFdiv, dPow, dLt, dLe, dGt, dGe, dNeg, dIs, dIsNot, rLenD, rTupOf, rLstOf, rMax2, rMin2, rAbs, rIntOf, rStrOf, rDivmod, startE, Ev.get, Ev.set, Ev.lend, Ev.noSlf, Slot.lend, Slot.noSlf, Slot.isL, Slot.isDK, Slot.isPurse, List.map, List.all, List.length_cons, List.length_nil, List.replicate, List.append, List.cons_append, List.nil_append, Nat.zero_add, Nat.reduceAdd, Nat.reduceSub, Nat.reduceLT, if_true, if_false, Bool.false_eq_true, Bool.not_true, Bool.not_false, optO, tupW, D.isNon]
    refine hM2 _ ?_
    simp only [sSeq, sRet, sRetF, sRetN, sIf, sNext, sSet, sOwn, sOwnP, sPar, sExpr, sFldI, sBreak, sCont, sDPutD, sParFF, sParEF, sParFE, sParEFF, wIsi, wVar, wC, wOp, wUn, wB, wCons, wNil, wTup, wLst, wDct, wTru, wTruth, wNot, wAndT, wOrT, wAndV, wOrV, wNotV, wIfE, wChain, wCall, wCallP, wCallPF, wMake, wMakeE, wM, wSl, wPart, wNoPart, wMeth, wFldC, wFldS, wProp, wBor, wBorT, wAppend, wPopAt, wExtend, wDGet2, wLstRng, wFmt, wJoined, jCons, jNil, gN, gTupW, gCons', gNil', iL, iT, iS, iR1, iR2, iZp, iEn, dAdd, dSub, dMul, dMod, dFdiv, dPow, dLt, dLe, dGt, dGe, dNeg, dIs, dIsNot, rLenD, rTupOf, rLstOf, rMax2, rMin2, rAbs, rIntOf, rStrOf, rDivmod, startE, Ev.get, Ev.set, Ev.lend, Ev.noSlf, Slot.lend, Slot.noSlf, Slot.isL, Slot.isDK, Slot.isPurse, List.map, List.all, List.length_cons, List.length_nil, List.replicate, List.append, List.cons_append, List.nil_append, Nat.zero_add, Nat.reduceAdd, Nat.reduceSub, Nat.reduceLT, if_true, if_false, Bool.false_eq_true, Bool.not_true, Bool.not_false, lstW]
    refine ⟨trivial, by rw [List.length_map, ht]; have := small5; omega, hM0 _ ?_⟩
    have e : pre.map tupW ++ [D.tup (w.map wordD)] = (pre ++ [w]).map tupW := by simp [tupW]
    rw [e]
    exact lies_loop hn r (i + 1) (pre ++ [w]) ws' _ _ _ (by omega) (by simp [ht]) (by
        have q : (D.ok d && D.okL r) = true := hok
        rw [Bool.and_eq_true] at q
        exact q.2) h2 (by rw [he]; simp) hk
theorem p_check_lies (ds : List D) (kk : D → Prop) (kx : XC) (h : c_check_lies ds kk kx) : (w_check_lies kx) { nx := fun _ => kk .non, rt := fun d _ => kk d } (startE 6 ds) := by
  obtain ⟨a, b, rfl, names, ds, os, rfl, hn, rfl, hok, hlen, hl, h⟩ := h
  have ht := ok_ty hok
  unfold w_check_lies
  refine sSeq_gen fun M hM => ?_
  simp only [sSeq, sRet, sRetF, sRetN, sIf, sNext, sSet, sOwn, sOwnP, sPar, sExpr, sFldI, sBreak, sCont, sDPutD, sParFF, sParEF, sParFE, sParEFF, wIsi, wVar, wC, wOp, wUn, wB, wCons, wNil, wTup, wLst, wDct, wTru, wTruth, wNot, wAndT, wOrT, wAndV, wOrV, wNotV, wIfE, wChain, wCall, wCallP, wCallPF, wMake, wMakeE, wM, wSl, wPart, wNoPart, wMeth, wFldC, wFldS, wProp, wBor, wBorT, wAppend, wPopAt, wExtend, wDGet2, wLstRng, wFmt, wJoined, jCons, jNil, gN, gTupW, gCons', gNil', iL, iT, iS, iR1, iR2, iZp, iEn, dAdd, dSub, dMul, dMod, dFdiv, dPow, dLt, dLe, dGt, dGe, dNeg, dIs, dIsNot, rLenD, rTupOf, rLstOf, rMax2, rMin2, rAbs, rIntOf, rStrOf, rDivmod, startE, Ev.get, Ev.set, Ev.lend, Ev.noSlf, Slot.lend, Slot.noSlf, Slot.isL, Slot.isDK, Slot.isPurse, List.map, List.all, List.length_cons, List.length_nil, List.replicate, List.append, List.cons_append, List.nil_append, Nat.zero_add, Nat.reduceAdd, Nat.reduceSub, Nat.reduceLT, if_true, if_false, Bool.false_eq_true, Bool.not_true, Bool.not_false, isa_tuple ht, D.isTup]
  refine hM _ (sSeq_gen fun M1 hM1 => ?_)
  simp only [sSeq, sRet, sRetF, sRetN, sIf, sNext, sSet, sOwn, sOwnP, sPar, sExpr, sFldI, sBreak, sCont, sDPutD, sParFF, sParEF, sParFE, sParEFF, wIsi, wVar, wC, wOp, wUn, wB, wCons, wNil, wTup, wLst, wDct, wTru, wTruth, wNot, wAndT, wOrT, wAndV, wOrV, wNotV, wIfE, wChain, wCall, wCallP, wCallPF, wMake, wMakeE, wM, wSl, wPart, wNoPart, wMeth, wFldC, wFldS, wProp, wBor, wBorT, wAppend, wPopAt, wExtend, wDGet2, wLstRng, wFmt, wJoined, jCons, jNil, gN, gTupW, gCons', gNil', iL, iT, iS, iR1, iR2, iZp, iEn, dAdd, dSub, dMul, dMod, dFdiv, dPow, dLt, dLe, dGt, dGe, dNeg, dIs, dIsNot, rLenD, rTupOf, rLstOf, rMax2, rMin2, rAbs, rIntOf, rStrOf, rDivmod, startE, Ev.get, Ev.set, Ev.lend, Ev.noSlf, Slot.lend, Slot.noSlf, Slot.isL, Slot.isDK, Slot.isPurse, List.map, List.all, List.length_cons, List.length_nil, List.replicate, List.append, List.cons_append, List.nil_append, Nat.zero_add, Nat.reduceAdd, Nat.reduceSub, Nat.reduceLT, if_true, if_false, Bool.false_eq_true, Bool.not_true, Bool.not_false]
  refine ⟨by decide, by decide +kernel, hM1 _ (sSeq_gen fun M2 hM2 => ?_)⟩
  simp only [sFor, sSeq, sRet, sRetF, sRetN, sIf, sNext, sSet, sOwn, sOwnP, sPar, sExpr, sFldI, sBreak, sCont, sDPutD, sParFF, sParEF, sParFE, sParEFF, wIsi, wVar, wC, wOp, wUn, wB, wCons, wNil, wTup, wLst, wDct, wTru, wTruth, wNot, wAndT, wOrT, wAndV, wOrV, wNotV, wIfE, wChain, wCall, wCallP, wCallPF, wMake, wMakeE, wM, wSl, wPart, wNoPart, wMeth, wFldC, wFldS, wProp, wBor, wBorT, wAppend, wPopAt, wExtend, wDGet2, wLstRng, wFmt, wJoined, jCons, jNil, gN, gTupW, gCons', gNil', iL, iT, iS, iR1, iR2, iZp, iEn, dAdd, dSub, dMul, dMod, dFdiv, dPow, dLt, dLe, dGt, dGe, dNeg, dIs, dIsNot, rLenD, rTupOf, rLstOf, rMax2, rMin2, rAbs, rIntOf, rStrOf, rDivmod, startE, Ev.get, Ev.set, Ev.lend, Ev.noSlf, Slot.lend, Slot.noSlf, Slot.isL, Slot.isDK, Slot.isPurse, List.map, List.all, List.length_cons, List.length_nil, List.replicate, List.append, List.cons_append, List.nil_append, Nat.zero_add, Nat.reduceAdd, Nat.reduceSub, Nat.reduceLT, if_true, if_false, Bool.false_eq_true, Bool.not_true, Bool.not_false]
  rw [enumF_eq]
  refine lies_loop hn ds 0 [] os .un .un .un (by omega) rfl hok hl rfl fun s3 s4 s5 => hM2 _ ?_
  simp only [sSeq, sRet, sRetF, sRetN, sIf, sNext, sSet, sOwn, sOwnP, sPar, sExpr, sFldI, sBreak, sCont, sDPutD, sParFF, sParEF, sParFE, sParEFF, wIsi, wVar, wC, wOp, wUn, wB, wCons, wNil, wTup, wLst, wDct, wTru, wTruth, wNot, wAndT, wOrT, wAndV, wOrV, wNotV, wIfE, wChain, wCall, wCallP, wCallPF, wMake, wMakeE, wM, wSl, wPart, wNoPart, wMeth, wFldC, wFldS, wProp, wBor, wBorT, wAppend, wPopAt, wExtend, wDGet2, wLstRng, wFmt, wJoined, jCons, jNil, gN, gTupW, gCons', gNil', iL, iT, iS, iR1, iR2, iZp, iEn, dAdd, dSub, dMul, dMod, dFdiv, dPow, dLt, dLe, dGt, dGe, dNeg, dIs, dIsNot, rLenD, rTupOf, rLstOf, rMax2, rMin2, rAbs, rIntOf, rStrOf, rDivmod, startE, Ev.get, Ev.set, Ev.lend, Ev.noSlf, Slot.lend, Slot.noSlf, Slot.isL, Slot.isDK, Slot.isPurse, List.map, List.all, List.length_cons, List.length_nil, List.replicate, List.append, List.cons_append, List.nil_append, Nat.zero_add, Nat.reduceAdd, Nat.reduceSub, Nat.reduceLT, if_true, if_false, Bool.false_eq_true, Bool.not_true, Bool.not_false, lstW]
  exact h
/-! ### Plan -/
theorem n_Plan___init__ {ds : List D} {kk : List (Str × D) → Prop} {kx : XC} (h : ci_Plan ds kk kx) : ds.length + 1 = 4 := by
  obtain ⟨a, b, c, d, e, rfl, _⟩ := h; rfl
theorem lotsL_name : ∀ {ds : List D} {taken : List Str}, lotsL taken ds = true → ∀ d ∈ ds, ∃ z r, d = .tup (.str z :: r) ∧ lotName d = z
  | d :: r, taken, h, x, hx => by
    have h' : (lotB taken d && lotsL (taken ++ [lotName d]) r) = true := h
    rw [Bool.and_eq_true] at h'
    rcases List.mem_cons.mp hx with rfl | hx
    · exact lotB_name h'.1
    · exact lotsL_name h'.2 x hx
theorem p_Plan___init__ (ds : List D) (kk : List (Str × D) → Prop) (kx : XC) (h : ci_Plan ds kk kx) : (w_Plan___init__ kx) { nx := fun ρ => ∃ fs, ρ.get 0 = .slf (.ins "Plan" fs) ∧ kk fs, rt := fun d ρ => False } (.slf (.ins "Plan" []) :: startE 4 ds) := by
  obtain ⟨lots, rules, lies, rs, ls, rfl, o1, o2, o3, l1, l2, l3, r1, r2, r3, s1, s2, h⟩ := h
  unfold w_Plan___init__
  refine sSeq_gen fun M hM => ?_
  simp only [sSeq, sRet, sRetF, sRetN, sIf, sNext, sSet, sOwn, sOwnP, sPar, sExpr, sFldI, sBreak, sCont, sDPutD, sParFF, sParEF, sParFE, sParEFF, wIsi, wVar, wC, wOp, wUn, wB, wCons, wNil, wTup, wLst, wDct, wTru, wTruth, wNot, wAndT, wOrT, wAndV, wOrV, wNotV, wIfE, wChain, wCall, wCallP, wCallPF, wMake, wMakeE, wM, wSl, wPart, wNoPart, wMeth, wFldC, wFldS, wProp, wBor, wBorT, wAppend, wPopAt, wExtend, wDGet2, wLstRng, wFmt, wJoined, jCons, jNil, gN, gTupW, gCons', gNil', iL, iT, iS, iR1, iR2, iZp, iEn, dAdd, dSub, dMul, dMod, dFdiv, dPow, dLt, dLe, dGt, dGe, dNeg, dIs, dIsNot, rLenD, rTupOf, rLstOf, rMax2, rMin2, rAbs, rIntOf, rStrOf, rDivmod, startE, Ev.get, Ev.set, Ev.lend, Ev.noSlf, Slot.lend, Slot.noSlf, Slot.isL, Slot.isDK, Slot.isPurse, List.map, List.all, List.length_cons, List.length_nil, List.replicate, List.append, List.cons_append, List.nil_append, Nat.zero_add, Nat.reduceAdd, Nat.reduceSub, Nat.reduceLT, if_true, if_false, Bool.false_eq_true, Bool.not_true, Bool.not_false]
  refine ⟨_, rfl, lots, rfl, o1, l1, l2, l3, hM _ (sSeq_gen fun M1 hM1 => ?_)⟩
  have five : (5 : Nat) ≤ sizeLine := by have := small5; omega
  simp only [sSeq, sRet, sRetF, sRetN, sIf, sNext, sSet, sOwn, sOwnP, sPar, sExpr, sFldI, sBreak, sCont, sDPutD, sParFF, sParEF, sParFE, sParEFF, wIsi, wVar, wC, wOp, wUn, wB, wCons, wNil, wTup, wLst, wDct, wTru, wTruth, wNot, wAndT, wOrT, wAndV, wOrV, wNotV, wIfE, wChain, wCall, wCallP, wCallPF, wMake, wMakeE, wM, wSl, wPart, wNoPart, wMeth, wFldC, wFldS, wProp, wBor, wBorT, wAppend, wPopAt, wExtend, wDGet2, wLstRng, wFmt, wJoined, jCons, jNil, gN, gTupW, gCons', gNil', iL, iT, iS, iR1, iR2, iZp, iEn, dAdd, dSub, dMul, dMod, dFdiv, dPow, dLt, dLe, dGt, dGe, dNeg, dIs, dIsNot, rLenD, rTupOf, rLstOf, rMax2, rMin2, rAbs, rIntOf, rStrOf, rDivmod, startE, Ev.get, Ev.set, Ev.lend, Ev.noSlf, Slot.lend, Slot.noSlf, Slot.isL, Slot.isDK, Slot.isPurse, List.map, List.all, List.length_cons, List.length_nil, List.replicate, List.append, List.cons_append, List.nil_append, Nat.zero_add, Nat.reduceAdd, Nat.reduceSub, Nat.reduceLT, if_true, if_false, Bool.false_eq_true, Bool.not_true, Bool.not_false]
  refine ⟨Nat.le_trans l2 five, ?_⟩
  simp only [Ev.wipe]
  refine lcM (fun d => .str (lotName d)) _ _ _ (fun d hd kk2 q => ?_) ?_
  · obtain ⟨z, r, rfl, hz⟩ := lotsL_name l3 d hd
    have e0 : atI (D.str z :: r) (0 : Int) = some (.str z) := atI_nat (j := 0) rfl
    simp only [sSeq, sRet, sRetF, sRetN, sIf, sNext, sSet, sOwn, sOwnP, sPar, sExpr, sFldI, sBreak, sCont, sDPutD, sParFF, sParEF, sParFE, sParEFF, wIsi, wVar, wC, wOp, wUn, wB, wCons, wNil, wTup, wLst, wDct, wTru, wTruth, wNot, wAndT, wOrT, wAndV, wOrV, wNotV, wIfE, wChain, wCall, wCallP, wCallPF, wMake, wMakeE, wM, wSl, wPart, wNoPart, wMeth, wFldC, wFldS, wProp, wBor, wBorT, wAppend, wPopAt, wExtend, wDGet2, wLstRng, wFmt, wJoined, jCons, jNil, gN, gTupW, gCons', gNil', iL, iT, iS, iR1, iR2, iZp, iEn, dAdd, dSub, dMul, dMod, dFdiv, dPow, dLt, dLe, dGt, dGe, dNeg, dIs, dIsNot, rLenD, rTupOf, rLstOf, rMax2, rMin2, rAbs, rIntOf, rStrOf, rDivmod, startE, Ev.get, Ev.set, Ev.lend, Ev.noSlf, Slot.lend, Slot.noSlf, Slot.isL, Slot.isDK, Slot.isPurse, List.map, List.all, List.length_cons, List.length_nil, List.replicate, List.append, List.cons_append, List.nil_append, Nat.zero_add, Nat.reduceAdd, Nat.reduceSub, Nat.reduceLT, if_true, if_false, Bool.false_eq_true, Bool.not_true, Bool.not_false, dIx, e0]
    rw [← hz]
    exact q _ rfl
  · have en : (lots.map fun d => D.str (lotName d)) = (lots.map lotName).map D.str := by simp
    rw [en]
    simp only [sSeq, sRet, sRetF, sRetN, sIf, sNext, sSet, sOwn, sOwnP, sPar, sExpr, sFldI, sBreak, sCont, sDPutD, sParFF, sParEF, sParFE, sParEFF, wIsi, wVar, wC, wOp, wUn, wB, wCons, wNil, wTup, wLst, wDct, wTru, wTruth, wNot, wAndT, wOrT, wAndV, wOrV, wNotV, wIfE, wChain, wCall, wCallP, wCallPF, wMake, wMakeE, wM, wSl, wPart, wNoPart, wMeth, wFldC, wFldS, wProp, wBor, wBorT, wAppend, wPopAt, wExtend, wDGet2, wLstRng, wFmt, wJoined, jCons, jNil, gN, gTupW, gCons', gNil', iL, iT, iS, iR1, iR2, iZp, iEn, dAdd, dSub, dMul, dMod, dFdiv, dPow, dLt, dLe, dGt, dGe, dNeg, dIs, dIsNot, rLenD, rTupOf, rLstOf, rMax2, rMin2, rAbs, rIntOf, rStrOf, rDivmod, startE, Ev.get, Ev.set, Ev.lend, Ev.noSlf, Slot.lend, Slot.noSlf, Slot.isL, Slot.isDK, Slot.isPurse, List.map, List.all, List.length_cons, List.length_nil, List.replicate, List.append, List.cons_append, List.nil_append, Nat.zero_add, Nat.reduceAdd, Nat.reduceSub, Nat.reduceLT, if_true, if_false, Bool.false_eq_true, Bool.not_true, Bool.not_false, putD]
    refine ⟨trivial, by decide, hM1 _ (sSeq_gen fun M2 hM2 => ?_)⟩
    simp only [sSeq, sRet, sRetF, sRetN, sIf, sNext, sSet, sOwn, sOwnP, sPar, sExpr, sFldI, sBreak, sCont, sDPutD, sParFF, sParEF, sParFE, sParEFF, wIsi, wVar, wC, wOp, wUn, wB, wCons, wNil, wTup, wLst, wDct, wTru, wTruth, wNot, wAndT, wOrT, wAndV, wOrV, wNotV, wIfE, wChain, wCall, wCallP, wCallPF, wMake, wMakeE, wM, wSl, wPart, wNoPart, wMeth, wFldC, wFldS, wProp, wBor, wBorT, wAppend, wPopAt, wExtend, wDGet2, wLstRng, wFmt, wJoined, jCons, jNil, gN, gTupW, gCons', gNil', iL, iT, iS, iR1, iR2, iZp, iEn, dAdd, dSub, dMul, dMod, dFdiv, dPow, dLt, dLe, dGt, dGe, dNeg, dIs, dIsNot, rLenD, rTupOf, rLstOf, rMax2, rMin2, rAbs, rIntOf, rStrOf, rDivmod, startE, Ev.get, Ev.set, Ev.lend, Ev.noSlf, Slot.lend, Slot.noSlf, Slot.isL, Slot.isDK, Slot.isPurse, List.map, List.all, List.length_cons, List.length_nil, List.replicate, List.append, List.cons_append, List.nil_append, Nat.zero_add, Nat.reduceAdd, Nat.reduceSub, Nat.reduceLT, if_true, if_false, Bool.false_eq_true, Bool.not_true, Bool.not_false, List.lookup, beq_self_eq_true]
    refine ⟨trivial, _, _, rfl, lots.map lotName, rules, rs, rfl, by rw [List.length_map]; exact Nat.le_trans l2 five, rfl, o2, r1, r2, r3, ?_⟩
    refine ⟨trivial, trivial, hM2 _ (sSeq_gen fun M3 hM3 => ?_)⟩
    have ne1 : ((Str.ofString "lot_names") = (Str.ofString "options")) = False := by simp only [eq_iff_iff, iff_false]; decide +kernel
    simp only [sSeq, sRet, sRetF, sRetN, sIf, sNext, sSet, sOwn, sOwnP, sPar, sExpr, sFldI, sBreak, sCont, sDPutD, sParFF, sParEF, sParFE, sParEFF, wIsi, wVar, wC, wOp, wUn, wB, wCons, wNil, wTup, wLst, wDct, wTru, wTruth, wNot, wAndT, wOrT, wAndV, wOrV, wNotV, wIfE, wChain, wCall, wCallP, wCallPF, wMake, wMakeE, wM, wSl, wPart, wNoPart, wMeth, wFldC, wFldS, wProp, wBor, wBorT, wAppend, wPopAt, wExtend, wDGet2, wLstRng, wFmt, wJoined, jCons, jNil, gN, gTupW, gCons', gNil', iL, iT, iS, iR1, iR2, iZp, iEn, dAdd, dSub, dMul, dMod, dFdiv, dPow, dLt, dLe, dGt, dGe, dNeg, dIs, dIsNot, rLenD, rTupOf, rLstOf, rMax2, rMin2, rAbs, rIntOf, rStrOf, rDivmod, startE, Ev.get, Ev.set, Ev.lend, Ev.noSlf, Slot.lend, Slot.noSlf, Slot.isL, Slot.isDK, Slot.isPurse, List.map, List.all, List.length_cons, List.length_nil, List.replicate, List.append, List.cons_append, List.nil_append, Nat.zero_add, Nat.reduceAdd, Nat.reduceSub, Nat.reduceLT, if_true, if_false, Bool.false_eq_true, Bool.not_true, Bool.not_false, putD, ne1, List.lookup, beq_self_eq_true]
    refine ⟨trivial, _, _, rfl, lots.map lotName, lies, ls, rfl, by rw [List.length_map]; exact Nat.le_trans l2 five, rfl, o3, s1, s2, ?_⟩
    have ne2 : ((Str.ofString "lot_names") = (Str.ofString "lie_words")) = False := by simp only [eq_iff_iff, iff_false]; decide +kernel
    have ne3 : ((Str.ofString "options") = (Str.ofString "lie_words")) = False := by simp only [eq_iff_iff, iff_false]; decide +kernel
    refine ⟨trivial, trivial, hM3 _ (sSeq_gen fun M4 hM4 => ?_)⟩
    have ne4 : ((Str.ofString "lot_names") = (Str.ofString "held_lots")) = False := by simp only [eq_iff_iff, iff_false]; decide +kernel
    have ne5 : ((Str.ofString "options") = (Str.ofString "held_lots")) = False := by simp only [eq_iff_iff, iff_false]; decide +kernel
    have ne6 : ((Str.ofString "lie_words") = (Str.ofString "held_lots")) = False := by simp only [eq_iff_iff, iff_false]; decide +kernel
    have mf1 : ((Str.ofString "lot_names") = (Str.ofString "held_rules")) = False := by simp only [eq_iff_iff, iff_false]; decide +kernel
    have mf2 : ((Str.ofString "options") = (Str.ofString "held_rules")) = False := by simp only [eq_iff_iff, iff_false]; decide +kernel
    have mf3 : ((Str.ofString "lie_words") = (Str.ofString "held_rules")) = False := by simp only [eq_iff_iff, iff_false]; decide +kernel
    have mf4 : ((Str.ofString "held_lots") = (Str.ofString "held_rules")) = False := by simp only [eq_iff_iff, iff_false]; decide +kernel
    have mg1 : ((Str.ofString "lot_names") = (Str.ofString "held_lies")) = False := by simp only [eq_iff_iff, iff_false]; decide +kernel
    have mg2 : ((Str.ofString "options") = (Str.ofString "held_lies")) = False := by simp only [eq_iff_iff, iff_false]; decide +kernel
    have mg3 : ((Str.ofString "lie_words") = (Str.ofString "held_lies")) = False := by simp only [eq_iff_iff, iff_false]; decide +kernel
    have mg4 : ((Str.ofString "held_lots") = (Str.ofString "held_lies")) = False := by simp only [eq_iff_iff, iff_false]; decide +kernel
    have mg5 : ((Str.ofString "held_rules") = (Str.ofString "held_lies")) = False := by simp only [eq_iff_iff, iff_false]; decide +kernel
    simp only [sSeq, sRet, sRetF, sRetN, sIf, sNext, sSet, sOwn, sOwnP, sPar, sExpr, sFldI, sBreak, sCont, sDPutD, sParFF, sParEF, sParFE, sParEFF, wIsi, wVar, wC, wOp, wUn, wB, wCons, wNil, wTup, wLst, wDct, wTru, wTruth, wNot, wAndT, wOrT, wAndV, wOrV, wNotV, wIfE, wChain, wCall, wCallP, wCallPF, wMake, wMakeE, wM, wSl, wPart, wNoPart, wMeth, wFldC, wFldS, wProp, wBor, wBorT, wAppend, wPopAt, wExtend, wDGet2, wLstRng, wFmt, wJoined, jCons, jNil, gN, gTupW, gCons', gNil', iL, iT, iS, iR1, iR2, iZp, iEn, dAdd, dSub, dMul, dMod, dFdiv, dPow, dLt, dLe, dGt, dGe, dNeg, dIs, dIsNot, rLenD, rTupOf, rLstOf, rMax2, rMin2, rAbs, rIntOf, rStrOf, rDivmod, startE, Ev.get, Ev.set, Ev.lend, Ev.noSlf, Slot.lend, Slot.noSlf, Slot.isL, Slot.isDK, Slot.isPurse, List.map, List.all, List.length_cons, List.length_nil, List.replicate, List.append, List.cons_append, List.nil_append, Nat.zero_add, Nat.reduceAdd, Nat.reduceSub, Nat.reduceLT, if_true, if_false, Bool.false_eq_true, Bool.not_true, Bool.not_false, putD, ne1, ne2, ne3, ne4, ne5, ne6]
    refine ⟨trivial, by decide, hM4 _ (sSeq_gen fun M5 hM5 => ?_)⟩
    simp only [sSeq, sRet, sRetF, sRetN, sIf, sNext, sSet, sOwn, sOwnP, sPar, sExpr, sFldI, sBreak, sCont, sDPutD, sParFF, sParEF, sParFE, sParEFF, wIsi, wVar, wC, wOp, wUn, wB, wCons, wNil, wTup, wLst, wDct, wTru, wTruth, wNot, wAndT, wOrT, wAndV, wOrV, wNotV, wIfE, wChain, wCall, wCallP, wCallPF, wMake, wMakeE, wM, wSl, wPart, wNoPart, wMeth, wFldC, wFldS, wProp, wBor, wBorT, wAppend, wPopAt, wExtend, wDGet2, wLstRng, wFmt, wJoined, jCons, jNil, gN, gTupW, gCons', gNil', iL, iT, iS, iR1, iR2, iZp, iEn, dAdd, dSub, dMul, dMod, dFdiv, dPow, dLt, dLe, dGt, dGe, dNeg, dIs, dIsNot, rLenD, rTupOf, rLstOf, rMax2, rMin2, rAbs, rIntOf, rStrOf, rDivmod, startE, Ev.get, Ev.set, Ev.lend, Ev.noSlf, Slot.lend, Slot.noSlf, Slot.isL, Slot.isDK, Slot.isPurse, List.map, List.all, List.length_cons, List.length_nil, List.replicate, List.append, List.cons_append, List.nil_append, Nat.zero_add, Nat.reduceAdd, Nat.reduceSub, Nat.reduceLT, if_true, if_false, Bool.false_eq_true, Bool.not_true, Bool.not_false, putD, mf1, mf2, mf3, mf4]
    refine ⟨trivial, by decide, hM5 _ ?_⟩
    simp only [sSeq, sRet, sRetF, sRetN, sIf, sNext, sSet, sOwn, sOwnP, sPar, sExpr, sFldI, sBreak, sCont, sDPutD, sParFF, sParEF, sParFE, sParEFF, wIsi, wVar, wC, wOp, wUn, wB, wCons, wNil, wTup, wLst, wDct, wTru, wTruth, wNot, wAndT, wOrT, wAndV, wOrV, wNotV, wIfE, wChain, wCall, wCallP, wCallPF, wMake, wMakeE, wM, wSl, wPart, wNoPart, wMeth, wFldC, wFldS, wProp, wBor, wBorT, wAppend, wPopAt, wExtend, wDGet2, wLstRng, wFmt, wJoined, jCons, jNil, gN, gTupW, gCons', gNil', iL, iT, iS, iR1, iR2, iZp, iEn, dAdd, dSub, dMul, dMod, dFdiv, dPow, dLt, dLe, dGt, dGe, dNeg, dIs, dIsNot, rLenD, rTupOf, rLstOf, rMax2, rMin2, rAbs, rIntOf, rStrOf, rDivmod, startE, Ev.get, Ev.set, Ev.lend, Ev.noSlf, Slot.lend, Slot.noSlf, Slot.isL, Slot.isDK, Slot.isPurse, List.map, List.all, List.length_cons, List.length_nil, List.replicate, List.append, List.cons_append, List.nil_append, Nat.zero_add, Nat.reduceAdd, Nat.reduceSub, Nat.reduceLT, if_true, if_false, Bool.false_eq_true, Bool.not_true, Bool.not_false, putD, mg1, mg2, mg3, mg4, mg5]
    exact ⟨trivial, by decide, _, rfl, h⟩
end W
set_option Elab.async false
set_option linter.all false
set_option maxRecDepth 100000
set_option maxHeartbeats 4000000
namespace W
open PySem PySem.Spec PyProof.Rows L2 Q
theorem wLc_i {vs : List Nat} {wi : WA} {g : WG} {wt : WT} {we : WE} {ρ : Ev} {k : D → Ev → Prop} (h : wi ρ fun ds ρ1 => ds.length ≤ sizeLine ∧ lcL vs g wt we ds (ρ1.wipe vs) fun ys ρ2 => k (.lst ys) ρ2) : wLc vs wi g wt we ρ k := h
theorem n_Plan_lots {ds : List D} {kk : D → Prop} {kx : XC} (h : c_Plan_lots ds kk kx) : ds.length = 1 := by
  obtain ⟨a, rfl, _⟩ := h; rfl
theorem sne {a b : String} (h : (Str.ofString a == Str.ofString b) = false) : (Str.ofString a == Str.ofString b) = false := h
theorem look_lots {lots rules lies : D} {names : List Str} {rs : Rl} {ls : List (List Wd)} : (planF lots rules lies names rs ls).lookup (Str.ofString "held_lots") = some lots := by
  have e1 : (Str.ofString "held_lots" == Str.ofString "lot_names") = false := by decide +kernel
  have e2 : (Str.ofString "held_lots" == Str.ofString "options") = false := by decide +kernel
  have e3 : (Str.ofString "held_lots" == Str.ofString "lie_words") = false := by decide +kernel
  simp [planF, List.lookup, e1, e2, e3]
theorem look_opts {lots rules lies : D} {names : List Str} {rs : Rl} {ls : List (List Wd)} : (planF lots rules lies names rs ls).lookup (Str.ofString "options") = some (rulesD rs) := by
  have e1 : (Str.ofString "options" == Str.ofString "lot_names") = false := by decide +kernel
  simp [planF, List.lookup, e1]
theorem p_Plan_lots (ds : List D) (kk : D → Prop) (kx : XC) (h : c_Plan_lots ds kk kx) : (w_Plan_lots kx) { nx := fun _ => kk .non, rt := fun d _ => kk d } (startE 1 ds) := by
  obtain ⟨a, rfl, lots, rs, ⟨rules, lies, names, ls, rfl⟩, h⟩ := h
  simp only [sSeq, sRet, sRetF, sRetN, sIf, sNext, sSet, sOwn, sOwnP, sPar, sExpr, sFldI, sBreak, sCont, sDPutD, sParFF, sParEF, sParFE, sParEFF, wIsi, wVar, wC, wOp, wUn, wB, wCons, wNil, wTup, wLst, wDct, wTru, wTruth, wNot, wAndT, wOrT, wAndV, wOrV, wNotV, wIfE, wChain, wCall, wCallP, wCallPF, wMake, wMakeE, wM, wSl, wPart, wNoPart, wMeth, wFldC, wFldS, wProp, wBor, wBorT, wAppend, wPopAt, wExtend, wDGet2, wLstRng, wFmt, wJoined, jCons, jNil, gN, gTupW, gCons', gNil', iL, iT, iS, iR1, iR2, iZp, iEn, dAdd, dSub, dMul, dMod, dFdiv, dPow, dLt, dLe, dGt, dGe, dNeg, dIs, dIsNot, rLenD, rTupOf, rLstOf, rMax2, rMin2, rAbs, rIntOf, rStrOf, rDivmod, startE, Ev.get, Ev.set, Ev.lend, Ev.noSlf, Slot.lend, Slot.noSlf, Slot.isL, Slot.isDK, Slot.isPurse, List.map, List.all, List.length_cons, List.length_nil, List.replicate, List.append, List.cons_append, List.nil_append, Nat.zero_add, Nat.reduceAdd, Nat.reduceSub, Nat.reduceLT, if_true, if_false, Bool.false_eq_true, Bool.not_true, Bool.not_false, w_Plan_lots, look_lots, true_and]
  exact h
theorem n_numbers_of {ds : List D} {kk : D → Prop} {kx : XC} (h : c_numbers_of ds kk kx) : ds.length = 2 := by
  obtain ⟨a, b, rfl, _⟩ := h; rfl
theorem word_noNumber {w : Wd} : List.lookup (Str.ofString "number") [(Str.ofString "head", D.str w.1), (Str.ofString "shift", D.int w.2)] = none := by
  have e1 : (Str.ofString "number" == Str.ofString "head") = false := by decide +kernel
  have e2 : (Str.ofString "number" == Str.ofString "shift") = false := by decide +kernel
  simp [List.lookup, e1, e2]
theorem zip_map {α β : Type} (f : α → D) (g : β → D) : ∀ (xs : List α) (ys : List β), zipD (xs.map f) (ys.map g) = (xs.zip ys).map fun p => D.tup [f p.1, g p.2]
  | [], _ => rfl
  | _ :: _, [] => rfl
  | x :: xs, y :: ys => by
    show D.tup [f x, g y] :: zipD (xs.map f) (ys.map g) = _
    rw [zip_map f g xs ys]
    rfl
theorem p_numbers_of (ds : List D) (kk : D → Prop) (kx : XC) (h : c_numbers_of ds kk kx) : (w_numbers_of kx) { nx := fun _ => kk .non, rt := fun d _ => kk d } (startE 4 ds) := by
  obtain ⟨a, b, rfl, ws, zs, rfl, rfl, hl, h⟩ := h
  simp only [sSeq, sRet, sRetF, sRetN, sIf, sNext, sSet, sOwn, sOwnP, sPar, sExpr, sFldI, sBreak, sCont, sDPutD, sParFF, sParEF, sParFE, sParEFF, wIsi, wVar, wC, wOp, wUn, wB, wCons, wNil, wTup, wLst, wDct, wTru, wTruth, wNot, wAndT, wOrT, wAndV, wOrV, wNotV, wIfE, wChain, wCall, wCallP, wCallPF, wMake, wMakeE, wM, wSl, wPart, wNoPart, wMeth, wFldC, wFldS, wProp, wBor, wBorT, wAppend, wPopAt, wExtend, wDGet2, wLstRng, wFmt, wJoined, jCons, jNil, gN, gTupW, gCons', gNil', iL, iT, iS, iR1, iR2, iZp, iEn, dAdd, dSub, dMul, dMod, dFdiv, dPow, dLt, dLe, dGt, dGe, dNeg, dIs, dIsNot, rLenD, rTupOf, rLstOf, rMax2, rMin2, rAbs, rIntOf, rStrOf, rDivmod, startE, Ev.get, Ev.set, Ev.lend, Ev.noSlf, Slot.lend, Slot.noSlf, Slot.isL, Slot.isDK, Slot.isPurse, List.map, List.all, List.length_cons, List.length_nil, List.replicate, List.append, List.cons_append, List.nil_append, Nat.zero_add, Nat.reduceAdd, Nat.reduceSub, Nat.reduceLT, if_true, if_false, Bool.false_eq_true, Bool.not_true, Bool.not_false, w_numbers_of, tupW, tupI]
  refine wLc_i ?_
  simp only [sSeq, sRet, sRetF, sRetN, sIf, sNext, sSet, sOwn, sOwnP, sPar, sExpr, sFldI, sBreak, sCont, sDPutD, sParFF, sParEF, sParFE, sParEFF, wIsi, wVar, wC, wOp, wUn, wB, wCons, wNil, wTup, wLst, wDct, wTru, wTruth, wNot, wAndT, wOrT, wAndV, wOrV, wNotV, wIfE, wChain, wCall, wCallP, wCallPF, wMake, wMakeE, wM, wSl, wPart, wNoPart, wMeth, wFldC, wFldS, wProp, wBor, wBorT, wAppend, wPopAt, wExtend, wDGet2, wLstRng, wFmt, wJoined, jCons, jNil, gN, gTupW, gCons', gNil', iL, iT, iS, iR1, iR2, iZp, iEn, dAdd, dSub, dMul, dMod, dFdiv, dPow, dLt, dLe, dGt, dGe, dNeg, dIs, dIsNot, rLenD, rTupOf, rLstOf, rMax2, rMin2, rAbs, rIntOf, rStrOf, rDivmod, startE, Ev.get, Ev.set, Ev.lend, Ev.noSlf, Slot.lend, Slot.noSlf, Slot.isL, Slot.isDK, Slot.isPurse, List.map, List.all, List.length_cons, List.length_nil, List.replicate, List.append, List.cons_append, List.nil_append, Nat.zero_add, Nat.reduceAdd, Nat.reduceSub, Nat.reduceLT, if_true, if_false, Bool.false_eq_true, Bool.not_true, Bool.not_false]
  rw [zip_map]
  refine ⟨by rw [List.length_map, List.length_zip]; omega, ?_⟩
  simp only [Ev.wipe]
  refine lcM (fun d => match d with | .tup [.ins _ [(_, .str hd), (_, .int sh)], .int z] => .int (numW (hd, sh) z) | _ => .non) _ _ _ (fun d hd kk2 q => ?_) ?_
  · obtain ⟨⟨w, z⟩, hm, rfl⟩ := List.mem_map.mp hd
    refine ⟨rfl, rfl, ?_⟩
    simp only [sSeq, sRet, sRetF, sRetN, sIf, sNext, sSet, sOwn, sOwnP, sPar, sExpr, sFldI, sBreak, sCont, sDPutD, sParFF, sParEF, sParFE, sParEFF, wIsi, wVar, wC, wOp, wUn, wB, wCons, wNil, wTup, wLst, wDct, wTru, wTruth, wNot, wAndT, wOrT, wAndV, wOrV, wNotV, wIfE, wChain, wCall, wCallP, wCallPF, wMake, wMakeE, wM, wSl, wPart, wNoPart, wMeth, wFldC, wFldS, wProp, wBor, wBorT, wAppend, wPopAt, wExtend, wDGet2, wLstRng, wFmt, wJoined, jCons, jNil, gN, gTupW, gCons', gNil', iL, iT, iS, iR1, iR2, iZp, iEn, dAdd, dSub, dMul, dMod, dFdiv, dPow, dLt, dLe, dGt, dGe, dNeg, dIs, dIsNot, rLenD, rTupOf, rLstOf, rMax2, rMin2, rAbs, rIntOf, rStrOf, rDivmod, startE, Ev.get, Ev.set, Ev.lend, Ev.noSlf, Slot.lend, Slot.noSlf, Slot.isL, Slot.isDK, Slot.isPurse, List.map, List.all, List.length_cons, List.length_nil, List.replicate, List.append, List.cons_append, List.nil_append, Nat.zero_add, Nat.reduceAdd, Nat.reduceSub, Nat.reduceLT, if_true, if_false, Bool.false_eq_true, Bool.not_true, Bool.not_false, wordD, word_noNumber, true_and]
    exact ⟨_, _, rfl, w, z, rfl, rfl, q _ rfl⟩
  · have e : ((ws.zip zs).map fun p => D.tup [wordD p.1, D.int p.2]).map (fun d => match d with | .tup [.ins _ [(_, .str hd), (_, .int sh)], .int z] => .int (numW (hd, sh) z) | _ => .non) = (numbersW ws zs).map D.int := by
      rw [List.map_map]
      unfold numbersW
      rw [List.map_map]
      rfl
    rw [e]
    exact h
theorem n_is_above {ds : List D} {kk : D → Prop} {kx : XC} (h : c_is_above ds kk kx) : ds.length = 2 := by
  obtain ⟨a, b, rfl, _⟩ := h; rfl
theorem p_is_above (ds : List D) (kk : D → Prop) (kx : XC) (h : c_is_above ds kk kx) : (w_is_above kx) { nx := fun _ => kk .non, rt := fun d _ => kk d } (startE 4 ds) := by
  obtain ⟨a, b, rfl, ns, os, rfl, rfl, hl, h⟩ := h
  simp only [sSeq, sRet, sRetF, sRetN, sIf, sNext, sSet, sOwn, sOwnP, sPar, sExpr, sFldI, sBreak, sCont, sDPutD, sParFF, sParEF, sParFE, sParEFF, wIsi, wVar, wC, wOp, wUn, wB, wCons, wNil, wTup, wLst, wDct, wTru, wTruth, wNot, wAndT, wOrT, wAndV, wOrV, wNotV, wIfE, wChain, wCall, wCallP, wCallPF, wMake, wMakeE, wM, wSl, wPart, wNoPart, wMeth, wFldC, wFldS, wProp, wBor, wBorT, wAppend, wPopAt, wExtend, wDGet2, wLstRng, wFmt, wJoined, jCons, jNil, gN, gTupW, gCons', gNil', iL, iT, iS, iR1, iR2, iZp, iEn, dAdd, dSub, dMul, dMod, dFdiv, dPow, dLt, dLe, dGt, dGe, dNeg, dIs, dIsNot, rLenD, rTupOf, rLstOf, rMax2, rMin2, rAbs, rIntOf, rStrOf, rDivmod, startE, Ev.get, Ev.set, Ev.lend, Ev.noSlf, Slot.lend, Slot.noSlf, Slot.isL, Slot.isDK, Slot.isPurse, List.map, List.all, List.length_cons, List.length_nil, List.replicate, List.append, List.cons_append, List.nil_append, Nat.zero_add, Nat.reduceAdd, Nat.reduceSub, Nat.reduceLT, if_true, if_false, Bool.false_eq_true, Bool.not_true, Bool.not_false, w_is_above, tupI]
  refine wLc_i ?_
  simp only [sSeq, sRet, sRetF, sRetN, sIf, sNext, sSet, sOwn, sOwnP, sPar, sExpr, sFldI, sBreak, sCont, sDPutD, sParFF, sParEF, sParFE, sParEFF, wIsi, wVar, wC, wOp, wUn, wB, wCons, wNil, wTup, wLst, wDct, wTru, wTruth, wNot, wAndT, wOrT, wAndV, wOrV, wNotV, wIfE, wChain, wCall, wCallP, wCallPF, wMake, wMakeE, wM, wSl, wPart, wNoPart, wMeth, wFldC, wFldS, wProp, wBor, wBorT, wAppend, wPopAt, wExtend, wDGet2, wLstRng, wFmt, wJoined, jCons, jNil, gN, gTupW, gCons', gNil', iL, iT, iS, iR1, iR2, iZp, iEn, dAdd, dSub, dMul, dMod, dFdiv, dPow, dLt, dLe, dGt, dGe, dNeg, dIs, dIsNot, rLenD, rTupOf, rLstOf, rMax2, rMin2, rAbs, rIntOf, rStrOf, rDivmod, startE, Ev.get, Ev.set, Ev.lend, Ev.noSlf, Slot.lend, Slot.noSlf, Slot.isL, Slot.isDK, Slot.isPurse, List.map, List.all, List.length_cons, List.length_nil, List.replicate, List.append, List.cons_append, List.nil_append, Nat.zero_add, Nat.reduceAdd, Nat.reduceSub, Nat.reduceLT, if_true, if_false, Bool.false_eq_true, Bool.not_true, Bool.not_false]
  rw [zip_map]
  refine ⟨by rw [List.length_map, List.length_zip]; omega, ?_⟩
  simp only [Ev.wipe]
  refine lcM (fun d => match d with | .tup [.int n, .int o] => .bl (decide (o < n)) | _ => .non) _ _ _ (fun d hd kk2 q => ?_) ⟨(ns.zip os).map fun p => decide (p.2 < p.1), ?_, ?_⟩
  · obtain ⟨⟨n, o⟩, hm, rfl⟩ := List.mem_map.mp hd
    refine ⟨rfl, rfl, ?_⟩
    simp only [sSeq, sRet, sRetF, sRetN, sIf, sNext, sSet, sOwn, sOwnP, sPar, sExpr, sFldI, sBreak, sCont, sDPutD, sParFF, sParEF, sParFE, sParEFF, wIsi, wVar, wC, wOp, wUn, wB, wCons, wNil, wTup, wLst, wDct, wTru, wTruth, wNot, wAndT, wOrT, wAndV, wOrV, wNotV, wIfE, wChain, wCall, wCallP, wCallPF, wMake, wMakeE, wM, wSl, wPart, wNoPart, wMeth, wFldC, wFldS, wProp, wBor, wBorT, wAppend, wPopAt, wExtend, wDGet2, wLstRng, wFmt, wJoined, jCons, jNil, gN, gTupW, gCons', gNil', iL, iT, iS, iR1, iR2, iZp, iEn, dAdd, dSub, dMul, dMod, dFdiv, dPow, dLt, dLe, dGt, dGe, dNeg, dIs, dIsNot, rLenD, rTupOf, rLstOf, rMax2, rMin2, rAbs, rIntOf, rStrOf, rDivmod, startE, Ev.get, Ev.set, Ev.lend, Ev.noSlf, Slot.lend, Slot.noSlf, Slot.isL, Slot.isDK, Slot.isPurse, List.map, List.all, List.length_cons, List.length_nil, List.replicate, List.append, List.cons_append, List.nil_append, Nat.zero_add, Nat.reduceAdd, Nat.reduceSub, Nat.reduceLT, if_true, if_false, Bool.false_eq_true, Bool.not_true, Bool.not_false]
    exact q _ rfl
  · rw [List.map_map, List.map_map]; rfl
  · have e : ((ns.zip os).map fun p => decide (p.2 < p.1)).any id = aboveB ns os := by
      unfold aboveB
      rw [List.any_map]
      rfl
    rw [e]
    exact h
theorem n_has_quorum {ds : List D} {kk : D → Prop} {kx : XC} (h : c_has_quorum ds kk kx) : ds.length = 4 := by
  obtain ⟨a, b, c, d, rfl, _⟩ := h; rfl
theorem numbersW_len (ws : List Wd) (zs : List Int) : (numbersW ws zs).length ≤ ws.length := by
  unfold numbersW
  rw [List.length_map, List.length_zip]
  omega
theorem p_has_quorum (ds : List D) (kk : D → Prop) (kx : XC) (h : c_has_quorum ds kk kx) : (w_has_quorum kx) { nx := fun _ => kk .non, rt := fun d _ => kk d } (startE 5 ds) := by
  obtain ⟨a, b, c, d, rfl, lots, rs, z, os, zs, cs, ⟨rules, lies, names, ls, rfl⟩, rfl, hz, rfl, rfl, hl, hl2, h⟩ := h
  simp only [sSeq, sRet, sRetF, sRetN, sIf, sNext, sSet, sOwn, sOwnP, sPar, sExpr, sFldI, sBreak, sCont, sDPutD, sParFF, sParEF, sParFE, sParEFF, wIsi, wVar, wC, wOp, wUn, wB, wCons, wNil, wTup, wLst, wDct, wTru, wTruth, wNot, wAndT, wOrT, wAndV, wOrV, wNotV, wIfE, wChain, wCall, wCallP, wCallPF, wMake, wMakeE, wM, wSl, wPart, wNoPart, wMeth, wFldC, wFldS, wProp, wBor, wBorT, wAppend, wPopAt, wExtend, wDGet2, wLstRng, wFmt, wJoined, jCons, jNil, gN, gTupW, gCons', gNil', iL, iT, iS, iR1, iR2, iZp, iEn, dAdd, dSub, dMul, dMod, dFdiv, dPow, dLt, dLe, dGt, dGe, dNeg, dIs, dIsNot, rLenD, rTupOf, rLstOf, rMax2, rMin2, rAbs, rIntOf, rStrOf, rDivmod, startE, Ev.get, Ev.set, Ev.lend, Ev.noSlf, Slot.lend, Slot.noSlf, Slot.isL, Slot.isDK, Slot.isPurse, List.map, List.all, List.length_cons, List.length_nil, List.replicate, List.append, List.cons_append, List.nil_append, Nat.zero_add, Nat.reduceAdd, Nat.reduceSub, Nat.reduceLT, if_true, if_false, Bool.false_eq_true, Bool.not_true, Bool.not_false, w_has_quorum]
  refine wLc_i ?_
  have hlk : lookD (rs.map fun r => (Sum.inr r.1, lstW r.2)) (Sum.inr z : Key) = some (lstW os) := by rw [look_rules, hz]; rfl
  simp only [sSeq, sRet, sRetF, sRetN, sIf, sNext, sSet, sOwn, sOwnP, sPar, sExpr, sFldI, sBreak, sCont, sDPutD, sParFF, sParEF, sParFE, sParEFF, wIsi, wVar, wC, wOp, wUn, wB, wCons, wNil, wTup, wLst, wDct, wTru, wTruth, wNot, wAndT, wOrT, wAndV, wOrV, wNotV, wIfE, wChain, wCall, wCallP, wCallPF, wMake, wMakeE, wM, wSl, wPart, wNoPart, wMeth, wFldC, wFldS, wProp, wBor, wBorT, wAppend, wPopAt, wExtend, wDGet2, wLstRng, wFmt, wJoined, jCons, jNil, gN, gTupW, gCons', gNil', iL, iT, iS, iR1, iR2, iZp, iEn, dAdd, dSub, dMul, dMod, dFdiv, dPow, dLt, dLe, dGt, dGe, dNeg, dIs, dIsNot, rLenD, rTupOf, rLstOf, rMax2, rMin2, rAbs, rIntOf, rStrOf, rDivmod, startE, Ev.get, Ev.set, Ev.lend, Ev.noSlf, Slot.lend, Slot.noSlf, Slot.isL, Slot.isDK, Slot.isPurse, List.map, List.all, List.length_cons, List.length_nil, List.replicate, List.append, List.cons_append, List.nil_append, Nat.zero_add, Nat.reduceAdd, Nat.reduceSub, Nat.reduceLT, if_true, if_false, Bool.false_eq_true, Bool.not_true, Bool.not_false, look_opts, true_and, dGet, rulesD, keyD, hlk]
  simp only [lstW]
  refine ⟨by rw [List.length_map]; exact hl, ?_⟩
  simp only [Ev.wipe]
  refine lcY (R := fun d y => ∃ ws, d = tupW ws ∧ y = .bl (!aboveB (numbersW ws zs) cs)) _ _ _ (fun d hd kk2 q => ?_) fun ys hys => ⟨os.map fun ws => !aboveB (numbersW ws zs) cs, ?_, ?_⟩
  · obtain ⟨ws, hm, rfl⟩ := List.mem_map.mp hd
    simp only [sSeq, sRet, sRetF, sRetN, sIf, sNext, sSet, sOwn, sOwnP, sPar, sExpr, sFldI, sBreak, sCont, sDPutD, sParFF, sParEF, sParFE, sParEFF, wIsi, wVar, wC, wOp, wUn, wB, wCons, wNil, wTup, wLst, wDct, wTru, wTruth, wNot, wAndT, wOrT, wAndV, wOrV, wNotV, wIfE, wChain, wCall, wCallP, wCallPF, wMake, wMakeE, wM, wSl, wPart, wNoPart, wMeth, wFldC, wFldS, wProp, wBor, wBorT, wAppend, wPopAt, wExtend, wDGet2, wLstRng, wFmt, wJoined, jCons, jNil, gN, gTupW, gCons', gNil', iL, iT, iS, iR1, iR2, iZp, iEn, dAdd, dSub, dMul, dMod, dFdiv, dPow, dLt, dLe, dGt, dGe, dNeg, dIs, dIsNot, rLenD, rTupOf, rLstOf, rMax2, rMin2, rAbs, rIntOf, rStrOf, rDivmod, startE, Ev.get, Ev.set, Ev.lend, Ev.noSlf, Slot.lend, Slot.noSlf, Slot.isL, Slot.isDK, Slot.isPurse, List.map, List.all, List.length_cons, List.length_nil, List.replicate, List.append, List.cons_append, List.nil_append, Nat.zero_add, Nat.reduceAdd, Nat.reduceSub, Nat.reduceLT, if_true, if_false, Bool.false_eq_true, Bool.not_true, Bool.not_false]
    refine ⟨_, _, rfl, ws, zs, rfl, rfl, hl2 ws hm, ?_⟩
    refine ⟨_, _, rfl, _, cs, rfl, rfl, Nat.le_trans (numbersW_len _ _) (hl2 ws hm), ?_⟩
    exact q _ _ ⟨ws, rfl, rfl⟩ rfl
  · have inj : ∀ {a b : List Wd}, tupW a = tupW b → a = b := by
      intro a b e
      have e' : a.map wordD = b.map wordD := by unfold tupW at e; exact D.tup.inj e
      clear e
      induction a generalizing b with
      | nil => cases b with
        | nil => rfl
        | cons _ _ => cases e'
      | cons x xs ih => cases b with
        | nil => cases e'
        | cons y ys =>
          rw [List.map_cons, List.map_cons] at e'
          obtain ⟨h1, h2⟩ := List.cons.inj e'
          have : x = y := by
            obtain ⟨x1, x2⟩ := x
            obtain ⟨y1, y2⟩ := y
            simp only [wordD, D.ins.injEq, List.cons.injEq, Prod.mk.injEq, D.str.injEq, D.int.injEq, true_and, and_true] at h1
            rw [h1.1, h1.2]
          rw [this, ih h2]
    have key : ∀ (os : List (List Wd)) (ys : List D), All2 (fun d y => ∃ ws, d = tupW ws ∧ y = .bl (!aboveB (numbersW ws zs) cs)) (os.map tupW) ys → ys = (os.map fun ws => !aboveB (numbersW ws zs) cs).map D.bl := by
      intro os
      induction os with
      | nil => intro ys h; cases ys with
        | nil => rfl
        | cons _ _ => exact h.elim
      | cons o os ih => intro ys h; cases ys with
        | nil => exact h.elim
        | cons y ys =>
          obtain ⟨⟨ws, e1, e2⟩, h2⟩ := h
          have := inj e1
          subst this
          rw [e2, ih ys h2]
          rfl
    rw [key os ys hys]
  · have e : (os.map fun ws => !aboveB (numbersW ws zs) cs).any id = quorB os zs cs := by
      unfold quorB
      rw [List.any_map]
      rfl
    rw [e]
    exact h
theorem n_is_rule {ds : List D} {kk : D → Prop} {kx : XC} (h : c_is_rule ds kk kx) : ds.length = 2 := by
  obtain ⟨a, b, rfl, _⟩ := h; rfl
theorem p_is_rule (ds : List D) (kk : D → Prop) (kx : XC) (h : c_is_rule ds kk kx) : (w_is_rule kx) { nx := fun _ => kk .non, rt := fun d _ => kk d } (startE 2 ds) := by
  obtain ⟨a, b, rfl, lots, rs, ⟨rules, lies, names, ls, rfl⟩, hok, h⟩ := h
  have ht := ok_ty hok
  simp only [sSeq, sRet, sRetF, sRetN, sIf, sNext, sSet, sOwn, sOwnP, sPar, sExpr, sFldI, sBreak, sCont, sDPutD, sParFF, sParEF, sParFE, sParEFF, wIsi, wVar, wC, wOp, wUn, wB, wCons, wNil, wTup, wLst, wDct, wTru, wTruth, wNot, wAndT, wOrT, wAndV, wOrV, wNotV, wIfE, wChain, wCall, wCallP, wCallPF, wMake, wMakeE, wM, wSl, wPart, wNoPart, wMeth, wFldC, wFldS, wProp, wBor, wBorT, wAppend, wPopAt, wExtend, wDGet2, wLstRng, wFmt, wJoined, jCons, jNil, gN, gTupW, gCons', gNil', iL, iT, iS, iR1, iR2, iZp, iEn, dAdd, dSub, dMul, dMod, dFdiv, dPow, dLt, dLe, dGt, dGe, dNeg, dIs, dIsNot, rLenD, rTupOf, rLstOf, rMax2, rMin2, rAbs, rIntOf, rStrOf, rDivmod, startE, Ev.get, Ev.set, Ev.lend, Ev.noSlf, Slot.lend, Slot.noSlf, Slot.isL, Slot.isDK, Slot.isPurse, List.map, List.all, List.length_cons, List.length_nil, List.replicate, List.append, List.cons_append, List.nil_append, Nat.zero_add, Nat.reduceAdd, Nat.reduceSub, Nat.reduceLT, if_true, if_false, Bool.false_eq_true, Bool.not_true, Bool.not_false, w_is_rule, isa_str ht]
  cases b with
  | str z =>
    simp only [D.isStr, sSeq, sRet, sRetF, sRetN, sIf, sNext, sSet, sOwn, sOwnP, sPar, sExpr, sFldI, sBreak, sCont, sDPutD, sParFF, sParEF, sParFE, sParEFF, wIsi, wVar, wC, wOp, wUn, wB, wCons, wNil, wTup, wLst, wDct, wTru, wTruth, wNot, wAndT, wOrT, wAndV, wOrV, wNotV, wIfE, wChain, wCall, wCallP, wCallPF, wMake, wMakeE, wM, wSl, wPart, wNoPart, wMeth, wFldC, wFldS, wProp, wBor, wBorT, wAppend, wPopAt, wExtend, wDGet2, wLstRng, wFmt, wJoined, jCons, jNil, gN, gTupW, gCons', gNil', iL, iT, iS, iR1, iR2, iZp, iEn, dAdd, dSub, dMul, dMod, dFdiv, dPow, dLt, dLe, dGt, dGe, dNeg, dIs, dIsNot, rLenD, rTupOf, rLstOf, rMax2, rMin2, rAbs, rIntOf, rStrOf, rDivmod, startE, Ev.get, Ev.set, Ev.lend, Ev.noSlf, Slot.lend, Slot.noSlf, Slot.isL, Slot.isDK, Slot.isPurse, List.map, List.all, List.length_cons, List.length_nil, List.replicate, List.append, List.cons_append, List.nil_append, Nat.zero_add, Nat.reduceAdd, Nat.reduceSub, Nat.reduceLT, if_true, if_false, Bool.false_eq_true, Bool.not_true, Bool.not_false, look_opts, true_and, dIn, rulesD, keyD, look_rules, Option.isSome_map]
    exact h
  | ins c fs => exact absurd rfl ht
  | _ => simp only [D.isStr, sSeq, sRet, sRetF, sRetN, sIf, sNext, sSet, sOwn, sOwnP, sPar, sExpr, sFldI, sBreak, sCont, sDPutD, sParFF, sParEF, sParFE, sParEFF, wIsi, wVar, wC, wOp, wUn, wB, wCons, wNil, wTup, wLst, wDct, wTru, wTruth, wNot, wAndT, wOrT, wAndV, wOrV, wNotV, wIfE, wChain, wCall, wCallP, wCallPF, wMake, wMakeE, wM, wSl, wPart, wNoPart, wMeth, wFldC, wFldS, wProp, wBor, wBorT, wAppend, wPopAt, wExtend, wDGet2, wLstRng, wFmt, wJoined, jCons, jNil, gN, gTupW, gCons', gNil', iL, iT, iS, iR1, iR2, iZp, iEn, dAdd, dSub, dMul, dMod, dFdiv, dPow, dLt, dLe, dGt, dGe, dNeg, dIs, dIsNot, rLenD, rTupOf, rLstOf, rMax2, rMin2, rAbs, rIntOf, rStrOf, rDivmod, startE, Ev.get, Ev.set, Ev.lend, Ev.noSlf, Slot.lend, Slot.noSlf, Slot.isL, Slot.isDK, Slot.isPurse, List.map, List.all, List.length_cons, List.length_nil, List.replicate, List.append, List.cons_append, List.nil_append, Nat.zero_add, Nat.reduceAdd, Nat.reduceSub, Nat.reduceLT, if_true, if_false, Bool.false_eq_true, Bool.not_true, Bool.not_false]; exact h
theorem n_check_rule {ds : List D} {kk : D → Prop} {kx : XC} (h : c_check_rule ds kk kx) : ds.length = 2 := by
  obtain ⟨a, b, rfl, _⟩ := h; rfl
theorem p_check_rule (ds : List D) (kk : D → Prop) (kx : XC) (h : c_check_rule ds kk kx) : (w_check_rule kx) { nx := fun _ => kk .non, rt := fun d _ => kk d } (startE 2 ds) := by
  obtain ⟨a, b, rfl, lots, rs, z, hp, rfl, hok, hz, h⟩ := h
  simp only [sSeq, sRet, sRetF, sRetN, sIf, sNext, sSet, sOwn, sOwnP, sPar, sExpr, sFldI, sBreak, sCont, sDPutD, sParFF, sParEF, sParFE, sParEFF, wIsi, wVar, wC, wOp, wUn, wB, wCons, wNil, wTup, wLst, wDct, wTru, wTruth, wNot, wAndT, wOrT, wAndV, wOrV, wNotV, wIfE, wChain, wCall, wCallP, wCallPF, wMake, wMakeE, wM, wSl, wPart, wNoPart, wMeth, wFldC, wFldS, wProp, wBor, wBorT, wAppend, wPopAt, wExtend, wDGet2, wLstRng, wFmt, wJoined, jCons, jNil, gN, gTupW, gCons', gNil', iL, iT, iS, iR1, iR2, iZp, iEn, dAdd, dSub, dMul, dMod, dFdiv, dPow, dLt, dLe, dGt, dGe, dNeg, dIs, dIsNot, rLenD, rTupOf, rLstOf, rMax2, rMin2, rAbs, rIntOf, rStrOf, rDivmod, startE, Ev.get, Ev.set, Ev.lend, Ev.noSlf, Slot.lend, Slot.noSlf, Slot.isL, Slot.isDK, Slot.isPurse, List.map, List.all, List.length_cons, List.length_nil, List.replicate, List.append, List.cons_append, List.nil_append, Nat.zero_add, Nat.reduceAdd, Nat.reduceSub, Nat.reduceLT, if_true, if_false, Bool.false_eq_true, Bool.not_true, Bool.not_false, w_check_rule]
  refine ⟨_, _, rfl, lots, rs, hp, hok, ?_⟩
  simp only [hz, sSeq, sRet, sRetF, sRetN, sIf, sNext, sSet, sOwn, sOwnP, sPar, sExpr, sFldI, sBreak, sCont, sDPutD, sParFF, sParEF, sParFE, sParEFF, wIsi, wVar, wC, wOp, wUn, wB, wCons, wNil, wTup, wLst, wDct, wTru, wTruth, wNot, wAndT, wOrT, wAndV, wOrV, wNotV, wIfE, wChain, wCall, wCallP, wCallPF, wMake, wMakeE, wM, wSl, wPart, wNoPart, wMeth, wFldC, wFldS, wProp, wBor, wBorT, wAppend, wPopAt, wExtend, wDGet2, wLstRng, wFmt, wJoined, jCons, jNil, gN, gTupW, gCons', gNil', iL, iT, iS, iR1, iR2, iZp, iEn, dAdd, dSub, dMul, dMod, dFdiv, dPow, dLt, dLe, dGt, dGe, dNeg, dIs, dIsNot, rLenD, rTupOf, rLstOf, rMax2, rMin2, rAbs, rIntOf, rStrOf, rDivmod, startE, Ev.get, Ev.set, Ev.lend, Ev.noSlf, Slot.lend, Slot.noSlf, Slot.isL, Slot.isDK, Slot.isPurse, List.map, List.all, List.length_cons, List.length_nil, List.replicate, List.append, List.cons_append, List.nil_append, Nat.zero_add, Nat.reduceAdd, Nat.reduceSub, Nat.reduceLT, if_true, if_false, Bool.false_eq_true, Bool.not_true, Bool.not_false]
  exact h
def hiB : Option Int → Int → Bool
  | none, _ => true
  | some h, i => decide (i ≤ h)
theorem sizeB_int {lo i : Int} {hi : Option Int} : sizeB lo hi (.int i) = (decide (lo ≤ i) && hiB hi i) := by cases hi <;> rfl
theorem n_is_size {ds : List D} {kk : D → Prop} {kx : XC} (h : c_is_size ds kk kx) : ds.length = 2 := by
  obtain ⟨a, b, rfl, _⟩ := h; rfl
theorem p_is_size (ds : List D) (kk : D → Prop) (kx : XC) (h : c_is_size ds kk kx) : (w_is_size kx) { nx := fun _ => kk .non, rt := fun d _ => kk d } (startE 2 ds) := by
  obtain ⟨a, b, rfl, z, lo, hi, rfl, hok, h⟩ := h
  have ht := ok_ty hok
  have e1 : atI [D.str z, D.int lo, optI hi] (1 : Int) = some (.int lo) := atI_nat (j := 1) rfl
  have e2 : atI [D.str z, D.int lo, optI hi] (2 : Int) = some (optI hi) := atI_nat (j := 2) rfl
  simp only [sSeq, sRet, sRetF, sRetN, sIf, sNext, sSet, sOwn, sOwnP, sPar, sExpr, sFldI, sBreak, sCont, sDPutD, sParFF, sParEF, sParFE, sParEFF, wIsi, wVar, wC, wOp, wUn, wB, wCons, wNil, wTup, wLst, wDct, wTru, wTruth, wNot, wAndT, wOrT, wAndV, wOrV, wNotV, wIfE, wChain, wCall, wCallP, wCallPF, wMake, wMakeE, wM, wSl, wPart, wNoPart, wMeth, wFldC, wFldS, wProp, wBor, wBorT, wAppend, wPopAt, wExtend, wDGet2, wLstRng, wFmt, wJoined, jCons, jNil, gN, gTupW, gCons', gNil', iL, iT, iS, iR1, iR2, iZp, iEn, dAdd, dSub, dMul, dMod, dFdiv, dPow, dLt, dLe, dGt, dGe, dNeg, dIs, dIsNot, rLenD, rTupOf, rLstOf, rMax2, rMin2, rAbs, rIntOf, rStrOf, rDivmod, startE, Ev.get, Ev.set, Ev.lend, Ev.noSlf, Slot.lend, Slot.noSlf, Slot.isL, Slot.isDK, Slot.isPurse, List.map, List.all, List.length_cons, List.length_nil, List.replicate, List.append, List.cons_append, List.nil_append, Nat.zero_add, Nat.reduceAdd, Nat.reduceSub, Nat.reduceLT, if_true, if_false, Bool.false_eq_true, Bool.not_true, Bool.not_false, w_is_size]
  refine ⟨_, rfl, ht, ?_⟩
  cases b with
  | int i =>
    simp only [D.isInt, sSeq, sRet, sRetF, sRetN, sIf, sNext, sSet, sOwn, sOwnP, sPar, sExpr, sFldI, sBreak, sCont, sDPutD, sParFF, sParEF, sParFE, sParEFF, wIsi, wVar, wC, wOp, wUn, wB, wCons, wNil, wTup, wLst, wDct, wTru, wTruth, wNot, wAndT, wOrT, wAndV, wOrV, wNotV, wIfE, wChain, wCall, wCallP, wCallPF, wMake, wMakeE, wM, wSl, wPart, wNoPart, wMeth, wFldC, wFldS, wProp, wBor, wBorT, wAppend, wPopAt, wExtend, wDGet2, wLstRng, wFmt, wJoined, jCons, jNil, gN, gTupW, gCons', gNil', iL, iT, iS, iR1, iR2, iZp, iEn, dAdd, dSub, dMul, dMod, dFdiv, dPow, dLt, dLe, dGt, dGe, dNeg, dIs, dIsNot, rLenD, rTupOf, rLstOf, rMax2, rMin2, rAbs, rIntOf, rStrOf, rDivmod, startE, Ev.get, Ev.set, Ev.lend, Ev.noSlf, Slot.lend, Slot.noSlf, Slot.isL, Slot.isDK, Slot.isPurse, List.map, List.all, List.length_cons, List.length_nil, List.replicate, List.append, List.cons_append, List.nil_append, Nat.zero_add, Nat.reduceAdd, Nat.reduceSub, Nat.reduceLT, if_true, if_false, Bool.false_eq_true, Bool.not_true, Bool.not_false, dIx, e1, e2]
    by_cases h1 : lo ≤ i
    · rw [decide_eq_true h1]
      simp only [sSeq, sRet, sRetF, sRetN, sIf, sNext, sSet, sOwn, sOwnP, sPar, sExpr, sFldI, sBreak, sCont, sDPutD, sParFF, sParEF, sParFE, sParEFF, wIsi, wVar, wC, wOp, wUn, wB, wCons, wNil, wTup, wLst, wDct, wTru, wTruth, wNot, wAndT, wOrT, wAndV, wOrV, wNotV, wIfE, wChain, wCall, wCallP, wCallPF, wMake, wMakeE, wM, wSl, wPart, wNoPart, wMeth, wFldC, wFldS, wProp, wBor, wBorT, wAppend, wPopAt, wExtend, wDGet2, wLstRng, wFmt, wJoined, jCons, jNil, gN, gTupW, gCons', gNil', iL, iT, iS, iR1, iR2, iZp, iEn, dAdd, dSub, dMul, dMod, dFdiv, dPow, dLt, dLe, dGt, dGe, dNeg, dIs, dIsNot, rLenD, rTupOf, rLstOf, rMax2, rMin2, rAbs, rIntOf, rStrOf, rDivmod, startE, Ev.get, Ev.set, Ev.lend, Ev.noSlf, Slot.lend, Slot.noSlf, Slot.isL, Slot.isDK, Slot.isPurse, List.map, List.all, List.length_cons, List.length_nil, List.replicate, List.append, List.cons_append, List.nil_append, Nat.zero_add, Nat.reduceAdd, Nat.reduceSub, Nat.reduceLT, if_true, if_false, Bool.false_eq_true, Bool.not_true, Bool.not_false, dIx, e2]
      have e3 : sizeB lo hi (.int i) = hiB hi i := by rw [sizeB_int, decide_eq_true h1]; rfl
      rw [e3] at h
      cases hi with
      | none => simp only [optI, D.isNon, sSeq, sRet, sRetF, sRetN, sIf, sNext, sSet, sOwn, sOwnP, sPar, sExpr, sFldI, sBreak, sCont, sDPutD, sParFF, sParEF, sParFE, sParEFF, wIsi, wVar, wC, wOp, wUn, wB, wCons, wNil, wTup, wLst, wDct, wTru, wTruth, wNot, wAndT, wOrT, wAndV, wOrV, wNotV, wIfE, wChain, wCall, wCallP, wCallPF, wMake, wMakeE, wM, wSl, wPart, wNoPart, wMeth, wFldC, wFldS, wProp, wBor, wBorT, wAppend, wPopAt, wExtend, wDGet2, wLstRng, wFmt, wJoined, jCons, jNil, gN, gTupW, gCons', gNil', iL, iT, iS, iR1, iR2, iZp, iEn, dAdd, dSub, dMul, dMod, dFdiv, dPow, dLt, dLe, dGt, dGe, dNeg, dIs, dIsNot, rLenD, rTupOf, rLstOf, rMax2, rMin2, rAbs, rIntOf, rStrOf, rDivmod, startE, Ev.get, Ev.set, Ev.lend, Ev.noSlf, Slot.lend, Slot.noSlf, Slot.isL, Slot.isDK, Slot.isPurse, List.map, List.all, List.length_cons, List.length_nil, List.replicate, List.append, List.cons_append, List.nil_append, Nat.zero_add, Nat.reduceAdd, Nat.reduceSub, Nat.reduceLT, if_true, if_false, Bool.false_eq_true, Bool.not_true, Bool.not_false]; exact h
      | some j => simp only [optI, D.isNon, sSeq, sRet, sRetF, sRetN, sIf, sNext, sSet, sOwn, sOwnP, sPar, sExpr, sFldI, sBreak, sCont, sDPutD, sParFF, sParEF, sParFE, sParEFF, wIsi, wVar, wC, wOp, wUn, wB, wCons, wNil, wTup, wLst, wDct, wTru, wTruth, wNot, wAndT, wOrT, wAndV, wOrV, wNotV, wIfE, wChain, wCall, wCallP, wCallPF, wMake, wMakeE, wM, wSl, wPart, wNoPart, wMeth, wFldC, wFldS, wProp, wBor, wBorT, wAppend, wPopAt, wExtend, wDGet2, wLstRng, wFmt, wJoined, jCons, jNil, gN, gTupW, gCons', gNil', iL, iT, iS, iR1, iR2, iZp, iEn, dAdd, dSub, dMul, dMod, dFdiv, dPow, dLt, dLe, dGt, dGe, dNeg, dIs, dIsNot, rLenD, rTupOf, rLstOf, rMax2, rMin2, rAbs, rIntOf, rStrOf, rDivmod, startE, Ev.get, Ev.set, Ev.lend, Ev.noSlf, Slot.lend, Slot.noSlf, Slot.isL, Slot.isDK, Slot.isPurse, List.map, List.all, List.length_cons, List.length_nil, List.replicate, List.append, List.cons_append, List.nil_append, Nat.zero_add, Nat.reduceAdd, Nat.reduceSub, Nat.reduceLT, if_true, if_false, Bool.false_eq_true, Bool.not_true, Bool.not_false, dIx, e2]; exact h
    · rw [decide_eq_false h1]
      simp only [sSeq, sRet, sRetF, sRetN, sIf, sNext, sSet, sOwn, sOwnP, sPar, sExpr, sFldI, sBreak, sCont, sDPutD, sParFF, sParEF, sParFE, sParEFF, wIsi, wVar, wC, wOp, wUn, wB, wCons, wNil, wTup, wLst, wDct, wTru, wTruth, wNot, wAndT, wOrT, wAndV, wOrV, wNotV, wIfE, wChain, wCall, wCallP, wCallPF, wMake, wMakeE, wM, wSl, wPart, wNoPart, wMeth, wFldC, wFldS, wProp, wBor, wBorT, wAppend, wPopAt, wExtend, wDGet2, wLstRng, wFmt, wJoined, jCons, jNil, gN, gTupW, gCons', gNil', iL, iT, iS, iR1, iR2, iZp, iEn, dAdd, dSub, dMul, dMod, dFdiv, dPow, dLt, dLe, dGt, dGe, dNeg, dIs, dIsNot, rLenD, rTupOf, rLstOf, rMax2, rMin2, rAbs, rIntOf, rStrOf, rDivmod, startE, Ev.get, Ev.set, Ev.lend, Ev.noSlf, Slot.lend, Slot.noSlf, Slot.isL, Slot.isDK, Slot.isPurse, List.map, List.all, List.length_cons, List.length_nil, List.replicate, List.append, List.cons_append, List.nil_append, Nat.zero_add, Nat.reduceAdd, Nat.reduceSub, Nat.reduceLT, if_true, if_false, Bool.false_eq_true, Bool.not_true, Bool.not_false]
      have e3 : sizeB lo hi (.int i) = false := by rw [sizeB_int, decide_eq_false h1]; rfl
      rw [e3] at h
      exact h
  | _ => simp only [D.isInt, sSeq, sRet, sRetF, sRetN, sIf, sNext, sSet, sOwn, sOwnP, sPar, sExpr, sFldI, sBreak, sCont, sDPutD, sParFF, sParEF, sParFE, sParEFF, wIsi, wVar, wC, wOp, wUn, wB, wCons, wNil, wTup, wLst, wDct, wTru, wTruth, wNot, wAndT, wOrT, wAndV, wOrV, wNotV, wIfE, wChain, wCall, wCallP, wCallPF, wMake, wMakeE, wM, wSl, wPart, wNoPart, wMeth, wFldC, wFldS, wProp, wBor, wBorT, wAppend, wPopAt, wExtend, wDGet2, wLstRng, wFmt, wJoined, jCons, jNil, gN, gTupW, gCons', gNil', iL, iT, iS, iR1, iR2, iZp, iEn, dAdd, dSub, dMul, dMod, dFdiv, dPow, dLt, dLe, dGt, dGe, dNeg, dIs, dIsNot, rLenD, rTupOf, rLstOf, rMax2, rMin2, rAbs, rIntOf, rStrOf, rDivmod, startE, Ev.get, Ev.set, Ev.lend, Ev.noSlf, Slot.lend, Slot.noSlf, Slot.isL, Slot.isDK, Slot.isPurse, List.map, List.all, List.length_cons, List.length_nil, List.replicate, List.append, List.cons_append, List.nil_append, Nat.zero_add, Nat.reduceAdd, Nat.reduceSub, Nat.reduceLT, if_true, if_false, Bool.false_eq_true, Bool.not_true, Bool.not_false]; exact h
theorem n_are_sizes {ds : List D} {kk : D → Prop} {kx : XC} (h : c_are_sizes ds kk kx) : ds.length = 2 := by
  obtain ⟨a, b, rfl, _⟩ := h; rfl
theorem zip_map1 {α : Type} (f : α → D) : ∀ (xs : List α) (ys : List D), zipD (xs.map f) ys = (xs.zip ys).map fun p => D.tup [f p.1, p.2]
  | [], _ => rfl
  | _ :: _, [] => rfl
  | x :: xs, y :: ys => by
    show D.tup [f x, y] :: zipD (xs.map f) ys = _
    rw [zip_map1 f xs ys]
    rfl
theorem zip_map2 {α : Type} (f : α → D) : ∀ (xs : List D) (ys : List α), zipD xs (ys.map f) = (xs.zip ys).map fun p => D.tup [p.1, f p.2]
  | [], _ => rfl
  | _ :: _, [] => rfl
  | x :: xs, y :: ys => by
    show D.tup [x, f y] :: zipD xs (ys.map f) = _
    rw [zip_map2 f xs ys]
    rfl
/-- all turns of a comprehension give a bool of the source -/
theorem all2_bl {α : Type} {l : List α} {F : α → D} {b : α → Bool} {R : D → D → Prop} (hR : ∀ a ∈ l, ∀ y, R (F a) y → y = .bl (b a)) : ∀ {ys : List D}, All2 R (l.map F) ys → ys = (l.map b).map D.bl := by
  induction l with
  | nil => intro ys h; cases ys with
    | nil => rfl
    | cons _ _ => exact h.elim
  | cons a l ih => intro ys h; cases ys with
    | nil => exact h.elim
    | cons y ys =>
      rw [hR a (List.mem_cons_self ..) y h.1, ih (fun a ha => hR a (List.mem_cons_of_mem _ ha)) h.2]
      rfl
theorem p_are_sizes (ds : List D) (kk : D → Prop) (kx : XC) (h : c_are_sizes ds kk kx) : (w_are_sizes kx) { nx := fun _ => kk .non, rt := fun d _ => kk d } (startE 4 ds) := by
  obtain ⟨a, b, rfl, ls, rs, hp, hok, hl, h⟩ := h
  have ht := ok_ty hok
  have hp2 := hp
  obtain ⟨rules, lies, names, ll, rfl⟩ := hp
  unfold w_are_sizes
  refine sSeq_gen fun M hM => ?_
  simp only [sSeq, sRet, sRetF, sRetN, sIf, sNext, sSet, sOwn, sOwnP, sPar, sExpr, sFldI, sBreak, sCont, sDPutD, sParFF, sParEF, sParFE, sParEFF, wIsi, wVar, wC, wOp, wUn, wB, wCons, wNil, wTup, wLst, wDct, wTru, wTruth, wNot, wAndT, wOrT, wAndV, wOrV, wNotV, wIfE, wChain, wCall, wCallP, wCallPF, wMake, wMakeE, wM, wSl, wPart, wNoPart, wMeth, wFldC, wFldS, wProp, wBor, wBorT, wAppend, wPopAt, wExtend, wDGet2, wLstRng, wFmt, wJoined, jCons, jNil, gN, gTupW, gCons', gNil', iL, iT, iS, iR1, iR2, iZp, iEn, dAdd, dSub, dMul, dMod, dFdiv, dPow, dLt, dLe, dGt, dGe, dNeg, dIs, dIsNot, rLenD, rTupOf, rLstOf, rMax2, rMin2, rAbs, rIntOf, rStrOf, rDivmod, startE, Ev.get, Ev.set, Ev.lend, Ev.noSlf, Slot.lend, Slot.noSlf, Slot.isL, Slot.isDK, Slot.isPurse, List.map, List.all, List.length_cons, List.length_nil, List.replicate, List.append, List.cons_append, List.nil_append, Nat.zero_add, Nat.reduceAdd, Nat.reduceSub, Nat.reduceLT, if_true, if_false, Bool.false_eq_true, Bool.not_true, Bool.not_false, isa_tuple ht]
  cases b with
  | tup vs =>
    simp only [D.isTup, sSeq, sRet, sRetF, sRetN, sIf, sNext, sSet, sOwn, sOwnP, sPar, sExpr, sFldI, sBreak, sCont, sDPutD, sParFF, sParEF, sParFE, sParEFF, wIsi, wVar, wC, wOp, wUn, wB, wCons, wNil, wTup, wLst, wDct, wTru, wTruth, wNot, wAndT, wOrT, wAndV, wOrV, wNotV, wIfE, wChain, wCall, wCallP, wCallPF, wMake, wMakeE, wM, wSl, wPart, wNoPart, wMeth, wFldC, wFldS, wProp, wBor, wBorT, wAppend, wPopAt, wExtend, wDGet2, wLstRng, wFmt, wJoined, jCons, jNil, gN, gTupW, gCons', gNil', iL, iT, iS, iR1, iR2, iZp, iEn, dAdd, dSub, dMul, dMod, dFdiv, dPow, dLt, dLe, dGt, dGe, dNeg, dIs, dIsNot, rLenD, rTupOf, rLstOf, rMax2, rMin2, rAbs, rIntOf, rStrOf, rDivmod, startE, Ev.get, Ev.set, Ev.lend, Ev.noSlf, Slot.lend, Slot.noSlf, Slot.isL, Slot.isDK, Slot.isPurse, List.map, List.all, List.length_cons, List.length_nil, List.replicate, List.append, List.cons_append, List.nil_append, Nat.zero_add, Nat.reduceAdd, Nat.reduceSub, Nat.reduceLT, if_true, if_false, Bool.false_eq_true, Bool.not_true, Bool.not_false, true_and]
    refine ⟨_, rfl, _, rs, hp2, ?_⟩
    simp only [sSeq, sRet, sRetF, sRetN, sIf, sNext, sSet, sOwn, sOwnP, sPar, sExpr, sFldI, sBreak, sCont, sDPutD, sParFF, sParEF, sParFE, sParEFF, wIsi, wVar, wC, wOp, wUn, wB, wCons, wNil, wTup, wLst, wDct, wTru, wTruth, wNot, wAndT, wOrT, wAndV, wOrV, wNotV, wIfE, wChain, wCall, wCallP, wCallPF, wMake, wMakeE, wM, wSl, wPart, wNoPart, wMeth, wFldC, wFldS, wProp, wBor, wBorT, wAppend, wPopAt, wExtend, wDGet2, wLstRng, wFmt, wJoined, jCons, jNil, gN, gTupW, gCons', gNil', iL, iT, iS, iR1, iR2, iZp, iEn, dAdd, dSub, dMul, dMod, dFdiv, dPow, dLt, dLe, dGt, dGe, dNeg, dIs, dIsNot, rLenD, rTupOf, rLstOf, rMax2, rMin2, rAbs, rIntOf, rStrOf, rDivmod, startE, Ev.get, Ev.set, Ev.lend, Ev.noSlf, Slot.lend, Slot.noSlf, Slot.isL, Slot.isDK, Slot.isPurse, List.map, List.all, List.length_cons, List.length_nil, List.replicate, List.append, List.cons_append, List.nil_append, Nat.zero_add, Nat.reduceAdd, Nat.reduceSub, Nat.reduceLT, if_true, if_false, Bool.false_eq_true, Bool.not_true, Bool.not_false, dNe_int]
    have h : kk (.bl (decide (vs.length = ls.length) && ((ls.zip vs).all fun p => sizeB p.1.2.1 p.1.2.2 p.2))) := h
    by_cases q : vs.length = ls.length
    · rw [if_neg (show ¬ (!decide ((vs.length : Int) = ((ls.map lotD).length : Nat))) = true by
        rw [List.length_map, decide_eq_true (by omega)]; exact Bool.false_ne_true)]
      rw [decide_eq_true q] at h
      refine hM _ ?_
      simp only [sSeq, sRet, sRetF, sRetN, sIf, sNext, sSet, sOwn, sOwnP, sPar, sExpr, sFldI, sBreak, sCont, sDPutD, sParFF, sParEF, sParFE, sParEFF, wIsi, wVar, wC, wOp, wUn, wB, wCons, wNil, wTup, wLst, wDct, wTru, wTruth, wNot, wAndT, wOrT, wAndV, wOrV, wNotV, wIfE, wChain, wCall, wCallP, wCallPF, wMake, wMakeE, wM, wSl, wPart, wNoPart, wMeth, wFldC, wFldS, wProp, wBor, wBorT, wAppend, wPopAt, wExtend, wDGet2, wLstRng, wFmt, wJoined, jCons, jNil, gN, gTupW, gCons', gNil', iL, iT, iS, iR1, iR2, iZp, iEn, dAdd, dSub, dMul, dMod, dFdiv, dPow, dLt, dLe, dGt, dGe, dNeg, dIs, dIsNot, rLenD, rTupOf, rLstOf, rMax2, rMin2, rAbs, rIntOf, rStrOf, rDivmod, startE, Ev.get, Ev.set, Ev.lend, Ev.noSlf, Slot.lend, Slot.noSlf, Slot.isL, Slot.isDK, Slot.isPurse, List.map, List.all, List.length_cons, List.length_nil, List.replicate, List.append, List.cons_append, List.nil_append, Nat.zero_add, Nat.reduceAdd, Nat.reduceSub, Nat.reduceLT, if_true, if_false, Bool.false_eq_true, Bool.not_true, Bool.not_false]
      refine wLc_i ?_
      simp only [sSeq, sRet, sRetF, sRetN, sIf, sNext, sSet, sOwn, sOwnP, sPar, sExpr, sFldI, sBreak, sCont, sDPutD, sParFF, sParEF, sParFE, sParEFF, wIsi, wVar, wC, wOp, wUn, wB, wCons, wNil, wTup, wLst, wDct, wTru, wTruth, wNot, wAndT, wOrT, wAndV, wOrV, wNotV, wIfE, wChain, wCall, wCallP, wCallPF, wMake, wMakeE, wM, wSl, wPart, wNoPart, wMeth, wFldC, wFldS, wProp, wBor, wBorT, wAppend, wPopAt, wExtend, wDGet2, wLstRng, wFmt, wJoined, jCons, jNil, gN, gTupW, gCons', gNil', iL, iT, iS, iR1, iR2, iZp, iEn, dAdd, dSub, dMul, dMod, dFdiv, dPow, dLt, dLe, dGt, dGe, dNeg, dIs, dIsNot, rLenD, rTupOf, rLstOf, rMax2, rMin2, rAbs, rIntOf, rStrOf, rDivmod, startE, Ev.get, Ev.set, Ev.lend, Ev.noSlf, Slot.lend, Slot.noSlf, Slot.isL, Slot.isDK, Slot.isPurse, List.map, List.all, List.length_cons, List.length_nil, List.replicate, List.append, List.cons_append, List.nil_append, Nat.zero_add, Nat.reduceAdd, Nat.reduceSub, Nat.reduceLT, if_true, if_false, Bool.false_eq_true, Bool.not_true, Bool.not_false, true_and]
      refine ⟨_, rfl, _, rs, hp2, ?_⟩
      simp only [sSeq, sRet, sRetF, sRetN, sIf, sNext, sSet, sOwn, sOwnP, sPar, sExpr, sFldI, sBreak, sCont, sDPutD, sParFF, sParEF, sParFE, sParEFF, wIsi, wVar, wC, wOp, wUn, wB, wCons, wNil, wTup, wLst, wDct, wTru, wTruth, wNot, wAndT, wOrT, wAndV, wOrV, wNotV, wIfE, wChain, wCall, wCallP, wCallPF, wMake, wMakeE, wM, wSl, wPart, wNoPart, wMeth, wFldC, wFldS, wProp, wBor, wBorT, wAppend, wPopAt, wExtend, wDGet2, wLstRng, wFmt, wJoined, jCons, jNil, gN, gTupW, gCons', gNil', iL, iT, iS, iR1, iR2, iZp, iEn, dAdd, dSub, dMul, dMod, dFdiv, dPow, dLt, dLe, dGt, dGe, dNeg, dIs, dIsNot, rLenD, rTupOf, rLstOf, rMax2, rMin2, rAbs, rIntOf, rStrOf, rDivmod, startE, Ev.get, Ev.set, Ev.lend, Ev.noSlf, Slot.lend, Slot.noSlf, Slot.isL, Slot.isDK, Slot.isPurse, List.map, List.all, List.length_cons, List.length_nil, List.replicate, List.append, List.cons_append, List.nil_append, Nat.zero_add, Nat.reduceAdd, Nat.reduceSub, Nat.reduceLT, if_true, if_false, Bool.false_eq_true, Bool.not_true, Bool.not_false]
      rw [zip_map1]
      refine ⟨by rw [List.length_map, List.length_zip]; omega, ?_⟩
      simp only [Ev.wipe]
      refine lcY (R := fun d y => ∀ l v, d = .tup [lotD l, v] → y = .bl (sizeB l.2.1 l.2.2 v)) _ _ _ (fun d hd kk2 q => ?_) fun ys hys => ⟨(ls.zip vs).map fun p => sizeB p.1.2.1 p.1.2.2 p.2, ?_, ?_⟩
      · obtain ⟨⟨l, v⟩, hm, rfl⟩ := List.mem_map.mp hd
        have hv : D.ok v = true := okL_mem hok (List.of_mem_zip hm).2
        refine ⟨rfl, rfl, ?_⟩
        simp only [sSeq, sRet, sRetF, sRetN, sIf, sNext, sSet, sOwn, sOwnP, sPar, sExpr, sFldI, sBreak, sCont, sDPutD, sParFF, sParEF, sParFE, sParEFF, wIsi, wVar, wC, wOp, wUn, wB, wCons, wNil, wTup, wLst, wDct, wTru, wTruth, wNot, wAndT, wOrT, wAndV, wOrV, wNotV, wIfE, wChain, wCall, wCallP, wCallPF, wMake, wMakeE, wM, wSl, wPart, wNoPart, wMeth, wFldC, wFldS, wProp, wBor, wBorT, wAppend, wPopAt, wExtend, wDGet2, wLstRng, wFmt, wJoined, jCons, jNil, gN, gTupW, gCons', gNil', iL, iT, iS, iR1, iR2, iZp, iEn, dAdd, dSub, dMul, dMod, dFdiv, dPow, dLt, dLe, dGt, dGe, dNeg, dIs, dIsNot, rLenD, rTupOf, rLstOf, rMax2, rMin2, rAbs, rIntOf, rStrOf, rDivmod, startE, Ev.get, Ev.set, Ev.lend, Ev.noSlf, Slot.lend, Slot.noSlf, Slot.isL, Slot.isDK, Slot.isPurse, List.map, List.all, List.length_cons, List.length_nil, List.replicate, List.append, List.cons_append, List.nil_append, Nat.zero_add, Nat.reduceAdd, Nat.reduceSub, Nat.reduceLT, if_true, if_false, Bool.false_eq_true, Bool.not_true, Bool.not_false]
        refine ⟨_, _, rfl, l.1, l.2.1, l.2.2, rfl, hv, ?_⟩
        refine q _ _ (fun l' v' e => ?_) rfl
        have e1 : lotD l = lotD l' ∧ v = v' := by
          have e' : [lotD l, v] = [lotD l', v'] := D.tup.inj e
          simp only [List.cons.injEq, and_true] at e'
          exact e'
        obtain ⟨e1, rfl⟩ := e1
        have e2 : [D.str l.1, .int l.2.1, optI l.2.2] = [D.str l'.1, .int l'.2.1, optI l'.2.2] := D.tup.inj e1
        simp only [List.cons.injEq, D.str.injEq, D.int.injEq, and_true] at e2
        rw [e2.2.1]
        have e3 : l.2.2 = l'.2.2 := by
          have := e2.2.2
          cases h1 : l.2.2 <;> cases h2 : l'.2.2 <;> rw [h1, h2] at this <;> first | rfl | (cases this; rfl) | cases this
        rw [e3]
      · rw [all2_bl (b := fun p => sizeB p.1.2.1 p.1.2.2 p.2) (fun p _ y hy => hy _ _ rfl) hys]
      · have e : ((ls.zip vs).map fun p => sizeB p.1.2.1 p.1.2.2 p.2).all id = (ls.zip vs).all fun p => sizeB p.1.2.1 p.1.2.2 p.2 := by rw [List.all_map]; rfl
        rw [e]
        exact h
    · rw [if_pos (show (!decide ((vs.length : Int) = ((ls.map lotD).length : Nat))) = true by
        rw [List.length_map, decide_eq_false (by omega)]; rfl)]
      rw [decide_eq_false q] at h
      exact h
  | ins c fs => exact absurd rfl ht
  | _ => simp only [D.isTup, sSeq, sRet, sRetF, sRetN, sIf, sNext, sSet, sOwn, sOwnP, sPar, sExpr, sFldI, sBreak, sCont, sDPutD, sParFF, sParEF, sParFE, sParEFF, wIsi, wVar, wC, wOp, wUn, wB, wCons, wNil, wTup, wLst, wDct, wTru, wTruth, wNot, wAndT, wOrT, wAndV, wOrV, wNotV, wIfE, wChain, wCall, wCallP, wCallPF, wMake, wMakeE, wM, wSl, wPart, wNoPart, wMeth, wFldC, wFldS, wProp, wBor, wBorT, wAppend, wPopAt, wExtend, wDGet2, wLstRng, wFmt, wJoined, jCons, jNil, gN, gTupW, gCons', gNil', iL, iT, iS, iR1, iR2, iZp, iEn, dAdd, dSub, dMul, dMod, dFdiv, dPow, dLt, dLe, dGt, dGe, dNeg, dIs, dIsNot, rLenD, rTupOf, rLstOf, rMax2, rMin2, rAbs, rIntOf, rStrOf, rDivmod, startE, Ev.get, Ev.set, Ev.lend, Ev.noSlf, Slot.lend, Slot.noSlf, Slot.isL, Slot.isDK, Slot.isPurse, List.map, List.all, List.length_cons, List.length_nil, List.replicate, List.append, List.cons_append, List.nil_append, Nat.zero_add, Nat.reduceAdd, Nat.reduceSub, Nat.reduceLT, if_true, if_false, Bool.false_eq_true, Bool.not_true, Bool.not_false]; exact h
theorem n_check_sizes {ds : List D} {kk : D → Prop} {kx : XC} (h : c_check_sizes ds kk kx) : ds.length = 2 := by
  obtain ⟨a, b, rfl, _⟩ := h; rfl
theorem p_check_sizes (ds : List D) (kk : D → Prop) (kx : XC) (h : c_check_sizes ds kk kx) : (w_check_sizes kx) { nx := fun _ => kk .non, rt := fun d _ => kk d } (startE 2 ds) := by
  obtain ⟨a, b, rfl, ls, rs, hp, hok, hl, hz, h⟩ := h
  simp only [sSeq, sRet, sRetF, sRetN, sIf, sNext, sSet, sOwn, sOwnP, sPar, sExpr, sFldI, sBreak, sCont, sDPutD, sParFF, sParEF, sParFE, sParEFF, wIsi, wVar, wC, wOp, wUn, wB, wCons, wNil, wTup, wLst, wDct, wTru, wTruth, wNot, wAndT, wOrT, wAndV, wOrV, wNotV, wIfE, wChain, wCall, wCallP, wCallPF, wMake, wMakeE, wM, wSl, wPart, wNoPart, wMeth, wFldC, wFldS, wProp, wBor, wBorT, wAppend, wPopAt, wExtend, wDGet2, wLstRng, wFmt, wJoined, jCons, jNil, gN, gTupW, gCons', gNil', iL, iT, iS, iR1, iR2, iZp, iEn, dAdd, dSub, dMul, dMod, dFdiv, dPow, dLt, dLe, dGt, dGe, dNeg, dIs, dIsNot, rLenD, rTupOf, rLstOf, rMax2, rMin2, rAbs, rIntOf, rStrOf, rDivmod, startE, Ev.get, Ev.set, Ev.lend, Ev.noSlf, Slot.lend, Slot.noSlf, Slot.isL, Slot.isDK, Slot.isPurse, List.map, List.all, List.length_cons, List.length_nil, List.replicate, List.append, List.cons_append, List.nil_append, Nat.zero_add, Nat.reduceAdd, Nat.reduceSub, Nat.reduceLT, if_true, if_false, Bool.false_eq_true, Bool.not_true, Bool.not_false, w_check_sizes]
  refine ⟨_, _, rfl, ls, rs, hp, hok, hl, ?_⟩
  simp only [hz, sSeq, sRet, sRetF, sRetN, sIf, sNext, sSet, sOwn, sOwnP, sPar, sExpr, sFldI, sBreak, sCont, sDPutD, sParFF, sParEF, sParFE, sParEFF, wIsi, wVar, wC, wOp, wUn, wB, wCons, wNil, wTup, wLst, wDct, wTru, wTruth, wNot, wAndT, wOrT, wAndV, wOrV, wNotV, wIfE, wChain, wCall, wCallP, wCallPF, wMake, wMakeE, wM, wSl, wPart, wNoPart, wMeth, wFldC, wFldS, wProp, wBor, wBorT, wAppend, wPopAt, wExtend, wDGet2, wLstRng, wFmt, wJoined, jCons, jNil, gN, gTupW, gCons', gNil', iL, iT, iS, iR1, iR2, iZp, iEn, dAdd, dSub, dMul, dMod, dFdiv, dPow, dLt, dLe, dGt, dGe, dNeg, dIs, dIsNot, rLenD, rTupOf, rLstOf, rMax2, rMin2, rAbs, rIntOf, rStrOf, rDivmod, startE, Ev.get, Ev.set, Ev.lend, Ev.noSlf, Slot.lend, Slot.noSlf, Slot.isL, Slot.isDK, Slot.isPurse, List.map, List.all, List.length_cons, List.length_nil, List.replicate, List.append, List.cons_append, List.nil_append, Nat.zero_add, Nat.reduceAdd, Nat.reduceSub, Nat.reduceLT, if_true, if_false, Bool.false_eq_true, Bool.not_true, Bool.not_false]
  exact h
theorem n_are_counts {ds : List D} {kk : D → Prop} {kx : XC} (h : c_are_counts ds kk kx) : ds.length = 2 := by
  obtain ⟨a, b, rfl, _⟩ := h; rfl
theorem p_are_counts (ds : List D) (kk : D → Prop) (kx : XC) (h : c_are_counts ds kk kx) : (w_are_counts kx) { nx := fun _ => kk .non, rt := fun d _ => kk d } (startE 4 ds) := by
  obtain ⟨a, b, rfl, zs, rfl, hok, hl, h⟩ := h
  have ht := ok_ty hok
  unfold w_are_counts
  refine sSeq_gen fun M hM => ?_
  simp only [sSeq, sRet, sRetF, sRetN, sIf, sNext, sSet, sOwn, sOwnP, sPar, sExpr, sFldI, sBreak, sCont, sDPutD, sParFF, sParEF, sParFE, sParEFF, wIsi, wVar, wC, wOp, wUn, wB, wCons, wNil, wTup, wLst, wDct, wTru, wTruth, wNot, wAndT, wOrT, wAndV, wOrV, wNotV, wIfE, wChain, wCall, wCallP, wCallPF, wMake, wMakeE, wM, wSl, wPart, wNoPart, wMeth, wFldC, wFldS, wProp, wBor, wBorT, wAppend, wPopAt, wExtend, wDGet2, wLstRng, wFmt, wJoined, jCons, jNil, gN, gTupW, gCons', gNil', iL, iT, iS, iR1, iR2, iZp, iEn, dAdd, dSub, dMul, dMod, dFdiv, dPow, dLt, dLe, dGt, dGe, dNeg, dIs, dIsNot, rLenD, rTupOf, rLstOf, rMax2, rMin2, rAbs, rIntOf, rStrOf, rDivmod, startE, Ev.get, Ev.set, Ev.lend, Ev.noSlf, Slot.lend, Slot.noSlf, Slot.isL, Slot.isDK, Slot.isPurse, List.map, List.all, List.length_cons, List.length_nil, List.replicate, List.append, List.cons_append, List.nil_append, Nat.zero_add, Nat.reduceAdd, Nat.reduceSub, Nat.reduceLT, if_true, if_false, Bool.false_eq_true, Bool.not_true, Bool.not_false, isa_tuple ht]
  cases b with
  | tup vs =>
    simp only [D.isTup, sSeq, sRet, sRetF, sRetN, sIf, sNext, sSet, sOwn, sOwnP, sPar, sExpr, sFldI, sBreak, sCont, sDPutD, sParFF, sParEF, sParFE, sParEFF, wIsi, wVar, wC, wOp, wUn, wB, wCons, wNil, wTup, wLst, wDct, wTru, wTruth, wNot, wAndT, wOrT, wAndV, wOrV, wNotV, wIfE, wChain, wCall, wCallP, wCallPF, wMake, wMakeE, wM, wSl, wPart, wNoPart, wMeth, wFldC, wFldS, wProp, wBor, wBorT, wAppend, wPopAt, wExtend, wDGet2, wLstRng, wFmt, wJoined, jCons, jNil, gN, gTupW, gCons', gNil', iL, iT, iS, iR1, iR2, iZp, iEn, dAdd, dSub, dMul, dMod, dFdiv, dPow, dLt, dLe, dGt, dGe, dNeg, dIs, dIsNot, rLenD, rTupOf, rLstOf, rMax2, rMin2, rAbs, rIntOf, rStrOf, rDivmod, startE, Ev.get, Ev.set, Ev.lend, Ev.noSlf, Slot.lend, Slot.noSlf, Slot.isL, Slot.isDK, Slot.isPurse, List.map, List.all, List.length_cons, List.length_nil, List.replicate, List.append, List.cons_append, List.nil_append, Nat.zero_add, Nat.reduceAdd, Nat.reduceSub, Nat.reduceLT, if_true, if_false, Bool.false_eq_true, Bool.not_true, Bool.not_false, dNe_int, tupI]
    have h : kk (.bl (decide (vs.length = zs.length) && ((vs.zip zs).all fun p => intIn 0 p.2 p.1))) := h
    by_cases q : vs.length = zs.length
    · rw [if_neg (show ¬ (!decide ((vs.length : Int) = ((zs.map D.int).length : Nat))) = true by
        rw [List.length_map, decide_eq_true (by omega)]; exact Bool.false_ne_true)]
      rw [decide_eq_true q] at h
      refine hM _ ?_
      simp only [sSeq, sRet, sRetF, sRetN, sIf, sNext, sSet, sOwn, sOwnP, sPar, sExpr, sFldI, sBreak, sCont, sDPutD, sParFF, sParEF, sParFE, sParEFF, wIsi, wVar, wC, wOp, wUn, wB, wCons, wNil, wTup, wLst, wDct, wTru, wTruth, wNot, wAndT, wOrT, wAndV, wOrV, wNotV, wIfE, wChain, wCall, wCallP, wCallPF, wMake, wMakeE, wM, wSl, wPart, wNoPart, wMeth, wFldC, wFldS, wProp, wBor, wBorT, wAppend, wPopAt, wExtend, wDGet2, wLstRng, wFmt, wJoined, jCons, jNil, gN, gTupW, gCons', gNil', iL, iT, iS, iR1, iR2, iZp, iEn, dAdd, dSub, dMul, dMod, dFdiv, dPow, dLt, dLe, dGt, dGe, dNeg, dIs, dIsNot, rLenD, rTupOf, rLstOf, rMax2, rMin2, rAbs, rIntOf, rStrOf, rDivmod, startE, Ev.get, Ev.set, Ev.lend, Ev.noSlf, Slot.lend, Slot.noSlf, Slot.isL, Slot.isDK, Slot.isPurse, List.map, List.all, List.length_cons, List.length_nil, List.replicate, List.append, List.cons_append, List.nil_append, Nat.zero_add, Nat.reduceAdd, Nat.reduceSub, Nat.reduceLT, if_true, if_false, Bool.false_eq_true, Bool.not_true, Bool.not_false]
      refine wLc_i ?_
      simp only [sSeq, sRet, sRetF, sRetN, sIf, sNext, sSet, sOwn, sOwnP, sPar, sExpr, sFldI, sBreak, sCont, sDPutD, sParFF, sParEF, sParFE, sParEFF, wIsi, wVar, wC, wOp, wUn, wB, wCons, wNil, wTup, wLst, wDct, wTru, wTruth, wNot, wAndT, wOrT, wAndV, wOrV, wNotV, wIfE, wChain, wCall, wCallP, wCallPF, wMake, wMakeE, wM, wSl, wPart, wNoPart, wMeth, wFldC, wFldS, wProp, wBor, wBorT, wAppend, wPopAt, wExtend, wDGet2, wLstRng, wFmt, wJoined, jCons, jNil, gN, gTupW, gCons', gNil', iL, iT, iS, iR1, iR2, iZp, iEn, dAdd, dSub, dMul, dMod, dFdiv, dPow, dLt, dLe, dGt, dGe, dNeg, dIs, dIsNot, rLenD, rTupOf, rLstOf, rMax2, rMin2, rAbs, rIntOf, rStrOf, rDivmod, startE, Ev.get, Ev.set, Ev.lend, Ev.noSlf, Slot.lend, Slot.noSlf, Slot.isL, Slot.isDK, Slot.isPurse, List.map, List.all, List.length_cons, List.length_nil, List.replicate, List.append, List.cons_append, List.nil_append, Nat.zero_add, Nat.reduceAdd, Nat.reduceSub, Nat.reduceLT, if_true, if_false, Bool.false_eq_true, Bool.not_true, Bool.not_false]
      rw [zip_map2]
      refine ⟨by rw [List.length_map, List.length_zip]; omega, ?_⟩
      simp only [Ev.wipe]
      refine lcY (R := fun d y => ∀ v (z : Int), d = .tup [v, .int z] → y = .bl (intIn 0 z v)) _ _ _ (fun d hd kk2 q => ?_) fun ys hys => ⟨(vs.zip zs).map fun p => intIn 0 p.2 p.1, ?_, ?_⟩
      · obtain ⟨⟨v, z⟩, hm, rfl⟩ := List.mem_map.mp hd
        have hv : D.ok v = true := okL_mem hok (List.of_mem_zip hm).1
        refine ⟨rfl, rfl, ?_⟩
        simp only [sSeq, sRet, sRetF, sRetN, sIf, sNext, sSet, sOwn, sOwnP, sPar, sExpr, sFldI, sBreak, sCont, sDPutD, sParFF, sParEF, sParFE, sParEFF, wIsi, wVar, wC, wOp, wUn, wB, wCons, wNil, wTup, wLst, wDct, wTru, wTruth, wNot, wAndT, wOrT, wAndV, wOrV, wNotV, wIfE, wChain, wCall, wCallP, wCallPF, wMake, wMakeE, wM, wSl, wPart, wNoPart, wMeth, wFldC, wFldS, wProp, wBor, wBorT, wAppend, wPopAt, wExtend, wDGet2, wLstRng, wFmt, wJoined, jCons, jNil, gN, gTupW, gCons', gNil', iL, iT, iS, iR1, iR2, iZp, iEn, dAdd, dSub, dMul, dMod, dFdiv, dPow, dLt, dLe, dGt, dGe, dNeg, dIs, dIsNot, rLenD, rTupOf, rLstOf, rMax2, rMin2, rAbs, rIntOf, rStrOf, rDivmod, startE, Ev.get, Ev.set, Ev.lend, Ev.noSlf, Slot.lend, Slot.noSlf, Slot.isL, Slot.isDK, Slot.isPurse, List.map, List.all, List.length_cons, List.length_nil, List.replicate, List.append, List.cons_append, List.nil_append, Nat.zero_add, Nat.reduceAdd, Nat.reduceSub, Nat.reduceLT, if_true, if_false, Bool.false_eq_true, Bool.not_true, Bool.not_false]
        refine ⟨_, rfl, ok_ty hv, ?_⟩
        have fin : ∀ s2 s3, kk2 (.bl (intIn 0 z v)) [.val (.tup (vs)), .val (.tup (zs.map D.int)), s2, s3] → True := fun _ _ _ => trivial
        cases v with
        | int i =>
          simp only [D.isInt, sSeq, sRet, sRetF, sRetN, sIf, sNext, sSet, sOwn, sOwnP, sPar, sExpr, sFldI, sBreak, sCont, sDPutD, sParFF, sParEF, sParFE, sParEFF, wIsi, wVar, wC, wOp, wUn, wB, wCons, wNil, wTup, wLst, wDct, wTru, wTruth, wNot, wAndT, wOrT, wAndV, wOrV, wNotV, wIfE, wChain, wCall, wCallP, wCallPF, wMake, wMakeE, wM, wSl, wPart, wNoPart, wMeth, wFldC, wFldS, wProp, wBor, wBorT, wAppend, wPopAt, wExtend, wDGet2, wLstRng, wFmt, wJoined, jCons, jNil, gN, gTupW, gCons', gNil', iL, iT, iS, iR1, iR2, iZp, iEn, dAdd, dSub, dMul, dMod, dFdiv, dPow, dLt, dLe, dGt, dGe, dNeg, dIs, dIsNot, rLenD, rTupOf, rLstOf, rMax2, rMin2, rAbs, rIntOf, rStrOf, rDivmod, startE, Ev.get, Ev.set, Ev.lend, Ev.noSlf, Slot.lend, Slot.noSlf, Slot.isL, Slot.isDK, Slot.isPurse, List.map, List.all, List.length_cons, List.length_nil, List.replicate, List.append, List.cons_append, List.nil_append, Nat.zero_add, Nat.reduceAdd, Nat.reduceSub, Nat.reduceLT, if_true, if_false, Bool.false_eq_true, Bool.not_true, Bool.not_false]
          have e1 : intIn 0 z (.int i) = (decide ((0 : Int) ≤ i) && decide (i ≤ z)) := rfl
          by_cases h0 : (0 : Int) ≤ i
          · rw [decide_eq_true h0]
            simp only [sSeq, sRet, sRetF, sRetN, sIf, sNext, sSet, sOwn, sOwnP, sPar, sExpr, sFldI, sBreak, sCont, sDPutD, sParFF, sParEF, sParFE, sParEFF, wIsi, wVar, wC, wOp, wUn, wB, wCons, wNil, wTup, wLst, wDct, wTru, wTruth, wNot, wAndT, wOrT, wAndV, wOrV, wNotV, wIfE, wChain, wCall, wCallP, wCallPF, wMake, wMakeE, wM, wSl, wPart, wNoPart, wMeth, wFldC, wFldS, wProp, wBor, wBorT, wAppend, wPopAt, wExtend, wDGet2, wLstRng, wFmt, wJoined, jCons, jNil, gN, gTupW, gCons', gNil', iL, iT, iS, iR1, iR2, iZp, iEn, dAdd, dSub, dMul, dMod, dFdiv, dPow, dLt, dLe, dGt, dGe, dNeg, dIs, dIsNot, rLenD, rTupOf, rLstOf, rMax2, rMin2, rAbs, rIntOf, rStrOf, rDivmod, startE, Ev.get, Ev.set, Ev.lend, Ev.noSlf, Slot.lend, Slot.noSlf, Slot.isL, Slot.isDK, Slot.isPurse, List.map, List.all, List.length_cons, List.length_nil, List.replicate, List.append, List.cons_append, List.nil_append, Nat.zero_add, Nat.reduceAdd, Nat.reduceSub, Nat.reduceLT, if_true, if_false, Bool.false_eq_true, Bool.not_true, Bool.not_false]
            refine q _ _ (fun v' z' e => ?_) rfl
            simp only [D.tup.injEq, List.cons.injEq, D.int.injEq, and_true] at e
            rw [← e.1, ← e.2, e1, decide_eq_true h0]; rfl
          · rw [decide_eq_false h0]
            simp only [sSeq, sRet, sRetF, sRetN, sIf, sNext, sSet, sOwn, sOwnP, sPar, sExpr, sFldI, sBreak, sCont, sDPutD, sParFF, sParEF, sParFE, sParEFF, wIsi, wVar, wC, wOp, wUn, wB, wCons, wNil, wTup, wLst, wDct, wTru, wTruth, wNot, wAndT, wOrT, wAndV, wOrV, wNotV, wIfE, wChain, wCall, wCallP, wCallPF, wMake, wMakeE, wM, wSl, wPart, wNoPart, wMeth, wFldC, wFldS, wProp, wBor, wBorT, wAppend, wPopAt, wExtend, wDGet2, wLstRng, wFmt, wJoined, jCons, jNil, gN, gTupW, gCons', gNil', iL, iT, iS, iR1, iR2, iZp, iEn, dAdd, dSub, dMul, dMod, dFdiv, dPow, dLt, dLe, dGt, dGe, dNeg, dIs, dIsNot, rLenD, rTupOf, rLstOf, rMax2, rMin2, rAbs, rIntOf, rStrOf, rDivmod, startE, Ev.get, Ev.set, Ev.lend, Ev.noSlf, Slot.lend, Slot.noSlf, Slot.isL, Slot.isDK, Slot.isPurse, List.map, List.all, List.length_cons, List.length_nil, List.replicate, List.append, List.cons_append, List.nil_append, Nat.zero_add, Nat.reduceAdd, Nat.reduceSub, Nat.reduceLT, if_true, if_false, Bool.false_eq_true, Bool.not_true, Bool.not_false]
            refine q _ _ (fun v' z' e => ?_) rfl
            simp only [D.tup.injEq, List.cons.injEq, D.int.injEq, and_true] at e
            rw [← e.1, ← e.2, e1, decide_eq_false h0]; rfl
        | _ =>
          simp only [D.isInt, sSeq, sRet, sRetF, sRetN, sIf, sNext, sSet, sOwn, sOwnP, sPar, sExpr, sFldI, sBreak, sCont, sDPutD, sParFF, sParEF, sParFE, sParEFF, wIsi, wVar, wC, wOp, wUn, wB, wCons, wNil, wTup, wLst, wDct, wTru, wTruth, wNot, wAndT, wOrT, wAndV, wOrV, wNotV, wIfE, wChain, wCall, wCallP, wCallPF, wMake, wMakeE, wM, wSl, wPart, wNoPart, wMeth, wFldC, wFldS, wProp, wBor, wBorT, wAppend, wPopAt, wExtend, wDGet2, wLstRng, wFmt, wJoined, jCons, jNil, gN, gTupW, gCons', gNil', iL, iT, iS, iR1, iR2, iZp, iEn, dAdd, dSub, dMul, dMod, dFdiv, dPow, dLt, dLe, dGt, dGe, dNeg, dIs, dIsNot, rLenD, rTupOf, rLstOf, rMax2, rMin2, rAbs, rIntOf, rStrOf, rDivmod, startE, Ev.get, Ev.set, Ev.lend, Ev.noSlf, Slot.lend, Slot.noSlf, Slot.isL, Slot.isDK, Slot.isPurse, List.map, List.all, List.length_cons, List.length_nil, List.replicate, List.append, List.cons_append, List.nil_append, Nat.zero_add, Nat.reduceAdd, Nat.reduceSub, Nat.reduceLT, if_true, if_false, Bool.false_eq_true, Bool.not_true, Bool.not_false]
          refine q _ _ (fun v' z' e => ?_) rfl
          simp only [D.tup.injEq, List.cons.injEq, D.int.injEq, and_true] at e
          rw [← e.1]; rfl
      · rw [all2_bl (b := fun p => intIn 0 p.2 p.1) (fun p _ y hy => hy _ _ rfl) hys]
      · have e : ((vs.zip zs).map fun p => intIn 0 p.2 p.1).all id = (vs.zip zs).all fun p => intIn 0 p.2 p.1 := by rw [List.all_map]; rfl
        rw [e]
        exact h
    · rw [if_pos (show (!decide ((vs.length : Int) = ((zs.map D.int).length : Nat))) = true by
        rw [List.length_map, decide_eq_false (by omega)]; rfl)]
      rw [decide_eq_false q] at h
      exact h
  | ins c fs => exact absurd rfl ht
  | _ => simp only [D.isTup, sSeq, sRet, sRetF, sRetN, sIf, sNext, sSet, sOwn, sOwnP, sPar, sExpr, sFldI, sBreak, sCont, sDPutD, sParFF, sParEF, sParFE, sParEFF, wIsi, wVar, wC, wOp, wUn, wB, wCons, wNil, wTup, wLst, wDct, wTru, wTruth, wNot, wAndT, wOrT, wAndV, wOrV, wNotV, wIfE, wChain, wCall, wCallP, wCallPF, wMake, wMakeE, wM, wSl, wPart, wNoPart, wMeth, wFldC, wFldS, wProp, wBor, wBorT, wAppend, wPopAt, wExtend, wDGet2, wLstRng, wFmt, wJoined, jCons, jNil, gN, gTupW, gCons', gNil', iL, iT, iS, iR1, iR2, iZp, iEn, dAdd, dSub, dMul, dMod, dFdiv, dPow, dLt, dLe, dGt, dGe, dNeg, dIs, dIsNot, rLenD, rTupOf, rLstOf, rMax2, rMin2, rAbs, rIntOf, rStrOf, rDivmod, startE, Ev.get, Ev.set, Ev.lend, Ev.noSlf, Slot.lend, Slot.noSlf, Slot.isL, Slot.isDK, Slot.isPurse, List.map, List.all, List.length_cons, List.length_nil, List.replicate, List.append, List.cons_append, List.nil_append, Nat.zero_add, Nat.reduceAdd, Nat.reduceSub, Nat.reduceLT, if_true, if_false, Bool.false_eq_true, Bool.not_true, Bool.not_false]; exact h
theorem n_check_counts {ds : List D} {kk : D → Prop} {kx : XC} (h : c_check_counts ds kk kx) : ds.length = 2 := by
  obtain ⟨a, b, rfl, _⟩ := h; rfl
theorem p_check_counts (ds : List D) (kk : D → Prop) (kx : XC) (h : c_check_counts ds kk kx) : (w_check_counts kx) { nx := fun _ => kk .non, rt := fun d _ => kk d } (startE 2 ds) := by
  obtain ⟨a, b, rfl, zs, rfl, hok, hl, hz, h⟩ := h
  simp only [sSeq, sRet, sRetF, sRetN, sIf, sNext, sSet, sOwn, sOwnP, sPar, sExpr, sFldI, sBreak, sCont, sDPutD, sParFF, sParEF, sParFE, sParEFF, wIsi, wVar, wC, wOp, wUn, wB, wCons, wNil, wTup, wLst, wDct, wTru, wTruth, wNot, wAndT, wOrT, wAndV, wOrV, wNotV, wIfE, wChain, wCall, wCallP, wCallPF, wMake, wMakeE, wM, wSl, wPart, wNoPart, wMeth, wFldC, wFldS, wProp, wBor, wBorT, wAppend, wPopAt, wExtend, wDGet2, wLstRng, wFmt, wJoined, jCons, jNil, gN, gTupW, gCons', gNil', iL, iT, iS, iR1, iR2, iZp, iEn, dAdd, dSub, dMul, dMod, dFdiv, dPow, dLt, dLe, dGt, dGe, dNeg, dIs, dIsNot, rLenD, rTupOf, rLstOf, rMax2, rMin2, rAbs, rIntOf, rStrOf, rDivmod, startE, Ev.get, Ev.set, Ev.lend, Ev.noSlf, Slot.lend, Slot.noSlf, Slot.isL, Slot.isDK, Slot.isPurse, List.map, List.all, List.length_cons, List.length_nil, List.replicate, List.append, List.cons_append, List.nil_append, Nat.zero_add, Nat.reduceAdd, Nat.reduceSub, Nat.reduceLT, if_true, if_false, Bool.false_eq_true, Bool.not_true, Bool.not_false, w_check_counts]
  refine ⟨_, _, rfl, zs, rfl, hok, hl, ?_⟩
  simp only [hz, sSeq, sRet, sRetF, sRetN, sIf, sNext, sSet, sOwn, sOwnP, sPar, sExpr, sFldI, sBreak, sCont, sDPutD, sParFF, sParEF, sParFE, sParEFF, wIsi, wVar, wC, wOp, wUn, wB, wCons, wNil, wTup, wLst, wDct, wTru, wTruth, wNot, wAndT, wOrT, wAndV, wOrV, wNotV, wIfE, wChain, wCall, wCallP, wCallPF, wMake, wMakeE, wM, wSl, wPart, wNoPart, wMeth, wFldC, wFldS, wProp, wBor, wBorT, wAppend, wPopAt, wExtend, wDGet2, wLstRng, wFmt, wJoined, jCons, jNil, gN, gTupW, gCons', gNil', iL, iT, iS, iR1, iR2, iZp, iEn, dAdd, dSub, dMul, dMod, dFdiv, dPow, dLt, dLe, dGt, dGe, dNeg, dIs, dIsNot, rLenD, rTupOf, rLstOf, rMax2, rMin2, rAbs, rIntOf, rStrOf, rDivmod, startE, Ev.get, Ev.set, Ev.lend, Ev.noSlf, Slot.lend, Slot.noSlf, Slot.isL, Slot.isDK, Slot.isPurse, List.map, List.all, List.length_cons, List.length_nil, List.replicate, List.append, List.cons_append, List.nil_append, Nat.zero_add, Nat.reduceAdd, Nat.reduceSub, Nat.reduceLT, if_true, if_false, Bool.false_eq_true, Bool.not_true, Bool.not_false]
  exact h
theorem ok_ints (ns : List Int) : D.ok (tupI ns) = true := by
  show D.okL (ns.map D.int) = true
  exact okL_of fun x hx => by obtain ⟨i, _, rfl⟩ := List.mem_map.mp hx; rfl
theorem n_Plan_is_quorum {ds : List D} {kk : D → Prop} {kx : XC} (h : c_Plan_is_quorum ds kk kx) : ds.length = 4 := by
  obtain ⟨a, b, c, d, rfl, _⟩ := h; rfl
theorem p_Plan_is_quorum (ds : List D) (kk : D → Prop) (kx : XC) (h : c_Plan_is_quorum ds kk kx) : (w_Plan_is_quorum kx) { nx := fun _ => kk .non, rt := fun d _ => kk d } (startE 4 ds) := by
  obtain ⟨a, b, c, d, rfl, ls, rs, z, os, zs, cs, hp, rfl, hok, hlk, rfl, rfl, l1, l2, l3, l4, h1, h2, h⟩ := h
  unfold w_Plan_is_quorum
  refine sSeq_gen fun M hM => ?_
  simp only [sSeq, sRet, sRetF, sRetN, sIf, sNext, sSet, sOwn, sOwnP, sPar, sExpr, sFldI, sBreak, sCont, sDPutD, sParFF, sParEF, sParFE, sParEFF, wIsi, wVar, wC, wOp, wUn, wB, wCons, wNil, wTup, wLst, wDct, wTru, wTruth, wNot, wAndT, wOrT, wAndV, wOrV, wNotV, wIfE, wChain, wCall, wCallP, wCallPF, wMake, wMakeE, wM, wSl, wPart, wNoPart, wMeth, wFldC, wFldS, wProp, wBor, wBorT, wAppend, wPopAt, wExtend, wDGet2, wLstRng, wFmt, wJoined, jCons, jNil, gN, gTupW, gCons', gNil', iL, iT, iS, iR1, iR2, iZp, iEn, dAdd, dSub, dMul, dMod, dFdiv, dPow, dLt, dLe, dGt, dGe, dNeg, dIs, dIsNot, rLenD, rTupOf, rLstOf, rMax2, rMin2, rAbs, rIntOf, rStrOf, rDivmod, startE, Ev.get, Ev.set, Ev.lend, Ev.noSlf, Slot.lend, Slot.noSlf, Slot.isL, Slot.isDK, Slot.isPurse, List.map, List.all, List.length_cons, List.length_nil, List.replicate, List.append, List.cons_append, List.nil_append, Nat.zero_add, Nat.reduceAdd, Nat.reduceSub, Nat.reduceLT, if_true, if_false, Bool.false_eq_true, Bool.not_true, Bool.not_false]
  refine ⟨_, _, rfl, _, rs, z, hp, rfl, hok, by rw [hlk]; rfl, hM _ (sSeq_gen fun M1 hM1 => ?_)⟩
  simp only [sSeq, sRet, sRetF, sRetN, sIf, sNext, sSet, sOwn, sOwnP, sPar, sExpr, sFldI, sBreak, sCont, sDPutD, sParFF, sParEF, sParFE, sParEFF, wIsi, wVar, wC, wOp, wUn, wB, wCons, wNil, wTup, wLst, wDct, wTru, wTruth, wNot, wAndT, wOrT, wAndV, wOrV, wNotV, wIfE, wChain, wCall, wCallP, wCallPF, wMake, wMakeE, wM, wSl, wPart, wNoPart, wMeth, wFldC, wFldS, wProp, wBor, wBorT, wAppend, wPopAt, wExtend, wDGet2, wLstRng, wFmt, wJoined, jCons, jNil, gN, gTupW, gCons', gNil', iL, iT, iS, iR1, iR2, iZp, iEn, dAdd, dSub, dMul, dMod, dFdiv, dPow, dLt, dLe, dGt, dGe, dNeg, dIs, dIsNot, rLenD, rTupOf, rLstOf, rMax2, rMin2, rAbs, rIntOf, rStrOf, rDivmod, startE, Ev.get, Ev.set, Ev.lend, Ev.noSlf, Slot.lend, Slot.noSlf, Slot.isL, Slot.isDK, Slot.isPurse, List.map, List.all, List.length_cons, List.length_nil, List.replicate, List.append, List.cons_append, List.nil_append, Nat.zero_add, Nat.reduceAdd, Nat.reduceSub, Nat.reduceLT, if_true, if_false, Bool.false_eq_true, Bool.not_true, Bool.not_false]
  refine ⟨_, _, rfl, ls, rs, hp, ok_ints zs, l1, h1, hM1 _ (sSeq_gen fun M2 hM2 => ?_)⟩
  simp only [sSeq, sRet, sRetF, sRetN, sIf, sNext, sSet, sOwn, sOwnP, sPar, sExpr, sFldI, sBreak, sCont, sDPutD, sParFF, sParEF, sParFE, sParEFF, wIsi, wVar, wC, wOp, wUn, wB, wCons, wNil, wTup, wLst, wDct, wTru, wTruth, wNot, wAndT, wOrT, wAndV, wOrV, wNotV, wIfE, wChain, wCall, wCallP, wCallPF, wMake, wMakeE, wM, wSl, wPart, wNoPart, wMeth, wFldC, wFldS, wProp, wBor, wBorT, wAppend, wPopAt, wExtend, wDGet2, wLstRng, wFmt, wJoined, jCons, jNil, gN, gTupW, gCons', gNil', iL, iT, iS, iR1, iR2, iZp, iEn, dAdd, dSub, dMul, dMod, dFdiv, dPow, dLt, dLe, dGt, dGe, dNeg, dIs, dIsNot, rLenD, rTupOf, rLstOf, rMax2, rMin2, rAbs, rIntOf, rStrOf, rDivmod, startE, Ev.get, Ev.set, Ev.lend, Ev.noSlf, Slot.lend, Slot.noSlf, Slot.isL, Slot.isDK, Slot.isPurse, List.map, List.all, List.length_cons, List.length_nil, List.replicate, List.append, List.cons_append, List.nil_append, Nat.zero_add, Nat.reduceAdd, Nat.reduceSub, Nat.reduceLT, if_true, if_false, Bool.false_eq_true, Bool.not_true, Bool.not_false]
  refine ⟨_, _, rfl, zs, rfl, ok_ints cs, l2, h2, hM2 _ ?_⟩
  simp only [sSeq, sRet, sRetF, sRetN, sIf, sNext, sSet, sOwn, sOwnP, sPar, sExpr, sFldI, sBreak, sCont, sDPutD, sParFF, sParEF, sParFE, sParEFF, wIsi, wVar, wC, wOp, wUn, wB, wCons, wNil, wTup, wLst, wDct, wTru, wTruth, wNot, wAndT, wOrT, wAndV, wOrV, wNotV, wIfE, wChain, wCall, wCallP, wCallPF, wMake, wMakeE, wM, wSl, wPart, wNoPart, wMeth, wFldC, wFldS, wProp, wBor, wBorT, wAppend, wPopAt, wExtend, wDGet2, wLstRng, wFmt, wJoined, jCons, jNil, gN, gTupW, gCons', gNil', iL, iT, iS, iR1, iR2, iZp, iEn, dAdd, dSub, dMul, dMod, dFdiv, dPow, dLt, dLe, dGt, dGe, dNeg, dIs, dIsNot, rLenD, rTupOf, rLstOf, rMax2, rMin2, rAbs, rIntOf, rStrOf, rDivmod, startE, Ev.get, Ev.set, Ev.lend, Ev.noSlf, Slot.lend, Slot.noSlf, Slot.isL, Slot.isDK, Slot.isPurse, List.map, List.all, List.length_cons, List.length_nil, List.replicate, List.append, List.cons_append, List.nil_append, Nat.zero_add, Nat.reduceAdd, Nat.reduceSub, Nat.reduceLT, if_true, if_false, Bool.false_eq_true, Bool.not_true, Bool.not_false]
  exact ⟨_, _, _, _, rfl, _, rs, z, os, zs, cs, hp, rfl, hlk, rfl, rfl, l3, l4, h⟩
end W
set_option Elab.async false
set_option linter.all false
set_option maxRecDepth 100000
set_option maxHeartbeats 4000000
namespace W
open PySem PySem.Spec PyProof.Rows L2 Q
theorem n__law_purse {ds : List D} {kk : D → Prop} {kx : XC} (h : c__law_purse ds kk kx) : ds.length = 2 := by
  obtain ⟨a, b, rfl, _⟩ := h; rfl
theorem atI_int {ns : List Int} {i : Nat} (h : i < ns.length) : ∃ n, atI (ns.map D.int) (i : Int) = some (.int n) :=
  ⟨ns[i], atI_nat (by rw [List.getElem?_map, List.getElem?_eq_getElem h]; rfl)⟩
theorem emod_rng (x : Int) {m : Int} (h : 0 < m) : 0 ≤ x % m ∧ x % m < m := ⟨Int.emod_nonneg x (by omega), Int.emod_lt_of_pos x h⟩
theorem seed_loop {s0 s1 s3 : Slot} {kk : D → Prop} {M : Ev → Prop} : ∀ (ns : List Int) (sd : Int) (s2 : Slot), 0 ≤ sd → sd < 2147483563 → (∀ sd s2, 0 ≤ sd → sd < 2147483563 → M [s0, s1, s2, s3, .val (.int sd)]) →
    forL (gN 2) (sSet (wOp dMod (wB rIntOf (wCons (wOp dAdd (wOp dMul (wVar 4) (wC (.int 52361))) (wVar 2)) wNil)) (wC (.int 2147483399))) (gN 4)) ⟨M, fun _ _ => False, fun _ => False, fun _ => False, fun d _ => kk d⟩ (ns.map D.int) [s0, s1, s2, s3, .val (.int sd)]
  | [], sd, s2, h0, h1, hM => hM sd s2 h0 h1
  | n :: r, sd, s2, h0, h1, hM => by
    refine forL_gen fun M1 hM1 => ?_
    simp only [sSeq, sRet, sRetF, sRetN, sIf, sNext, sSet, sOwn, sOwnP, sPar, sExpr, sFldI, sBreak, sCont, sDPutD, sParFF, sParEF, sParFE, sParEFF, wIsi, wVar, wC, wOp, wUn, wB, wCons, wNil, wTup, wLst, wDct, wTru, wTruth, wNot, wAndT, wOrT, wAndV, wOrV, wNotV, wIfE, wChain, wCall, wCallP, wCallPF, wMake, wMakeE, wM, wSl, wPart, wNoPart, wMeth, wFldC, wFldS, wProp, wBor, wBorT, wAppend, wPopAt, wExtend, wDGet2, wLstRng, wFmt, wJoined, jCons, jNil, gN, gTupW, gCons', gNil', iL, iT, iS, iR1, iR2, iZp, iEn, dAdd, dSub, dMul, dMod, dFdiv, dPow, dLt, dLe, dGt, dGe, dNeg, dIs, dIsNot, rLenD, rTupOf, rLstOf, rMax2, rMin2, rAbs, rIntOf, rStrOf, rDivmod, startE, Ev.get, Ev.set, Ev.lend, Ev.noSlf, Slot.lend, Slot.noSlf, Slot.isL, Slot.isDK, Slot.isPurse, List.map, List.all, List.length_cons, List.length_nil, List.replicate, List.append, List.cons_append, List.nil_append, Nat.zero_add, Nat.reduceAdd, Nat.reduceSub, Nat.reduceLT, if_true, if_false, Bool.false_eq_true, Bool.not_true, Bool.not_false]
    have e := emod_rng (sd * 52361 + n) (m := 2147483399) (by decide)
    refine ⟨.inr ⟨by decide, by decide⟩, by decide, hM1 _ ?_⟩
    exact seed_loop r _ _ e.1 (by omega) hM
theorem p__law_purse (ds : List D) (kk : D → Prop) (h : c__law_purse ds kk no) : w__law_purse { nx := fun _ => False, rt := fun _ _ => False, rf := fun d _ => kk d } (startE 5 ds) := by
  obtain ⟨a, b, rfl, ns, i, rfl, rfl, hi, h⟩ := h
  unfold w__law_purse
  refine sSeq_gen fun M hM => ?_
  simp only [sSeq, sRet, sRetF, sRetN, sIf, sNext, sSet, sOwn, sOwnP, sPar, sExpr, sFldI, sBreak, sCont, sDPutD, sParFF, sParEF, sParFE, sParEFF, wIsi, wVar, wC, wOp, wUn, wB, wCons, wNil, wTup, wLst, wDct, wTru, wTruth, wNot, wAndT, wOrT, wAndV, wOrV, wNotV, wIfE, wChain, wCall, wCallP, wCallPF, wMake, wMakeE, wM, wSl, wPart, wNoPart, wMeth, wFldC, wFldS, wProp, wBor, wBorT, wAppend, wPopAt, wExtend, wDGet2, wLstRng, wFmt, wJoined, jCons, jNil, gN, gTupW, gCons', gNil', iL, iT, iS, iR1, iR2, iZp, iEn, dAdd, dSub, dMul, dMod, dFdiv, dPow, dLt, dLe, dGt, dGe, dNeg, dIs, dIsNot, rLenD, rTupOf, rLstOf, rMax2, rMin2, rAbs, rIntOf, rStrOf, rDivmod, startE, Ev.get, Ev.set, Ev.lend, Ev.noSlf, Slot.lend, Slot.noSlf, Slot.isL, Slot.isDK, Slot.isPurse, List.map, List.all, List.length_cons, List.length_nil, List.replicate, List.append, List.cons_append, List.nil_append, Nat.zero_add, Nat.reduceAdd, Nat.reduceSub, Nat.reduceLT, if_true, if_false, Bool.false_eq_true, Bool.not_true, Bool.not_false, lstI, List.length_map]
  by_cases q : i < ns.length
  · rw [decide_eq_true (show (i : Int) < (ns.length : Int) by omega)]
    simp only [sSeq, sRet, sRetF, sRetN, sIf, sNext, sSet, sOwn, sOwnP, sPar, sExpr, sFldI, sBreak, sCont, sDPutD, sParFF, sParEF, sParFE, sParEFF, wIsi, wVar, wC, wOp, wUn, wB, wCons, wNil, wTup, wLst, wDct, wTru, wTruth, wNot, wAndT, wOrT, wAndV, wOrV, wNotV, wIfE, wChain, wCall, wCallP, wCallPF, wMake, wMakeE, wM, wSl, wPart, wNoPart, wMeth, wFldC, wFldS, wProp, wBor, wBorT, wAppend, wPopAt, wExtend, wDGet2, wLstRng, wFmt, wJoined, jCons, jNil, gN, gTupW, gCons', gNil', iL, iT, iS, iR1, iR2, iZp, iEn, dAdd, dSub, dMul, dMod, dFdiv, dPow, dLt, dLe, dGt, dGe, dNeg, dIs, dIsNot, rLenD, rTupOf, rLstOf, rMax2, rMin2, rAbs, rIntOf, rStrOf, rDivmod, startE, Ev.get, Ev.set, Ev.lend, Ev.noSlf, Slot.lend, Slot.noSlf, Slot.isL, Slot.isDK, Slot.isPurse, List.map, List.all, List.length_cons, List.length_nil, List.replicate, List.append, List.cons_append, List.nil_append, Nat.zero_add, Nat.reduceAdd, Nat.reduceSub, Nat.reduceLT, if_true, if_false, Bool.false_eq_true, Bool.not_true, Bool.not_false, dIx]
    obtain ⟨n, en⟩ := atI_int q
    rw [en]
    simp only [sSeq, sRet, sRetF, sRetN, sIf, sNext, sSet, sOwn, sOwnP, sPar, sExpr, sFldI, sBreak, sCont, sDPutD, sParFF, sParEF, sParFE, sParEFF, wIsi, wVar, wC, wOp, wUn, wB, wCons, wNil, wTup, wLst, wDct, wTru, wTruth, wNot, wAndT, wOrT, wAndV, wOrV, wNotV, wIfE, wChain, wCall, wCallP, wCallPF, wMake, wMakeE, wM, wSl, wPart, wNoPart, wMeth, wFldC, wFldS, wProp, wBor, wBorT, wAppend, wPopAt, wExtend, wDGet2, wLstRng, wFmt, wJoined, jCons, jNil, gN, gTupW, gCons', gNil', iL, iT, iS, iR1, iR2, iZp, iEn, dAdd, dSub, dMul, dMod, dFdiv, dPow, dLt, dLe, dGt, dGe, dNeg, dIs, dIsNot, rLenD, rTupOf, rLstOf, rMax2, rMin2, rAbs, rIntOf, rStrOf, rDivmod, startE, Ev.get, Ev.set, Ev.lend, Ev.noSlf, Slot.lend, Slot.noSlf, Slot.isL, Slot.isDK, Slot.isPurse, List.map, List.all, List.length_cons, List.length_nil, List.replicate, List.append, List.cons_append, List.nil_append, Nat.zero_add, Nat.reduceAdd, Nat.reduceSub, Nat.reduceLT, if_true, if_false, Bool.false_eq_true, Bool.not_true, Bool.not_false]
    have fin : ∀ x : Int, 0 ≤ x → CMul n 40693 ∧ CMul 92821 ↑i ∧ (0 : Int) < 2147483563 ∧ 3 ≤ sizeLine ∧ kk (.lst [.int x, .int ((n * 40693 + 92821 * ↑i + 5) % 2147483563), .int 0]) := fun x hx => by
      have e := emod_rng (n * 40693 + 92821 * ↑i + 5) (m := 2147483563) (by decide)
      exact ⟨.inr ⟨by decide, by decide⟩, .inl ⟨by decide, by decide⟩, by decide, by rw [sizeLine_eq]; decide, h _ _ _ hx e.1 e.2⟩
    by_cases q1 : n < 0
    · rw [decide_eq_true q1]
      simp only [sSeq, sRet, sRetF, sRetN, sIf, sNext, sSet, sOwn, sOwnP, sPar, sExpr, sFldI, sBreak, sCont, sDPutD, sParFF, sParEF, sParFE, sParEFF, wIsi, wVar, wC, wOp, wUn, wB, wCons, wNil, wTup, wLst, wDct, wTru, wTruth, wNot, wAndT, wOrT, wAndV, wOrV, wNotV, wIfE, wChain, wCall, wCallP, wCallPF, wMake, wMakeE, wM, wSl, wPart, wNoPart, wMeth, wFldC, wFldS, wProp, wBor, wBorT, wAppend, wPopAt, wExtend, wDGet2, wLstRng, wFmt, wJoined, jCons, jNil, gN, gTupW, gCons', gNil', iL, iT, iS, iR1, iR2, iZp, iEn, dAdd, dSub, dMul, dMod, dFdiv, dPow, dLt, dLe, dGt, dGe, dNeg, dIs, dIsNot, rLenD, rTupOf, rLstOf, rMax2, rMin2, rAbs, rIntOf, rStrOf, rDivmod, startE, Ev.get, Ev.set, Ev.lend, Ev.noSlf, Slot.lend, Slot.noSlf, Slot.isL, Slot.isDK, Slot.isPurse, List.map, List.all, List.length_cons, List.length_nil, List.replicate, List.append, List.cons_append, List.nil_append, Nat.zero_add, Nat.reduceAdd, Nat.reduceSub, Nat.reduceLT, if_true, if_false, Bool.false_eq_true, Bool.not_true, Bool.not_false]
      exact fin _ (by rw [if_pos q1]; omega)
    · rw [decide_eq_false q1]
      simp only [sSeq, sRet, sRetF, sRetN, sIf, sNext, sSet, sOwn, sOwnP, sPar, sExpr, sFldI, sBreak, sCont, sDPutD, sParFF, sParEF, sParFE, sParEFF, wIsi, wVar, wC, wOp, wUn, wB, wCons, wNil, wTup, wLst, wDct, wTru, wTruth, wNot, wAndT, wOrT, wAndV, wOrV, wNotV, wIfE, wChain, wCall, wCallP, wCallPF, wMake, wMakeE, wM, wSl, wPart, wNoPart, wMeth, wFldC, wFldS, wProp, wBor, wBorT, wAppend, wPopAt, wExtend, wDGet2, wLstRng, wFmt, wJoined, jCons, jNil, gN, gTupW, gCons', gNil', iL, iT, iS, iR1, iR2, iZp, iEn, dAdd, dSub, dMul, dMod, dFdiv, dPow, dLt, dLe, dGt, dGe, dNeg, dIs, dIsNot, rLenD, rTupOf, rLstOf, rMax2, rMin2, rAbs, rIntOf, rStrOf, rDivmod, startE, Ev.get, Ev.set, Ev.lend, Ev.noSlf, Slot.lend, Slot.noSlf, Slot.isL, Slot.isDK, Slot.isPurse, List.map, List.all, List.length_cons, List.length_nil, List.replicate, List.append, List.cons_append, List.nil_append, Nat.zero_add, Nat.reduceAdd, Nat.reduceSub, Nat.reduceLT, if_true, if_false, Bool.false_eq_true, Bool.not_true, Bool.not_false]
      refine ⟨⟨by decide, by decide, by decide⟩, ?_⟩
      by_cases q2 : (10 : Int) ^ (18 : Int).toNat ≤ n
      · rw [decide_eq_true q2]
        simp only [sSeq, sRet, sRetF, sRetN, sIf, sNext, sSet, sOwn, sOwnP, sPar, sExpr, sFldI, sBreak, sCont, sDPutD, sParFF, sParEF, sParFE, sParEFF, wIsi, wVar, wC, wOp, wUn, wB, wCons, wNil, wTup, wLst, wDct, wTru, wTruth, wNot, wAndT, wOrT, wAndV, wOrV, wNotV, wIfE, wChain, wCall, wCallP, wCallPF, wMake, wMakeE, wM, wSl, wPart, wNoPart, wMeth, wFldC, wFldS, wProp, wBor, wBorT, wAppend, wPopAt, wExtend, wDGet2, wLstRng, wFmt, wJoined, jCons, jNil, gN, gTupW, gCons', gNil', iL, iT, iS, iR1, iR2, iZp, iEn, dAdd, dSub, dMul, dMod, dFdiv, dPow, dLt, dLe, dGt, dGe, dNeg, dIs, dIsNot, rLenD, rTupOf, rLstOf, rMax2, rMin2, rAbs, rIntOf, rStrOf, rDivmod, startE, Ev.get, Ev.set, Ev.lend, Ev.noSlf, Slot.lend, Slot.noSlf, Slot.isL, Slot.isDK, Slot.isPurse, List.map, List.all, List.length_cons, List.length_nil, List.replicate, List.append, List.cons_append, List.nil_append, Nat.zero_add, Nat.reduceAdd, Nat.reduceSub, Nat.reduceLT, if_true, if_false, Bool.false_eq_true, Bool.not_true, Bool.not_false]
        exact fin _ (by rw [if_neg q1]; omega)
      · rw [decide_eq_false q2]
        simp only [sSeq, sRet, sRetF, sRetN, sIf, sNext, sSet, sOwn, sOwnP, sPar, sExpr, sFldI, sBreak, sCont, sDPutD, sParFF, sParEF, sParFE, sParEFF, wIsi, wVar, wC, wOp, wUn, wB, wCons, wNil, wTup, wLst, wDct, wTru, wTruth, wNot, wAndT, wOrT, wAndV, wOrV, wNotV, wIfE, wChain, wCall, wCallP, wCallPF, wMake, wMakeE, wM, wSl, wPart, wNoPart, wMeth, wFldC, wFldS, wProp, wBor, wBorT, wAppend, wPopAt, wExtend, wDGet2, wLstRng, wFmt, wJoined, jCons, jNil, gN, gTupW, gCons', gNil', iL, iT, iS, iR1, iR2, iZp, iEn, dAdd, dSub, dMul, dMod, dFdiv, dPow, dLt, dLe, dGt, dGe, dNeg, dIs, dIsNot, rLenD, rTupOf, rLstOf, rMax2, rMin2, rAbs, rIntOf, rStrOf, rDivmod, startE, Ev.get, Ev.set, Ev.lend, Ev.noSlf, Slot.lend, Slot.noSlf, Slot.isL, Slot.isDK, Slot.isPurse, List.map, List.all, List.length_cons, List.length_nil, List.replicate, List.append, List.cons_append, List.nil_append, Nat.zero_add, Nat.reduceAdd, Nat.reduceSub, Nat.reduceLT, if_true, if_false, Bool.false_eq_true, Bool.not_true, Bool.not_false]
        exact fin _ (by omega)
  · rw [decide_eq_false (show ¬ (i : Int) < (ns.length : Int) by omega)]
    simp only [sSeq, sRet, sRetF, sRetN, sIf, sNext, sSet, sOwn, sOwnP, sPar, sExpr, sFldI, sBreak, sCont, sDPutD, sParFF, sParEF, sParFE, sParEFF, wIsi, wVar, wC, wOp, wUn, wB, wCons, wNil, wTup, wLst, wDct, wTru, wTruth, wNot, wAndT, wOrT, wAndV, wOrV, wNotV, wIfE, wChain, wCall, wCallP, wCallPF, wMake, wMakeE, wM, wSl, wPart, wNoPart, wMeth, wFldC, wFldS, wProp, wBor, wBorT, wAppend, wPopAt, wExtend, wDGet2, wLstRng, wFmt, wJoined, jCons, jNil, gN, gTupW, gCons', gNil', iL, iT, iS, iR1, iR2, iZp, iEn, dAdd, dSub, dMul, dMod, dFdiv, dPow, dLt, dLe, dGt, dGe, dNeg, dIs, dIsNot, rLenD, rTupOf, rLstOf, rMax2, rMin2, rAbs, rIntOf, rStrOf, rDivmod, startE, Ev.get, Ev.set, Ev.lend, Ev.noSlf, Slot.lend, Slot.noSlf, Slot.isL, Slot.isDK, Slot.isPurse, List.map, List.all, List.length_cons, List.length_nil, List.replicate, List.append, List.cons_append, List.nil_append, Nat.zero_add, Nat.reduceAdd, Nat.reduceSub, Nat.reduceLT, if_true, if_false, Bool.false_eq_true, Bool.not_true, Bool.not_false]
    refine hM _ (sSeq_gen fun M1 hM1 => ?_)
    simp only [sSeq, sRet, sRetF, sRetN, sIf, sNext, sSet, sOwn, sOwnP, sPar, sExpr, sFldI, sBreak, sCont, sDPutD, sParFF, sParEF, sParFE, sParEFF, wIsi, wVar, wC, wOp, wUn, wB, wCons, wNil, wTup, wLst, wDct, wTru, wTruth, wNot, wAndT, wOrT, wAndV, wOrV, wNotV, wIfE, wChain, wCall, wCallP, wCallPF, wMake, wMakeE, wM, wSl, wPart, wNoPart, wMeth, wFldC, wFldS, wProp, wBor, wBorT, wAppend, wPopAt, wExtend, wDGet2, wLstRng, wFmt, wJoined, jCons, jNil, gN, gTupW, gCons', gNil', iL, iT, iS, iR1, iR2, iZp, iEn, dAdd, dSub, dMul, dMod, dFdiv, dPow, dLt, dLe, dGt, dGe, dNeg, dIs, dIsNot, rLenD, rTupOf, rLstOf, rMax2, rMin2, rAbs, rIntOf, rStrOf, rDivmod, startE, Ev.get, Ev.set, Ev.lend, Ev.noSlf, Slot.lend, Slot.noSlf, Slot.isL, Slot.isDK, Slot.isPurse, List.map, List.all, List.length_cons, List.length_nil, List.replicate, List.append, List.cons_append, List.nil_append, Nat.zero_add, Nat.reduceAdd, Nat.reduceSub, Nat.reduceLT, if_true, if_false, Bool.false_eq_true, Bool.not_true, Bool.not_false]
    refine ⟨.inl ⟨by decide, by decide⟩, hM1 _ (sSeq_gen fun M2 hM2 => ?_)⟩
    simp only [sSeq, sRet, sRetF, sRetN, sIf, sNext, sSet, sOwn, sOwnP, sPar, sExpr, sFldI, sBreak, sCont, sDPutD, sParFF, sParEF, sParFE, sParEFF, wIsi, wVar, wC, wOp, wUn, wB, wCons, wNil, wTup, wLst, wDct, wTru, wTruth, wNot, wAndT, wOrT, wAndV, wOrV, wNotV, wIfE, wChain, wCall, wCallP, wCallPF, wMake, wMakeE, wM, wSl, wPart, wNoPart, wMeth, wFldC, wFldS, wProp, wBor, wBorT, wAppend, wPopAt, wExtend, wDGet2, wLstRng, wFmt, wJoined, jCons, jNil, gN, gTupW, gCons', gNil', iL, iT, iS, iR1, iR2, iZp, iEn, dAdd, dSub, dMul, dMod, dFdiv, dPow, dLt, dLe, dGt, dGe, dNeg, dIs, dIsNot, rLenD, rTupOf, rLstOf, rMax2, rMin2, rAbs, rIntOf, rStrOf, rDivmod, startE, Ev.get, Ev.set, Ev.lend, Ev.noSlf, Slot.lend, Slot.noSlf, Slot.isL, Slot.isDK, Slot.isPurse, List.map, List.all, List.length_cons, List.length_nil, List.replicate, List.append, List.cons_append, List.nil_append, Nat.zero_add, Nat.reduceAdd, Nat.reduceSub, Nat.reduceLT, if_true, if_false, Bool.false_eq_true, Bool.not_true, Bool.not_false, sFor, dSl]
    have e2 : ∃ ms : List Int, Q.cutD (ns.map D.int) none (some 3) = ms.map D.int := by
      unfold Q.cutD
      rw [← List.map_drop, ← List.map_take]
      exact ⟨_, rfl⟩
    obtain ⟨ms, e2⟩ := e2
    rw [e2]
    refine seed_loop ms _ _ (by omega) (by omega) fun sd s2 h0 h1 => hM2 _ ?_
    simp only [sSeq, sRet, sRetF, sRetN, sIf, sNext, sSet, sOwn, sOwnP, sPar, sExpr, sFldI, sBreak, sCont, sDPutD, sParFF, sParEF, sParFE, sParEFF, wIsi, wVar, wC, wOp, wUn, wB, wCons, wNil, wTup, wLst, wDct, wTru, wTruth, wNot, wAndT, wOrT, wAndV, wOrV, wNotV, wIfE, wChain, wCall, wCallP, wCallPF, wMake, wMakeE, wM, wSl, wPart, wNoPart, wMeth, wFldC, wFldS, wProp, wBor, wBorT, wAppend, wPopAt, wExtend, wDGet2, wLstRng, wFmt, wJoined, jCons, jNil, gN, gTupW, gCons', gNil', iL, iT, iS, iR1, iR2, iZp, iEn, dAdd, dSub, dMul, dMod, dFdiv, dPow, dLt, dLe, dGt, dGe, dNeg, dIs, dIsNot, rLenD, rTupOf, rLstOf, rMax2, rMin2, rAbs, rIntOf, rStrOf, rDivmod, startE, Ev.get, Ev.set, Ev.lend, Ev.noSlf, Slot.lend, Slot.noSlf, Slot.isL, Slot.isDK, Slot.isPurse, List.map, List.all, List.length_cons, List.length_nil, List.replicate, List.append, List.cons_append, List.nil_append, Nat.zero_add, Nat.reduceAdd, Nat.reduceSub, Nat.reduceLT, if_true, if_false, Bool.false_eq_true, Bool.not_true, Bool.not_false]
    exact ⟨by rw [sizeLine_eq]; decide, h _ _ _ (by decide) h0 h1⟩
theorem n__law_draw {ds : List D} {kk : D → Prop} {kx : XC} (h : c__law_draw ds kk kx) : ds.length + 1 = 2 := by
  obtain ⟨a, rfl, _⟩ := h; rfl
theorem p__law_draw (ds : List D) (kk : D → Prop) (h : c__law_draw ds kk no) : w__law_draw { nx := fun ρ => ρ.get 0 = .purse ∧ kk .non, rt := fun d ρ => ρ.get 0 = .purse ∧ kk d } (.purse :: startE 4 ds) := by
  obtain ⟨a, rfl, m, rfl, m0, m1, h⟩ := h
  unfold w__law_draw
  refine sSeq_gen fun M hM => ?_
  simp only [sSeq, sRet, sRetF, sRetN, sIf, sNext, sSet, sOwn, sOwnP, sPar, sExpr, sFldI, sBreak, sCont, sDPutD, sParFF, sParEF, sParFE, sParEFF, wIsi, wVar, wC, wOp, wUn, wB, wCons, wNil, wTup, wLst, wDct, wTru, wTruth, wNot, wAndT, wOrT, wAndV, wOrV, wNotV, wIfE, wChain, wCall, wCallP, wCallPF, wMake, wMakeE, wM, wSl, wPart, wNoPart, wMeth, wFldC, wFldS, wProp, wBor, wBorT, wAppend, wPopAt, wExtend, wDGet2, wLstRng, wFmt, wJoined, jCons, jNil, gN, gTupW, gCons', gNil', iL, iT, iS, iR1, iR2, iZp, iEn, dAdd, dSub, dMul, dMod, dFdiv, dPow, dLt, dLe, dGt, dGe, dNeg, dIs, dIsNot, rLenD, rTupOf, rLstOf, rMax2, rMin2, rAbs, rIntOf, rStrOf, rDivmod, startE, Ev.get, Ev.set, Ev.lend, Ev.noSlf, Slot.lend, Slot.noSlf, Slot.isL, Slot.isDK, Slot.isPurse, List.map, List.all, List.length_cons, List.length_nil, List.replicate, List.append, List.cons_append, List.nil_append, Nat.zero_add, Nat.reduceAdd, Nat.reduceSub, Nat.reduceLT, if_true, if_false, Bool.false_eq_true, Bool.not_true, Bool.not_false, wPix, gPix, purseGet, purseFit]
  refine ⟨trivial, fun a b c _ _ _ => ⟨trivial, trivial, hM _ (sSeq_gen fun M1 hM1 => ?_)⟩⟩
  simp only [sSeq, sRet, sRetF, sRetN, sIf, sNext, sSet, sOwn, sOwnP, sPar, sExpr, sFldI, sBreak, sCont, sDPutD, sParFF, sParEF, sParFE, sParEFF, wIsi, wVar, wC, wOp, wUn, wB, wCons, wNil, wTup, wLst, wDct, wTru, wTruth, wNot, wAndT, wOrT, wAndV, wOrV, wNotV, wIfE, wChain, wCall, wCallP, wCallPF, wMake, wMakeE, wM, wSl, wPart, wNoPart, wMeth, wFldC, wFldS, wProp, wBor, wBorT, wAppend, wPopAt, wExtend, wDGet2, wLstRng, wFmt, wJoined, jCons, jNil, gN, gTupW, gCons', gNil', iL, iT, iS, iR1, iR2, iZp, iEn, dAdd, dSub, dMul, dMod, dFdiv, dPow, dLt, dLe, dGt, dGe, dNeg, dIs, dIsNot, rLenD, rTupOf, rLstOf, rMax2, rMin2, rAbs, rIntOf, rStrOf, rDivmod, startE, Ev.get, Ev.set, Ev.lend, Ev.noSlf, Slot.lend, Slot.noSlf, Slot.isL, Slot.isDK, Slot.isPurse, List.map, List.all, List.length_cons, List.length_nil, List.replicate, List.append, List.cons_append, List.nil_append, Nat.zero_add, Nat.reduceAdd, Nat.reduceSub, Nat.reduceLT, if_true, if_false, Bool.false_eq_true, Bool.not_true, Bool.not_false, wPix, gPix, purseGet, purseFit]
  refine ⟨trivial, fun a b c _ b0 b1 => hM1 _ (sSeq_gen fun M2 hM2 => ?_)⟩
  simp only [sSeq, sRet, sRetF, sRetN, sIf, sNext, sSet, sOwn, sOwnP, sPar, sExpr, sFldI, sBreak, sCont, sDPutD, sParFF, sParEF, sParFE, sParEFF, wIsi, wVar, wC, wOp, wUn, wB, wCons, wNil, wTup, wLst, wDct, wTru, wTruth, wNot, wAndT, wOrT, wAndV, wOrV, wNotV, wIfE, wChain, wCall, wCallP, wCallPF, wMake, wMakeE, wM, wSl, wPart, wNoPart, wMeth, wFldC, wFldS, wProp, wBor, wBorT, wAppend, wPopAt, wExtend, wDGet2, wLstRng, wFmt, wJoined, jCons, jNil, gN, gTupW, gCons', gNil', iL, iT, iS, iR1, iR2, iZp, iEn, dAdd, dSub, dMul, dMod, dFdiv, dPow, dLt, dLe, dGt, dGe, dNeg, dIs, dIsNot, rLenD, rTupOf, rLstOf, rMax2, rMin2, rAbs, rIntOf, rStrOf, rDivmod, startE, Ev.get, Ev.set, Ev.lend, Ev.noSlf, Slot.lend, Slot.noSlf, Slot.isL, Slot.isDK, Slot.isPurse, List.map, List.all, List.length_cons, List.length_nil, List.replicate, List.append, List.cons_append, List.nil_append, Nat.zero_add, Nat.reduceAdd, Nat.reduceSub, Nat.reduceLT, if_true, if_false, Bool.false_eq_true, Bool.not_true, Bool.not_false, wPix, gPix, purseGet, purseFit]
  refine ⟨by decide, .inl ⟨by omega, by omega⟩, hM2 _ (sSeq_gen fun M3 hM3 => ?_)⟩
  simp only [sSeq, sRet, sRetF, sRetN, sIf, sNext, sSet, sOwn, sOwnP, sPar, sExpr, sFldI, sBreak, sCont, sDPutD, sParFF, sParEF, sParFE, sParEFF, wIsi, wVar, wC, wOp, wUn, wB, wCons, wNil, wTup, wLst, wDct, wTru, wTruth, wNot, wAndT, wOrT, wAndV, wOrV, wNotV, wIfE, wChain, wCall, wCallP, wCallPF, wMake, wMakeE, wM, wSl, wPart, wNoPart, wMeth, wFldC, wFldS, wProp, wBor, wBorT, wAppend, wPopAt, wExtend, wDGet2, wLstRng, wFmt, wJoined, jCons, jNil, gN, gTupW, gCons', gNil', iL, iT, iS, iR1, iR2, iZp, iEn, dAdd, dSub, dMul, dMod, dFdiv, dPow, dLt, dLe, dGt, dGe, dNeg, dIs, dIsNot, rLenD, rTupOf, rLstOf, rMax2, rMin2, rAbs, rIntOf, rStrOf, rDivmod, startE, Ev.get, Ev.set, Ev.lend, Ev.noSlf, Slot.lend, Slot.noSlf, Slot.isL, Slot.isDK, Slot.isPurse, List.map, List.all, List.length_cons, List.length_nil, List.replicate, List.append, List.cons_append, List.nil_append, Nat.zero_add, Nat.reduceAdd, Nat.reduceSub, Nat.reduceLT, if_true, if_false, Bool.false_eq_true, Bool.not_true, Bool.not_false, wPix, gPix, purseGet, purseFit]
  refine ⟨trivial, fun a2 b2 c2 _ _ _ => ⟨.inl ⟨by decide, by decide⟩, by decide, trivial, emod_rng _ (by decide), hM3 _ (sSeq_gen fun M4 hM4 => ?_)⟩⟩
  simp only [sSeq, sRet, sRetF, sRetN, sIf, sNext, sSet, sOwn, sOwnP, sPar, sExpr, sFldI, sBreak, sCont, sDPutD, sParFF, sParEF, sParFE, sParEFF, wIsi, wVar, wC, wOp, wUn, wB, wCons, wNil, wTup, wLst, wDct, wTru, wTruth, wNot, wAndT, wOrT, wAndV, wOrV, wNotV, wIfE, wChain, wCall, wCallP, wCallPF, wMake, wMakeE, wM, wSl, wPart, wNoPart, wMeth, wFldC, wFldS, wProp, wBor, wBorT, wAppend, wPopAt, wExtend, wDGet2, wLstRng, wFmt, wJoined, jCons, jNil, gN, gTupW, gCons', gNil', iL, iT, iS, iR1, iR2, iZp, iEn, dAdd, dSub, dMul, dMod, dFdiv, dPow, dLt, dLe, dGt, dGe, dNeg, dIs, dIsNot, rLenD, rTupOf, rLstOf, rMax2, rMin2, rAbs, rIntOf, rStrOf, rDivmod, startE, Ev.get, Ev.set, Ev.lend, Ev.noSlf, Slot.lend, Slot.noSlf, Slot.isL, Slot.isDK, Slot.isPurse, List.map, List.all, List.length_cons, List.length_nil, List.replicate, List.append, List.cons_append, List.nil_append, Nat.zero_add, Nat.reduceAdd, Nat.reduceSub, Nat.reduceLT, if_true, if_false, Bool.false_eq_true, Bool.not_true, Bool.not_false, wPix, gPix, purseGet, purseFit]
  refine ⟨trivial, fun a3 b3 c3 a0 _ _ => ?_⟩
  by_cases q : 0 < a3
  · rw [decide_eq_true q]
    simp only [sSeq, sRet, sRetF, sRetN, sIf, sNext, sSet, sOwn, sOwnP, sPar, sExpr, sFldI, sBreak, sCont, sDPutD, sParFF, sParEF, sParFE, sParEFF, wIsi, wVar, wC, wOp, wUn, wB, wCons, wNil, wTup, wLst, wDct, wTru, wTruth, wNot, wAndT, wOrT, wAndV, wOrV, wNotV, wIfE, wChain, wCall, wCallP, wCallPF, wMake, wMakeE, wM, wSl, wPart, wNoPart, wMeth, wFldC, wFldS, wProp, wBor, wBorT, wAppend, wPopAt, wExtend, wDGet2, wLstRng, wFmt, wJoined, jCons, jNil, gN, gTupW, gCons', gNil', iL, iT, iS, iR1, iR2, iZp, iEn, dAdd, dSub, dMul, dMod, dFdiv, dPow, dLt, dLe, dGt, dGe, dNeg, dIs, dIsNot, rLenD, rTupOf, rLstOf, rMax2, rMin2, rAbs, rIntOf, rStrOf, rDivmod, startE, Ev.get, Ev.set, Ev.lend, Ev.noSlf, Slot.lend, Slot.noSlf, Slot.isL, Slot.isDK, Slot.isPurse, List.map, List.all, List.length_cons, List.length_nil, List.replicate, List.append, List.cons_append, List.nil_append, Nat.zero_add, Nat.reduceAdd, Nat.reduceSub, Nat.reduceLT, if_true, if_false, Bool.false_eq_true, Bool.not_true, Bool.not_false]
    refine ⟨trivial, fun a4 b4 c4 a5 _ _ => ⟨⟨m0, m1⟩, trivial, trivial, ?_, trivial, ?_⟩⟩
    · exact Int.ediv_nonneg a5 (by omega)
    · have e := emod_rng a4 m0
      exact ⟨trivial, h _ e.1 e.2⟩
  · rw [decide_eq_false q]
    simp only [sSeq, sRet, sRetF, sRetN, sIf, sNext, sSet, sOwn, sOwnP, sPar, sExpr, sFldI, sBreak, sCont, sDPutD, sParFF, sParEF, sParFE, sParEFF, wIsi, wVar, wC, wOp, wUn, wB, wCons, wNil, wTup, wLst, wDct, wTru, wTruth, wNot, wAndT, wOrT, wAndV, wOrV, wNotV, wIfE, wChain, wCall, wCallP, wCallPF, wMake, wMakeE, wM, wSl, wPart, wNoPart, wMeth, wFldC, wFldS, wProp, wBor, wBorT, wAppend, wPopAt, wExtend, wDGet2, wLstRng, wFmt, wJoined, jCons, jNil, gN, gTupW, gCons', gNil', iL, iT, iS, iR1, iR2, iZp, iEn, dAdd, dSub, dMul, dMod, dFdiv, dPow, dLt, dLe, dGt, dGe, dNeg, dIs, dIsNot, rLenD, rTupOf, rLstOf, rMax2, rMin2, rAbs, rIntOf, rStrOf, rDivmod, startE, Ev.get, Ev.set, Ev.lend, Ev.noSlf, Slot.lend, Slot.noSlf, Slot.isL, Slot.isDK, Slot.isPurse, List.map, List.all, List.length_cons, List.length_nil, List.replicate, List.append, List.cons_append, List.nil_append, Nat.zero_add, Nat.reduceAdd, Nat.reduceSub, Nat.reduceLT, if_true, if_false, Bool.false_eq_true, Bool.not_true, Bool.not_false]
    refine hM4 _ ?_
    simp only [sSeq, sRet, sRetF, sRetN, sIf, sNext, sSet, sOwn, sOwnP, sPar, sExpr, sFldI, sBreak, sCont, sDPutD, sParFF, sParEF, sParFE, sParEFF, wIsi, wVar, wC, wOp, wUn, wB, wCons, wNil, wTup, wLst, wDct, wTru, wTruth, wNot, wAndT, wOrT, wAndV, wOrV, wNotV, wIfE, wChain, wCall, wCallP, wCallPF, wMake, wMakeE, wM, wSl, wPart, wNoPart, wMeth, wFldC, wFldS, wProp, wBor, wBorT, wAppend, wPopAt, wExtend, wDGet2, wLstRng, wFmt, wJoined, jCons, jNil, gN, gTupW, gCons', gNil', iL, iT, iS, iR1, iR2, iZp, iEn, dAdd, dSub, dMul, dMod, dFdiv, dPow, dLt, dLe, dGt, dGe, dNeg, dIs, dIsNot, rLenD, rTupOf, rLstOf, rMax2, rMin2, rAbs, rIntOf, rStrOf, rDivmod, startE, Ev.get, Ev.set, Ev.lend, Ev.noSlf, Slot.lend, Slot.noSlf, Slot.isL, Slot.isDK, Slot.isPurse, List.map, List.all, List.length_cons, List.length_nil, List.replicate, List.append, List.cons_append, List.nil_append, Nat.zero_add, Nat.reduceAdd, Nat.reduceSub, Nat.reduceLT, if_true, if_false, Bool.false_eq_true, Bool.not_true, Bool.not_false, wPix, gPix, purseGet, purseFit]
    refine ⟨trivial, fun a b c _ _ _ => ⟨⟨by decide, by decide⟩, m0, trivial, ?_⟩⟩
    have e := emod_rng (b / 83) m0
    exact h _ e.1 e.2
theorem n__law_pick {ds : List D} {kk : D → Prop} {kx : XC} (h : c__law_pick ds kk kx) : ds.length + 1 = 2 := by
  obtain ⟨a, rfl, _⟩ := h; rfl
theorem p__law_pick (ds : List D) (kk : D → Prop) (h : c__law_pick ds kk no) : w__law_pick { nx := fun ρ => ρ.get 0 = .purse ∧ kk .non, rt := fun d ρ => ρ.get 0 = .purse ∧ kk d } (.purse :: startE 1 ds) := by
  obtain ⟨a, rfl, ds, rfl, hne, hl, h⟩ := h
  simp only [sSeq, sRet, sRetF, sRetN, sIf, sNext, sSet, sOwn, sOwnP, sPar, sExpr, sFldI, sBreak, sCont, sDPutD, sParFF, sParEF, sParFE, sParEFF, wIsi, wVar, wC, wOp, wUn, wB, wCons, wNil, wTup, wLst, wDct, wTru, wTruth, wNot, wAndT, wOrT, wAndV, wOrV, wNotV, wIfE, wChain, wCall, wCallP, wCallPF, wMake, wMakeE, wM, wSl, wPart, wNoPart, wMeth, wFldC, wFldS, wProp, wBor, wBorT, wAppend, wPopAt, wExtend, wDGet2, wLstRng, wFmt, wJoined, jCons, jNil, gN, gTupW, gCons', gNil', iL, iT, iS, iR1, iR2, iZp, iEn, dAdd, dSub, dMul, dMod, dFdiv, dPow, dLt, dLe, dGt, dGe, dNeg, dIs, dIsNot, rLenD, rTupOf, rLstOf, rMax2, rMin2, rAbs, rIntOf, rStrOf, rDivmod, startE, Ev.get, Ev.set, Ev.lend, Ev.noSlf, Slot.lend, Slot.noSlf, Slot.isL, Slot.isDK, Slot.isPurse, List.map, List.all, List.length_cons, List.length_nil, List.replicate, List.append, List.cons_append, List.nil_append, Nat.zero_add, Nat.reduceAdd, Nat.reduceSub, Nat.reduceLT, if_true, if_false, Bool.false_eq_true, Bool.not_true, Bool.not_false, w__law_pick]
  have hp : 0 < ds.length := List.length_pos_iff.mpr hne
  refine ⟨trivial, trivial, _, rfl, _, rfl, by omega, by omega, fun r h0 h1 => ?_⟩
  have hr : r.toNat < ds.length := by omega
  have e : atI ds r = some ds[r.toNat] := by
    have := atI_nat (xs := ds) (j := r.toNat) (List.getElem?_eq_getElem hr)
    rwa [Int.toNat_of_nonneg h0] at this
  simp only [dIx, e]
  exact ⟨trivial, h _ (List.getElem_mem hr)⟩
end W
set_option Elab.async false
set_option linter.all false
set_option maxRecDepth 100000
set_option maxHeartbeats 4000000
namespace W
open PySem PySem.Spec PyProof.Rows L2 Q
theorem n__law_label {ds : List D} {kk : D → Prop} {kx : XC} (h : c__law_label ds kk kx) : ds.length + 1 = 1 := by
  obtain ⟨rfl, _⟩ := h; rfl
/-- letters and digits, a letter ahead -/
def gd (z : Str) : Prop := (∃ c r, z.cps.toList = c :: r ∧ inLet c = true) ∧ ∀ c ∈ z.cps.toList, (inLet c || inDig c) = true
theorem labB_of {z : Str} (h : gd z) (h8 : z.length ≤ 8) : labB z = true := by
  obtain ⟨⟨c, r, e, hc⟩, ha⟩ := h
  have hl := len_tl z
  unfold labB
  rw [decide_eq_true h8, decide_eq_true (show 1 ≤ z.length by rw [e] at hl; simp at hl; omega), List.all_eq_true.mpr ha, e]
  simp [hc]
theorem labB_gd {z : Str} (h : labB z = true) : gd z ∧ z.length ≤ 8 ∧ 1 ≤ z.length := by
  unfold labB at h
  simp only [Bool.and_eq_true, decide_eq_true_eq] at h
  obtain ⟨⟨⟨h1, h2⟩, h3⟩, h4⟩ := h
  refine ⟨⟨?_, List.all_eq_true.mp h4⟩, h2, h1⟩
  cases e : z.cps.toList with
  | nil => rw [e] at h3; cases h3
  | cons c r => rw [e] at h3; exact ⟨c, r, rfl, h3⟩
theorem gd_app {z y : Str} (h : gd z) (hy : ∀ c ∈ y.cps.toList, (inLet c || inDig c) = true) : gd (z ++ y) := by
  obtain ⟨⟨c, r, e, hc⟩, ha⟩ := h
  have et : (z ++ y).cps.toList = z.cps.toList ++ y.cps.toList := TL.tl_append z y
  refine ⟨⟨c, r ++ y.cps.toList, by rw [et, e]; rfl, hc⟩, fun x hx => ?_⟩
  rw [et] at hx
  rcases List.mem_append.mp hx with hx | hx
  · exact ha x hx
  · exact hy x hx
theorem len_app (z y : Str) : (z ++ y).length = z.length + y.length := by
  rw [← len_tl, ← len_tl, ← len_tl, show (z ++ y).cps.toList = z.cps.toList ++ y.cps.toList from TL.tl_append z y, List.length_append]
def LD : Str := (Str.ofString "abcdefghijklmnopqrstuvwxyz") ++ (Str.ofString "0123456789")
theorem LD_list : LD.cps.toList = LET.cps.toList ++ DIG.cps.toList := TL.tl_append _ _
theorem LD_len : LD.cps.toList.length = 36 := by decide +kernel
theorem LET_len : LET.cps.toList.length = 26 := by decide +kernel
theorem at_rng {l : List Nat} {r : Int} (h0 : 0 ≤ r) (h1 : r < l.length) : ∃ c, atI l r = some c ∧ c ∈ l := by
  have hr : r.toNat < l.length := by omega
  have := atI_nat (xs := l) (j := r.toNat) (List.getElem?_eq_getElem hr)
  rw [Int.toNat_of_nonneg h0] at this
  exact ⟨_, this, List.getElem_mem hr⟩
theorem label_loop {kk : D → Prop} {M : Ev → Prop} {rt : D → Ev → Prop} {rf : D → Ev → Prop} : ∀ (ds : List D) (z : Str) (s3 : Slot), gd z → z.length + ds.length ≤ 8 → (∀ z s3, gd z → z.length ≤ 8 → M [.purse, .val (.str LET), .val (.str z), s3]) →
    forL (gN 3) (sSet (wOp dAdd (wVar 2) (wOp dIx (wOp dAdd (wVar 1) (wC (.str "0123456789"))) (wCallP 0 c__law_draw (wCons (wC (.int 36)) wNil)))) (gN 2)) ⟨M, rt, fun _ => False, fun _ => False, rf⟩ ds [.purse, .val (.str LET), .val (.str z), s3]
  | [], z, s3, hg, hl, hM => hM z s3 hg (by simpa using hl)
  | d :: r, z, s3, hg, hl, hM => by
    refine forL_gen fun M1 hM1 => ?_
    simp only [List.length_cons] at hl
    simp only [sSeq, sRet, sRetF, sRetN, sIf, sNext, sSet, sOwn, sOwnP, sPar, sExpr, sFldI, sBreak, sCont, sDPutD, sParFF, sParEF, sParFE, sParEFF, wIsi, wVar, wC, wOp, wUn, wB, wCons, wNil, wTup, wLst, wDct, wTru, wTruth, wNot, wAndT, wOrT, wAndV, wOrV, wNotV, wIfE, wChain, wCall, wCallP, wCallPF, wMake, wMakeE, wM, wSl, wPart, wNoPart, wMeth, wFldC, wFldS, wProp, wBor, wBorT, wAppend, wPopAt, wExtend, wDGet2, wLstRng, wFmt, wJoined, jCons, jNil, gN, gTupW, gCons', gNil', iL, iT, iS, iR1, iR2, iZp, iEn, dAdd, dSub, dMul, dMod, dFdiv, dPow, dLt, dLe, dGt, dGe, dNeg, dIs, dIsNot, rLenD, rTupOf, rLstOf, rMax2, rMin2, rAbs, rIntOf, rStrOf, rDivmod, startE, Ev.get, Ev.set, Ev.lend, Ev.noSlf, Slot.lend, Slot.noSlf, Slot.isL, Slot.isDK, Slot.isPurse, List.map, List.all, List.length_cons, List.length_nil, List.replicate, List.append, List.cons_append, List.nil_append, Nat.zero_add, Nat.reduceAdd, Nat.reduceSub, Nat.reduceLT, if_true, if_false, Bool.false_eq_true, Bool.not_true, Bool.not_false]
    have big : (36 : Nat) ≤ sizeLine := by rw [sizeLine_eq]; decide
    refine ⟨by decide +kernel, trivial, trivial, _, rfl, 36, rfl, by decide, by decide, fun q h0 h1 => ?_⟩
    obtain ⟨c, e, hc⟩ := at_rng (l := LD.cps.toList) h0 (by rw [LD_len]; omega)
    have eLD : LET ++ Str.ofString "0123456789" = LD := rfl
    simp only [eLD, dIx, e]
    have hcc : (inLet c || inDig c) = true := by
      rw [LD_list] at hc
      rcases List.mem_append.mp hc with hc | hc
      · have : inLet c = true := decide_eq_true hc
        rw [this]; rfl
      · have : inDig c = true := decide_eq_true hc
        rw [this]; simp
    have l1 : (⟨#[c]⟩ : Str).length = 1 := rfl
    refine ⟨by decide +kernel, by rw [l1]; omega, hM1 _ ?_⟩
    refine label_loop (kk := kk) r (z ++ ⟨#[c]⟩) (.val d) (gd_app hg fun x hx => ?_) (by rw [len_app, l1]; omega) hM
    have : x = c := by simpa using hx
    rw [this]; exact hcc
theorem LETeq : Str.ofString "abcdefghijklmnopqrstuvwxyz" = LET := rfl
theorem p__law_label (ds : List D) (kk : D → Prop) (h : c__law_label ds kk no) : w__law_label { nx := fun ρ => ρ.get 0 = .purse ∧ kk .non, rt := fun d ρ => ρ.get 0 = .purse ∧ kk d } (.purse :: startE 3 ds) := by
  obtain ⟨rfl, h⟩ := h
  unfold w__law_label
  refine sSeq_gen fun M hM => ?_
  simp only [sSeq, sRet, sRetF, sRetN, sIf, sNext, sSet, sOwn, sOwnP, sPar, sExpr, sFldI, sBreak, sCont, sDPutD, sParFF, sParEF, sParFE, sParEFF, wIsi, wVar, wC, wOp, wUn, wB, wCons, wNil, wTup, wLst, wDct, wTru, wTruth, wNot, wAndT, wOrT, wAndV, wOrV, wNotV, wIfE, wChain, wCall, wCallP, wCallPF, wMake, wMakeE, wM, wSl, wPart, wNoPart, wMeth, wFldC, wFldS, wProp, wBor, wBorT, wAppend, wPopAt, wExtend, wDGet2, wLstRng, wFmt, wJoined, jCons, jNil, gN, gTupW, gCons', gNil', iL, iT, iS, iR1, iR2, iZp, iEn, dAdd, dSub, dMul, dMod, dFdiv, dPow, dLt, dLe, dGt, dGe, dNeg, dIs, dIsNot, rLenD, rTupOf, rLstOf, rMax2, rMin2, rAbs, rIntOf, rStrOf, rDivmod, startE, Ev.get, Ev.set, Ev.lend, Ev.noSlf, Slot.lend, Slot.noSlf, Slot.isL, Slot.isDK, Slot.isPurse, List.map, List.all, List.length_cons, List.length_nil, List.replicate, List.append, List.cons_append, List.nil_append, Nat.zero_add, Nat.reduceAdd, Nat.reduceSub, Nat.reduceLT, if_true, if_false, Bool.false_eq_true, Bool.not_true, Bool.not_false]
  refine ⟨trivial, trivial, _, rfl, 4, rfl, by decide, by decide, fun r h0 h1 => ?_⟩
  simp only [dEq_int]
  by_cases q : r = 0
  · rw [decide_eq_true q]
    simp only [sSeq, sRet, sRetF, sRetN, sIf, sNext, sSet, sOwn, sOwnP, sPar, sExpr, sFldI, sBreak, sCont, sDPutD, sParFF, sParEF, sParFE, sParEFF, wIsi, wVar, wC, wOp, wUn, wB, wCons, wNil, wTup, wLst, wDct, wTru, wTruth, wNot, wAndT, wOrT, wAndV, wOrV, wNotV, wIfE, wChain, wCall, wCallP, wCallPF, wMake, wMakeE, wM, wSl, wPart, wNoPart, wMeth, wFldC, wFldS, wProp, wBor, wBorT, wAppend, wPopAt, wExtend, wDGet2, wLstRng, wFmt, wJoined, jCons, jNil, gN, gTupW, gCons', gNil', iL, iT, iS, iR1, iR2, iZp, iEn, dAdd, dSub, dMul, dMod, dFdiv, dPow, dLt, dLe, dGt, dGe, dNeg, dIs, dIsNot, rLenD, rTupOf, rLstOf, rMax2, rMin2, rAbs, rIntOf, rStrOf, rDivmod, startE, Ev.get, Ev.set, Ev.lend, Ev.noSlf, Slot.lend, Slot.noSlf, Slot.isL, Slot.isDK, Slot.isPurse, List.map, List.all, List.length_cons, List.length_nil, List.replicate, List.append, List.cons_append, List.nil_append, Nat.zero_add, Nat.reduceAdd, Nat.reduceSub, Nat.reduceLT, if_true, if_false, Bool.false_eq_true, Bool.not_true, Bool.not_false]
    refine ⟨trivial, by decide +kernel, trivial, _, rfl, _, rfl, by simp, by decide, fun d hd => ⟨trivial, ?_⟩⟩
    have key : ∀ s ∈ ([("lot" : Str), "rule", "lies", "all", "most", "o", "r", "orr", "a", "most1"] : List Str), labB s = true := by decide +kernel
    have hd' : d ∈ ([("lot" : Str), "rule", "lies", "all", "most", "o", "r", "orr", "a", "most1"] : List Str).map D.str := hd
    obtain ⟨s, hs, rfl⟩ := List.mem_map.mp hd'
    exact h s (key s hs)
  · rw [decide_eq_false q]
    simp only [sSeq, sRet, sRetF, sRetN, sIf, sNext, sSet, sOwn, sOwnP, sPar, sExpr, sFldI, sBreak, sCont, sDPutD, sParFF, sParEF, sParFE, sParEFF, wIsi, wVar, wC, wOp, wUn, wB, wCons, wNil, wTup, wLst, wDct, wTru, wTruth, wNot, wAndT, wOrT, wAndV, wOrV, wNotV, wIfE, wChain, wCall, wCallP, wCallPF, wMake, wMakeE, wM, wSl, wPart, wNoPart, wMeth, wFldC, wFldS, wProp, wBor, wBorT, wAppend, wPopAt, wExtend, wDGet2, wLstRng, wFmt, wJoined, jCons, jNil, gN, gTupW, gCons', gNil', iL, iT, iS, iR1, iR2, iZp, iEn, dAdd, dSub, dMul, dMod, dFdiv, dPow, dLt, dLe, dGt, dGe, dNeg, dIs, dIsNot, rLenD, rTupOf, rLstOf, rMax2, rMin2, rAbs, rIntOf, rStrOf, rDivmod, startE, Ev.get, Ev.set, Ev.lend, Ev.noSlf, Slot.lend, Slot.noSlf, Slot.isL, Slot.isDK, Slot.isPurse, List.map, List.all, List.length_cons, List.length_nil, List.replicate, List.append, List.cons_append, List.nil_append, Nat.zero_add, Nat.reduceAdd, Nat.reduceSub, Nat.reduceLT, if_true, if_false, Bool.false_eq_true, Bool.not_true, Bool.not_false]
    refine hM _ (sSeq_gen fun M1 hM1 => ?_)
    simp only [sSeq, sRet, sRetF, sRetN, sIf, sNext, sSet, sOwn, sOwnP, sPar, sExpr, sFldI, sBreak, sCont, sDPutD, sParFF, sParEF, sParFE, sParEFF, wIsi, wVar, wC, wOp, wUn, wB, wCons, wNil, wTup, wLst, wDct, wTru, wTruth, wNot, wAndT, wOrT, wAndV, wOrV, wNotV, wIfE, wChain, wCall, wCallP, wCallPF, wMake, wMakeE, wM, wSl, wPart, wNoPart, wMeth, wFldC, wFldS, wProp, wBor, wBorT, wAppend, wPopAt, wExtend, wDGet2, wLstRng, wFmt, wJoined, jCons, jNil, gN, gTupW, gCons', gNil', iL, iT, iS, iR1, iR2, iZp, iEn, dAdd, dSub, dMul, dMod, dFdiv, dPow, dLt, dLe, dGt, dGe, dNeg, dIs, dIsNot, rLenD, rTupOf, rLstOf, rMax2, rMin2, rAbs, rIntOf, rStrOf, rDivmod, startE, Ev.get, Ev.set, Ev.lend, Ev.noSlf, Slot.lend, Slot.noSlf, Slot.isL, Slot.isDK, Slot.isPurse, List.map, List.all, List.length_cons, List.length_nil, List.replicate, List.append, List.cons_append, List.nil_append, Nat.zero_add, Nat.reduceAdd, Nat.reduceSub, Nat.reduceLT, if_true, if_false, Bool.false_eq_true, Bool.not_true, Bool.not_false, LETeq]
    refine hM1 _ (sSeq_gen fun M2 hM2 => ?_)
    simp only [sSeq, sRet, sRetF, sRetN, sIf, sNext, sSet, sOwn, sOwnP, sPar, sExpr, sFldI, sBreak, sCont, sDPutD, sParFF, sParEF, sParFE, sParEFF, wIsi, wVar, wC, wOp, wUn, wB, wCons, wNil, wTup, wLst, wDct, wTru, wTruth, wNot, wAndT, wOrT, wAndV, wOrV, wNotV, wIfE, wChain, wCall, wCallP, wCallPF, wMake, wMakeE, wM, wSl, wPart, wNoPart, wMeth, wFldC, wFldS, wProp, wBor, wBorT, wAppend, wPopAt, wExtend, wDGet2, wLstRng, wFmt, wJoined, jCons, jNil, gN, gTupW, gCons', gNil', iL, iT, iS, iR1, iR2, iZp, iEn, dAdd, dSub, dMul, dMod, dFdiv, dPow, dLt, dLe, dGt, dGe, dNeg, dIs, dIsNot, rLenD, rTupOf, rLstOf, rMax2, rMin2, rAbs, rIntOf, rStrOf, rDivmod, startE, Ev.get, Ev.set, Ev.lend, Ev.noSlf, Slot.lend, Slot.noSlf, Slot.isL, Slot.isDK, Slot.isPurse, List.map, List.all, List.length_cons, List.length_nil, List.replicate, List.append, List.cons_append, List.nil_append, Nat.zero_add, Nat.reduceAdd, Nat.reduceSub, Nat.reduceLT, if_true, if_false, Bool.false_eq_true, Bool.not_true, Bool.not_false]
    refine ⟨trivial, trivial, _, rfl, 26, rfl, by decide, by decide, fun r h0 h1 => ?_⟩
    obtain ⟨c, e, hc⟩ := at_rng (l := LET.cps.toList) h0 (by rw [LET_len]; omega)
    simp only [dIx, e]
    refine ⟨by decide +kernel, hM2 _ (sSeq_gen fun M3 hM3 => ?_)⟩
    simp only [sFor, sSeq, sRet, sRetF, sRetN, sIf, sNext, sSet, sOwn, sOwnP, sPar, sExpr, sFldI, sBreak, sCont, sDPutD, sParFF, sParEF, sParFE, sParEFF, wIsi, wVar, wC, wOp, wUn, wB, wCons, wNil, wTup, wLst, wDct, wTru, wTruth, wNot, wAndT, wOrT, wAndV, wOrV, wNotV, wIfE, wChain, wCall, wCallP, wCallPF, wMake, wMakeE, wM, wSl, wPart, wNoPart, wMeth, wFldC, wFldS, wProp, wBor, wBorT, wAppend, wPopAt, wExtend, wDGet2, wLstRng, wFmt, wJoined, jCons, jNil, gN, gTupW, gCons', gNil', iL, iT, iS, iR1, iR2, iZp, iEn, dAdd, dSub, dMul, dMod, dFdiv, dPow, dLt, dLe, dGt, dGe, dNeg, dIs, dIsNot, rLenD, rTupOf, rLstOf, rMax2, rMin2, rAbs, rIntOf, rStrOf, rDivmod, startE, Ev.get, Ev.set, Ev.lend, Ev.noSlf, Slot.lend, Slot.noSlf, Slot.isL, Slot.isDK, Slot.isPurse, List.map, List.all, List.length_cons, List.length_nil, List.replicate, List.append, List.cons_append, List.nil_append, Nat.zero_add, Nat.reduceAdd, Nat.reduceSub, Nat.reduceLT, if_true, if_false, Bool.false_eq_true, Bool.not_true, Bool.not_false]
    refine ⟨trivial, by decide +kernel, trivial, _, rfl, _, rfl, by simp, by decide, fun d hd => ?_⟩
    have hd' : d ∈ ([0, 0, 1, 1, 2, 3, 4, 5, 6, 7] : List Int).map D.int := hd
    obtain ⟨n, hn, rfl⟩ := List.mem_map.mp hd'
    have hb : 0 ≤ n ∧ n ≤ 7 := (by decide : ∀ n ∈ ([0, 0, 1, 1, 2, 3, 4, 5, 6, 7] : List Int), 0 ≤ n ∧ n ≤ 7) n hn
    refine ⟨⟨by omega, by omega⟩, ?_⟩
    have hcl : inLet c = true := decide_eq_true hc
    refine label_loop (kk := kk) _ ⟨#[c]⟩ .un ⟨⟨c, [], rfl, hcl⟩, fun x hx => ?_⟩ ?_ fun z s3 hz hl => hM3 _ ?_
    · have : x = c := by simpa using hx
      rw [this, hcl]; rfl
    · have l1 : (⟨#[c]⟩ : Str).length = 1 := rfl
      rw [l1]
      simp [seqI]
      omega
    · simp only [sSeq, sRet, sRetF, sRetN, sIf, sNext, sSet, sOwn, sOwnP, sPar, sExpr, sFldI, sBreak, sCont, sDPutD, sParFF, sParEF, sParFE, sParEFF, wIsi, wVar, wC, wOp, wUn, wB, wCons, wNil, wTup, wLst, wDct, wTru, wTruth, wNot, wAndT, wOrT, wAndV, wOrV, wNotV, wIfE, wChain, wCall, wCallP, wCallPF, wMake, wMakeE, wM, wSl, wPart, wNoPart, wMeth, wFldC, wFldS, wProp, wBor, wBorT, wAppend, wPopAt, wExtend, wDGet2, wLstRng, wFmt, wJoined, jCons, jNil, gN, gTupW, gCons', gNil', iL, iT, iS, iR1, iR2, iZp, iEn, dAdd, dSub, dMul, dMod, dFdiv, dPow, dLt, dLe, dGt, dGe, dNeg, dIs, dIsNot, rLenD, rTupOf, rLstOf, rMax2, rMin2, rAbs, rIntOf, rStrOf, rDivmod, startE, Ev.get, Ev.set, Ev.lend, Ev.noSlf, Slot.lend, Slot.noSlf, Slot.isL, Slot.isDK, Slot.isPurse, List.map, List.all, List.length_cons, List.length_nil, List.replicate, List.append, List.cons_append, List.nil_append, Nat.zero_add, Nat.reduceAdd, Nat.reduceSub, Nat.reduceLT, if_true, if_false, Bool.false_eq_true, Bool.not_true, Bool.not_false]
      exact ⟨trivial, h z (labB_of hz hl)⟩
theorem n__law_count {ds : List D} {kk : D → Prop} {kx : XC} (h : c__law_count ds kk kx) : ds.length + 1 = 1 := by
  obtain ⟨rfl, _⟩ := h; rfl
theorem p__law_count (ds : List D) (kk : D → Prop) (h : c__law_count ds kk no) : w__law_count { nx := fun ρ => ρ.get 0 = .purse ∧ kk .non, rt := fun d ρ => ρ.get 0 = .purse ∧ kk d } (.purse :: startE 2 ds) := by
  obtain ⟨rfl, h⟩ := h
  unfold w__law_count
  refine sSeq_gen fun M hM => ?_
  simp only [sSeq, sRet, sRetF, sRetN, sIf, sNext, sSet, sOwn, sOwnP, sPar, sExpr, sFldI, sBreak, sCont, sDPutD, sParFF, sParEF, sParFE, sParEFF, wIsi, wVar, wC, wOp, wUn, wB, wCons, wNil, wTup, wLst, wDct, wTru, wTruth, wNot, wAndT, wOrT, wAndV, wOrV, wNotV, wIfE, wChain, wCall, wCallP, wCallPF, wMake, wMakeE, wM, wSl, wPart, wNoPart, wMeth, wFldC, wFldS, wProp, wBor, wBorT, wAppend, wPopAt, wExtend, wDGet2, wLstRng, wFmt, wJoined, jCons, jNil, gN, gTupW, gCons', gNil', iL, iT, iS, iR1, iR2, iZp, iEn, dAdd, dSub, dMul, dMod, dFdiv, dPow, dLt, dLe, dGt, dGe, dNeg, dIs, dIsNot, rLenD, rTupOf, rLstOf, rMax2, rMin2, rAbs, rIntOf, rStrOf, rDivmod, startE, Ev.get, Ev.set, Ev.lend, Ev.noSlf, Slot.lend, Slot.noSlf, Slot.isL, Slot.isDK, Slot.isPurse, List.map, List.all, List.length_cons, List.length_nil, List.replicate, List.append, List.cons_append, List.nil_append, Nat.zero_add, Nat.reduceAdd, Nat.reduceSub, Nat.reduceLT, if_true, if_false, Bool.false_eq_true, Bool.not_true, Bool.not_false]
  refine ⟨trivial, trivial, _, rfl, 5, rfl, by decide, by decide, fun r h0 h1 => hM _ (sSeq_gen fun M1 hM1 => ?_)⟩
  simp only [sSeq, sRet, sRetF, sRetN, sIf, sNext, sSet, sOwn, sOwnP, sPar, sExpr, sFldI, sBreak, sCont, sDPutD, sParFF, sParEF, sParFE, sParEFF, wIsi, wVar, wC, wOp, wUn, wB, wCons, wNil, wTup, wLst, wDct, wTru, wTruth, wNot, wAndT, wOrT, wAndV, wOrV, wNotV, wIfE, wChain, wCall, wCallP, wCallPF, wMake, wMakeE, wM, wSl, wPart, wNoPart, wMeth, wFldC, wFldS, wProp, wBor, wBorT, wAppend, wPopAt, wExtend, wDGet2, wLstRng, wFmt, wJoined, jCons, jNil, gN, gTupW, gCons', gNil', iL, iT, iS, iR1, iR2, iZp, iEn, dAdd, dSub, dMul, dMod, dFdiv, dPow, dLt, dLe, dGt, dGe, dNeg, dIs, dIsNot, rLenD, rTupOf, rLstOf, rMax2, rMin2, rAbs, rIntOf, rStrOf, rDivmod, startE, Ev.get, Ev.set, Ev.lend, Ev.noSlf, Slot.lend, Slot.noSlf, Slot.isL, Slot.isDK, Slot.isPurse, List.map, List.all, List.length_cons, List.length_nil, List.replicate, List.append, List.cons_append, List.nil_append, Nat.zero_add, Nat.reduceAdd, Nat.reduceSub, Nat.reduceLT, if_true, if_false, Bool.false_eq_true, Bool.not_true, Bool.not_false]
  by_cases q : r < 2
  · rw [decide_eq_true q]
    simp only [sSeq, sRet, sRetF, sRetN, sIf, sNext, sSet, sOwn, sOwnP, sPar, sExpr, sFldI, sBreak, sCont, sDPutD, sParFF, sParEF, sParFE, sParEFF, wIsi, wVar, wC, wOp, wUn, wB, wCons, wNil, wTup, wLst, wDct, wTru, wTruth, wNot, wAndT, wOrT, wAndV, wOrV, wNotV, wIfE, wChain, wCall, wCallP, wCallPF, wMake, wMakeE, wM, wSl, wPart, wNoPart, wMeth, wFldC, wFldS, wProp, wBor, wBorT, wAppend, wPopAt, wExtend, wDGet2, wLstRng, wFmt, wJoined, jCons, jNil, gN, gTupW, gCons', gNil', iL, iT, iS, iR1, iR2, iZp, iEn, dAdd, dSub, dMul, dMod, dFdiv, dPow, dLt, dLe, dGt, dGe, dNeg, dIs, dIsNot, rLenD, rTupOf, rLstOf, rMax2, rMin2, rAbs, rIntOf, rStrOf, rDivmod, startE, Ev.get, Ev.set, Ev.lend, Ev.noSlf, Slot.lend, Slot.noSlf, Slot.isL, Slot.isDK, Slot.isPurse, List.map, List.all, List.length_cons, List.length_nil, List.replicate, List.append, List.cons_append, List.nil_append, Nat.zero_add, Nat.reduceAdd, Nat.reduceSub, Nat.reduceLT, if_true, if_false, Bool.false_eq_true, Bool.not_true, Bool.not_false]
    exact ⟨trivial, trivial, _, rfl, 9, rfl, by decide, by decide, fun r h0 h1 => ⟨trivial, h _ (by omega) (by omega)⟩⟩
  · rw [decide_eq_false q]
    simp only [sSeq, sRet, sRetF, sRetN, sIf, sNext, sSet, sOwn, sOwnP, sPar, sExpr, sFldI, sBreak, sCont, sDPutD, sParFF, sParEF, sParFE, sParEFF, wIsi, wVar, wC, wOp, wUn, wB, wCons, wNil, wTup, wLst, wDct, wTru, wTruth, wNot, wAndT, wOrT, wAndV, wOrV, wNotV, wIfE, wChain, wCall, wCallP, wCallPF, wMake, wMakeE, wM, wSl, wPart, wNoPart, wMeth, wFldC, wFldS, wProp, wBor, wBorT, wAppend, wPopAt, wExtend, wDGet2, wLstRng, wFmt, wJoined, jCons, jNil, gN, gTupW, gCons', gNil', iL, iT, iS, iR1, iR2, iZp, iEn, dAdd, dSub, dMul, dMod, dFdiv, dPow, dLt, dLe, dGt, dGe, dNeg, dIs, dIsNot, rLenD, rTupOf, rLstOf, rMax2, rMin2, rAbs, rIntOf, rStrOf, rDivmod, startE, Ev.get, Ev.set, Ev.lend, Ev.noSlf, Slot.lend, Slot.noSlf, Slot.isL, Slot.isDK, Slot.isPurse, List.map, List.all, List.length_cons, List.length_nil, List.replicate, List.append, List.cons_append, List.nil_append, Nat.zero_add, Nat.reduceAdd, Nat.reduceSub, Nat.reduceLT, if_true, if_false, Bool.false_eq_true, Bool.not_true, Bool.not_false]
    refine hM1 _ (sSeq_gen fun M2 hM2 => ?_)
    simp only [sSeq, sRet, sRetF, sRetN, sIf, sNext, sSet, sOwn, sOwnP, sPar, sExpr, sFldI, sBreak, sCont, sDPutD, sParFF, sParEF, sParFE, sParEFF, wIsi, wVar, wC, wOp, wUn, wB, wCons, wNil, wTup, wLst, wDct, wTru, wTruth, wNot, wAndT, wOrT, wAndV, wOrV, wNotV, wIfE, wChain, wCall, wCallP, wCallPF, wMake, wMakeE, wM, wSl, wPart, wNoPart, wMeth, wFldC, wFldS, wProp, wBor, wBorT, wAppend, wPopAt, wExtend, wDGet2, wLstRng, wFmt, wJoined, jCons, jNil, gN, gTupW, gCons', gNil', iL, iT, iS, iR1, iR2, iZp, iEn, dAdd, dSub, dMul, dMod, dFdiv, dPow, dLt, dLe, dGt, dGe, dNeg, dIs, dIsNot, rLenD, rTupOf, rLstOf, rMax2, rMin2, rAbs, rIntOf, rStrOf, rDivmod, startE, Ev.get, Ev.set, Ev.lend, Ev.noSlf, Slot.lend, Slot.noSlf, Slot.isL, Slot.isDK, Slot.isPurse, List.map, List.all, List.length_cons, List.length_nil, List.replicate, List.append, List.cons_append, List.nil_append, Nat.zero_add, Nat.reduceAdd, Nat.reduceSub, Nat.reduceLT, if_true, if_false, Bool.false_eq_true, Bool.not_true, Bool.not_false, dEq_int]
    by_cases q2 : r = 2
    · rw [decide_eq_true q2]
      simp only [sSeq, sRet, sRetF, sRetN, sIf, sNext, sSet, sOwn, sOwnP, sPar, sExpr, sFldI, sBreak, sCont, sDPutD, sParFF, sParEF, sParFE, sParEFF, wIsi, wVar, wC, wOp, wUn, wB, wCons, wNil, wTup, wLst, wDct, wTru, wTruth, wNot, wAndT, wOrT, wAndV, wOrV, wNotV, wIfE, wChain, wCall, wCallP, wCallPF, wMake, wMakeE, wM, wSl, wPart, wNoPart, wMeth, wFldC, wFldS, wProp, wBor, wBorT, wAppend, wPopAt, wExtend, wDGet2, wLstRng, wFmt, wJoined, jCons, jNil, gN, gTupW, gCons', gNil', iL, iT, iS, iR1, iR2, iZp, iEn, dAdd, dSub, dMul, dMod, dFdiv, dPow, dLt, dLe, dGt, dGe, dNeg, dIs, dIsNot, rLenD, rTupOf, rLstOf, rMax2, rMin2, rAbs, rIntOf, rStrOf, rDivmod, startE, Ev.get, Ev.set, Ev.lend, Ev.noSlf, Slot.lend, Slot.noSlf, Slot.isL, Slot.isDK, Slot.isPurse, List.map, List.all, List.length_cons, List.length_nil, List.replicate, List.append, List.cons_append, List.nil_append, Nat.zero_add, Nat.reduceAdd, Nat.reduceSub, Nat.reduceLT, if_true, if_false, Bool.false_eq_true, Bool.not_true, Bool.not_false]
      refine ⟨trivial, ⟨by decide, by decide, by decide⟩, ⟨by decide, by decide, by decide⟩, ⟨by decide, by decide, by decide⟩, by decide +kernel, trivial, _, rfl, _, rfl, by simp, by decide, fun d hd => ⟨trivial, ?_⟩⟩
      have hd' : d ∈ ([10, 99, 1000, 10 ^ (6 : Int).toNat, 10 ^ (12 : Int).toNat - 1, 10 ^ (12 : Int).toNat] : List Int).map D.int := hd
      obtain ⟨n, hn, rfl⟩ := List.mem_map.mp hd'
      have hb : 1 ≤ n ∧ n ≤ 1000000000000 := (by decide +kernel : ∀ n ∈ ([10, 99, 1000, 10 ^ (6 : Int).toNat, 10 ^ (12 : Int).toNat - 1, 10 ^ (12 : Int).toNat] : List Int), 1 ≤ n ∧ n ≤ 1000000000000) n hn
      exact h n hb.1 hb.2
    · rw [decide_eq_false q2]
      simp only [sSeq, sRet, sRetF, sRetN, sIf, sNext, sSet, sOwn, sOwnP, sPar, sExpr, sFldI, sBreak, sCont, sDPutD, sParFF, sParEF, sParFE, sParEFF, wIsi, wVar, wC, wOp, wUn, wB, wCons, wNil, wTup, wLst, wDct, wTru, wTruth, wNot, wAndT, wOrT, wAndV, wOrV, wNotV, wIfE, wChain, wCall, wCallP, wCallPF, wMake, wMakeE, wM, wSl, wPart, wNoPart, wMeth, wFldC, wFldS, wProp, wBor, wBorT, wAppend, wPopAt, wExtend, wDGet2, wLstRng, wFmt, wJoined, jCons, jNil, gN, gTupW, gCons', gNil', iL, iT, iS, iR1, iR2, iZp, iEn, dAdd, dSub, dMul, dMod, dFdiv, dPow, dLt, dLe, dGt, dGe, dNeg, dIs, dIsNot, rLenD, rTupOf, rLstOf, rMax2, rMin2, rAbs, rIntOf, rStrOf, rDivmod, startE, Ev.get, Ev.set, Ev.lend, Ev.noSlf, Slot.lend, Slot.noSlf, Slot.isL, Slot.isDK, Slot.isPurse, List.map, List.all, List.length_cons, List.length_nil, List.replicate, List.append, List.cons_append, List.nil_append, Nat.zero_add, Nat.reduceAdd, Nat.reduceSub, Nat.reduceLT, if_true, if_false, Bool.false_eq_true, Bool.not_true, Bool.not_false]
      refine hM2 _ (sSeq_gen fun M3 hM3 => ?_)
      simp only [sSeq, sRet, sRetF, sRetN, sIf, sNext, sSet, sOwn, sOwnP, sPar, sExpr, sFldI, sBreak, sCont, sDPutD, sParFF, sParEF, sParFE, sParEFF, wIsi, wVar, wC, wOp, wUn, wB, wCons, wNil, wTup, wLst, wDct, wTru, wTruth, wNot, wAndT, wOrT, wAndV, wOrV, wNotV, wIfE, wChain, wCall, wCallP, wCallPF, wMake, wMakeE, wM, wSl, wPart, wNoPart, wMeth, wFldC, wFldS, wProp, wBor, wBorT, wAppend, wPopAt, wExtend, wDGet2, wLstRng, wFmt, wJoined, jCons, jNil, gN, gTupW, gCons', gNil', iL, iT, iS, iR1, iR2, iZp, iEn, dAdd, dSub, dMul, dMod, dFdiv, dPow, dLt, dLe, dGt, dGe, dNeg, dIs, dIsNot, rLenD, rTupOf, rLstOf, rMax2, rMin2, rAbs, rIntOf, rStrOf, rDivmod, startE, Ev.get, Ev.set, Ev.lend, Ev.noSlf, Slot.lend, Slot.noSlf, Slot.isL, Slot.isDK, Slot.isPurse, List.map, List.all, List.length_cons, List.length_nil, List.replicate, List.append, List.cons_append, List.nil_append, Nat.zero_add, Nat.reduceAdd, Nat.reduceSub, Nat.reduceLT, if_true, if_false, Bool.false_eq_true, Bool.not_true, Bool.not_false]
      refine ⟨trivial, ⟨by decide, by decide, by decide⟩, ⟨by decide, by decide, by decide⟩, ⟨by decide, by decide, by decide⟩, ⟨by decide, by decide, by decide⟩, by decide +kernel, trivial, _, rfl, _, rfl, by simp, by decide, fun d hd => hM3 _ ?_⟩
      have hd' : d ∈ ([10 ^ (3 : Int).toNat, 10 ^ (6 : Int).toNat, 10 ^ (9 : Int).toNat, 10 ^ (12 : Int).toNat] : List Int).map D.int := hd
      obtain ⟨t, ht, rfl⟩ := List.mem_map.mp hd'
      have hb : 1 ≤ t ∧ t ≤ 1000000000000 := (by decide +kernel : ∀ n ∈ ([10 ^ (3 : Int).toNat, 10 ^ (6 : Int).toNat, 10 ^ (9 : Int).toNat, 10 ^ (12 : Int).toNat] : List Int), 1 ≤ n ∧ n ≤ 1000000000000) t ht
      simp only [sSeq, sRet, sRetF, sRetN, sIf, sNext, sSet, sOwn, sOwnP, sPar, sExpr, sFldI, sBreak, sCont, sDPutD, sParFF, sParEF, sParFE, sParEFF, wIsi, wVar, wC, wOp, wUn, wB, wCons, wNil, wTup, wLst, wDct, wTru, wTruth, wNot, wAndT, wOrT, wAndV, wOrV, wNotV, wIfE, wChain, wCall, wCallP, wCallPF, wMake, wMakeE, wM, wSl, wPart, wNoPart, wMeth, wFldC, wFldS, wProp, wBor, wBorT, wAppend, wPopAt, wExtend, wDGet2, wLstRng, wFmt, wJoined, jCons, jNil, gN, gTupW, gCons', gNil', iL, iT, iS, iR1, iR2, iZp, iEn, dAdd, dSub, dMul, dMod, dFdiv, dPow, dLt, dLe, dGt, dGe, dNeg, dIs, dIsNot, rLenD, rTupOf, rLstOf, rMax2, rMin2, rAbs, rIntOf, rStrOf, rDivmod, startE, Ev.get, Ev.set, Ev.lend, Ev.noSlf, Slot.lend, Slot.noSlf, Slot.isL, Slot.isDK, Slot.isPurse, List.map, List.all, List.length_cons, List.length_nil, List.replicate, List.append, List.cons_append, List.nil_append, Nat.zero_add, Nat.reduceAdd, Nat.reduceSub, Nat.reduceLT, if_true, if_false, Bool.false_eq_true, Bool.not_true, Bool.not_false]
      have e6 : (10 : Int) ^ (6 : Int).toNat = 1000000 := by decide +kernel
      refine ⟨trivial, ⟨by decide, by decide, by decide⟩, trivial, _, rfl, _, rfl, by decide +kernel, by decide +kernel, fun a a0 a1 => ⟨⟨by decide, by decide, by decide⟩, .inr ⟨by decide +kernel, by decide +kernel⟩, trivial, ⟨by decide, by decide, by decide⟩, trivial, _, rfl, _, rfl, by decide +kernel, by decide +kernel, fun b b0 b1 => ⟨by omega, trivial, ?_⟩⟩⟩
      have e := emod_rng (a * 10 ^ (6 : Int).toNat + b) (m := t) (by omega)
      exact h _ (by omega) (by omega)
theorem n__law_word {ds : List D} {kk : D → Prop} {kx : XC} (h : c__law_word ds kk kx) : ds.length + 1 = 1 := by
  obtain ⟨rfl, _⟩ := h; rfl
theorem num_log {n : Int} (h0 : 0 ≤ n) (h1 : n ≤ 1000000000000) : n.natAbs.log2 < 1920 := by
  have e : n.natAbs < 2 ^ 1920 := Nat.lt_of_le_of_lt (show n.natAbs ≤ 1000000000000 by omega) (by decide +kernel)
  by_cases q : n.natAbs = 0
  · rw [q]; decide
  · exact (Nat.log2_lt q).mpr e
theorem numS_len {n : Int} (h0 : 0 ≤ n) (h1 : n ≤ 1000000000000) : (numS n).length ≤ 13 := by
  obtain ⟨m, rfl⟩ := Int.eq_ofNat_of_zero_le h0
  rw [← len_tl]
  show (Str.ofString (toString ((m : Nat) : Int))).cps.toList.length ≤ 13
  rw [show (Str.ofString (toString ((m : Nat) : Int))).cps.toList = TL.numL m from TL.tl_num m]
  exact TL.numL_len (by decide) (by omega)
theorem p__law_word (ds : List D) (kk : D → Prop) (h : c__law_word ds kk no) : w__law_word { nx := fun ρ => ρ.get 0 = .purse ∧ kk .non, rt := fun d ρ => ρ.get 0 = .purse ∧ kk d } (.purse :: startE 1 ds) := by
  obtain ⟨rfl, h⟩ := h
  unfold w__law_word
  refine sSeq_gen fun M hM => ?_
  simp only [sSeq, sRet, sRetF, sRetN, sIf, sNext, sSet, sOwn, sOwnP, sPar, sExpr, sFldI, sBreak, sCont, sDPutD, sParFF, sParEF, sParFE, sParEFF, wIsi, wVar, wC, wOp, wUn, wB, wCons, wNil, wTup, wLst, wDct, wTru, wTruth, wNot, wAndT, wOrT, wAndV, wOrV, wNotV, wIfE, wChain, wCall, wCallP, wCallPF, wMake, wMakeE, wM, wSl, wPart, wNoPart, wMeth, wFldC, wFldS, wProp, wBor, wBorT, wAppend, wPopAt, wExtend, wDGet2, wLstRng, wFmt, wJoined, jCons, jNil, gN, gTupW, gCons', gNil', iL, iT, iS, iR1, iR2, iZp, iEn, dAdd, dSub, dMul, dMod, dFdiv, dPow, dLt, dLe, dGt, dGe, dNeg, dIs, dIsNot, rLenD, rTupOf, rLstOf, rMax2, rMin2, rAbs, rIntOf, rStrOf, rDivmod, startE, Ev.get, Ev.set, Ev.lend, Ev.noSlf, Slot.lend, Slot.noSlf, Slot.isL, Slot.isDK, Slot.isPurse, List.map, List.all, List.length_cons, List.length_nil, List.replicate, List.append, List.cons_append, List.nil_append, Nat.zero_add, Nat.reduceAdd, Nat.reduceSub, Nat.reduceLT, if_true, if_false, Bool.false_eq_true, Bool.not_true, Bool.not_false]
  refine ⟨trivial, trivial, rfl, fun n n0 n1 => ⟨num_log (by omega) n1, hM _ ?_⟩⟩
  simp only [sSeq, sRet, sRetF, sRetN, sIf, sNext, sSet, sOwn, sOwnP, sPar, sExpr, sFldI, sBreak, sCont, sDPutD, sParFF, sParEF, sParFE, sParEFF, wIsi, wVar, wC, wOp, wUn, wB, wCons, wNil, wTup, wLst, wDct, wTru, wTruth, wNot, wAndT, wOrT, wAndV, wOrV, wNotV, wIfE, wChain, wCall, wCallP, wCallPF, wMake, wMakeE, wM, wSl, wPart, wNoPart, wMeth, wFldC, wFldS, wProp, wBor, wBorT, wAppend, wPopAt, wExtend, wDGet2, wLstRng, wFmt, wJoined, jCons, jNil, gN, gTupW, gCons', gNil', iL, iT, iS, iR1, iR2, iZp, iEn, dAdd, dSub, dMul, dMod, dFdiv, dPow, dLt, dLe, dGt, dGe, dNeg, dIs, dIsNot, rLenD, rTupOf, rLstOf, rMax2, rMin2, rAbs, rIntOf, rStrOf, rDivmod, startE, Ev.get, Ev.set, Ev.lend, Ev.noSlf, Slot.lend, Slot.noSlf, Slot.isL, Slot.isDK, Slot.isPurse, List.map, List.all, List.length_cons, List.length_nil, List.replicate, List.append, List.cons_append, List.nil_append, Nat.zero_add, Nat.reduceAdd, Nat.reduceSub, Nat.reduceLT, if_true, if_false, Bool.false_eq_true, Bool.not_true, Bool.not_false]
  have hl := numS_len (n := n) (by omega) n1
  have big : (100 : Nat) ≤ sizeLine := by rw [sizeLine_eq]; decide
  have la4 : (Str.ofString "all-").length = 4 := by decide +kernel
  have lm5 : (Str.ofString "most+").length = 5 := by decide +kernel
  have lm6 : (Str.ofString "most-").length = 5 := by decide +kernel
  have hl' : (Str.ofString (toString n)).length ≤ 13 := hl
  refine ⟨trivial, by rw [la4]; omega, by rw [lm5]; omega, by rw [lm6]; omega, by show (6 : Nat) ≤ sizeLine; omega, trivial, _, rfl, _, rfl, by simp, by show (6 : Nat) < 1073741824; decide, fun d hd => ⟨trivial, ?_⟩⟩
  have z1 : ¬ ("all" : Str) = "number" := by decide +kernel
  have z2 : ¬ ("most" : Str) = "number" := by decide +kernel
  have t1 : wtext ("number", n) = numS n := if_pos rfl
  have t2 : wtext ("all", 0) = "all" := by unfold wtext; rw [if_neg z1, if_pos rfl]
  have t3 : wtext ("all", -n) = (("all" : Str) ++ ("-" : Str)) ++ numS n := by unfold wtext; rw [if_neg z1, if_neg (show ¬ -n = 0 by omega), if_neg (show ¬ 0 < -n by omega)]; simp
  have t4 : wtext ("most", 0) = "most" := by unfold wtext; rw [if_neg z2, if_pos rfl]
  have t5 : wtext ("most", n) = (("most" : Str) ++ ("+" : Str)) ++ numS n := by unfold wtext; rw [if_neg z2, if_neg (show ¬ n = 0 by omega), if_pos (show 0 < n by omega)]
  have t6 : wtext ("most", -n) = (("most" : Str) ++ ("-" : Str)) ++ numS n := by unfold wtext; rw [if_neg z2, if_neg (show ¬ -n = 0 by omega), if_neg (show ¬ 0 < -n by omega)]; simp
  have u3 : ("all" : Str) ++ ("-" : Str) = "all-" := by decide +kernel
  have u5 : ("most" : Str) ++ ("+" : Str) = "most+" := by decide +kernel
  have u6 : ("most" : Str) ++ ("-" : Str) = "most-" := by decide +kernel
  rw [u3] at t3; rw [u5] at t5; rw [u6] at t6
  have hd' : d ∈ ([("number", n), ("all", 0), ("all", -n), ("most", 0), ("most", n), ("most", -n)] : List Wd).map fun w => D.str (wtext w) := by
    simp only [List.map_cons, List.map_nil, t1, t2, t3, t4, t5, t6]
    exact hd
  obtain ⟨w, hw, rfl⟩ := List.mem_map.mp hd'
  refine h w ?_
  simp only [List.mem_cons, List.not_mem_nil, or_false] at hw
  rcases hw with rfl | rfl | rfl | rfl | rfl | rfl
  · exact .inl ⟨rfl, n0, n1⟩
  · exact .inr (.inl ⟨rfl, by decide, by decide⟩)
  · exact .inr (.inl ⟨rfl, by show -1000000000000 ≤ -n; omega, by show -n ≤ 0; omega⟩)
  · exact .inr (.inr ⟨rfl, by decide, by decide⟩)
  · exact .inr (.inr ⟨rfl, by show -1000000000000 ≤ n; omega, n1⟩)
  · exact .inr (.inr ⟨rfl, by show -1000000000000 ≤ -n; omega, by show -n ≤ 1000000000000; omega⟩)
end W
set_option Elab.async false
set_option linter.all false
set_option maxRecDepth 100000
set_option maxHeartbeats 4000000
namespace W
open PySem PySem.Spec PyProof.Rows L2 Q
theorem str_ext {a b : Str} (h : a.cps.toList = b.cps.toList) : a = b := by
  obtain ⟨a⟩ := a
  obtain ⟨b⟩ := b
  congr 1
  exact Array.toList_inj.mp h
theorem cut_to (z : Str) (k : Nat) : (cutS z none (some (k : Int))).cps.toList = z.cps.toList.take k := by
  show (List.toArray _).toList = _
  rw [List.toList_toArray]
  rw [HT.sIx_none, HT.sIx_nat, List.drop_zero]
  rw [← len_tl]
  rw [Nat.sub_zero]
  by_cases q : k ≤ z.cps.toList.length
  · rw [Nat.min_eq_left q]
  · rw [Nat.min_eq_right (by omega), List.take_length, List.take_of_length_le (by omega)]
theorem cut_from (z : Str) (k : Nat) : (cutS z (some (k : Int)) none).cps.toList = z.cps.toList.drop k := by
  show (List.toArray _).toList = _
  rw [List.toList_toArray]
  rw [HT.sIx_none, HT.sIx_nat]
  rw [← len_tl]
  by_cases q : k ≤ z.cps.toList.length
  · rw [Nat.min_eq_left q, List.take_of_length_le (by rw [List.length_drop]; omega)]
  · rw [Nat.min_eq_right (by omega), List.drop_length, List.drop_of_length_le (by omega), List.take_nil]
theorem cut_app (y d : Str) : cutS (y ++ d) none (some (y.length : Int)) = y := str_ext (by
  rw [cut_to, show (y ++ d).cps.toList = y.cps.toList ++ d.cps.toList from TL.tl_append y d, ← len_tl, List.take_left])
theorem cut_rest (y d : Str) : cutS (y ++ d) (some (y.length : Int)) none = d := str_ext (by
  rw [cut_from, show (y ++ d).cps.toList = y.cps.toList ++ d.cps.toList from TL.tl_append y d, ← len_tl, List.drop_left])
theorem starts_app (y d : Str) : Txt.startswith (y ++ d) y = true := by
  unfold Txt.startswith
  rw [PySem.StrLaws.subAt_eq, show (y ++ d).cps.toList = y.cps.toList ++ d.cps.toList from TL.tl_append y d, List.drop_zero, len_app, ← len_tl, List.take_left]
  simp
theorem starts_ne {x y : Str} (h : x.cps.toList.take y.length ≠ y.cps.toList) : Txt.startswith x y = false := by
  unfold Txt.startswith
  rw [PySem.StrLaws.subAt_eq, List.drop_zero]
  have : (x.cps.toList.take y.length == y.cps.toList) = false := beq_eq_false_iff_ne.mpr h
  rw [this]; simp
theorem numS_tl {n : Int} (h : 0 ≤ n) : (numS n).cps.toList = TL.numL n.toNat := by
  obtain ⟨m, rfl⟩ := Int.eq_ofNat_of_zero_le h
  exact TL.tl_num m
theorem numS_int {n : Int} (h : 0 ≤ n) (h1 : n ≤ 1000000000000) : PySem.intText? (numS n) = some n := by
  have hl := numS_len h h1
  rw [← len_tl, numS_tl h] at hl
  obtain ⟨m, rfl⟩ := Int.eq_ofNat_of_zero_le h
  exact TL.int_num (by simpa using Nat.le_trans hl (by decide))
theorem numS_head {n : Int} (h : 0 ≤ n) : ∃ c r, (numS n).cps.toList = c :: r ∧ 48 ≤ c ∧ c ≤ 57 := by
  rw [numS_tl h]
  have h1 := TL.numL_ne n.toNat
  have h2 := TL.numL_digits n.toNat
  cases e : TL.numL n.toNat with
  | nil => exact absurd e h1
  | cons c r => rw [e] at h2; exact ⟨c, r, rfl, (h2 c (List.mem_cons_self ..)).1, (h2 c (List.mem_cons_self ..)).2⟩
theorem wform {w : Wd} (h : wOk w) : (∃ n : Int, 1 ≤ n ∧ n ≤ 1000000000000 ∧ w = ((Str.ofString "number"), n) ∧ wtext w = numS n) ∨ (w = ((Str.ofString "all"), 0) ∧ wtext w = "all") ∨ (∃ n : Int, 1 ≤ n ∧ n ≤ 1000000000000 ∧ w = ((Str.ofString "all"), -n) ∧ wtext w = ("all-" : Str) ++ numS n) ∨ (w = ((Str.ofString "most"), 0) ∧ wtext w = "most") ∨
    (∃ n : Int, 1 ≤ n ∧ n ≤ 1000000000000 ∧ w = ((Str.ofString "most"), n) ∧ wtext w = ("most+" : Str) ++ numS n) ∨ (∃ n : Int, 1 ≤ n ∧ n ≤ 1000000000000 ∧ w = ((Str.ofString "most"), -n) ∧ wtext w = ("most-" : Str) ++ numS n) := by
  obtain ⟨a, n⟩ := w
  have z1 : ¬ ("all" : Str) = "number" := by decide +kernel
  have z2 : ¬ ("most" : Str) = "number" := by decide +kernel
  have u3 : ("all" : Str) ++ ("-" : Str) = "all-" := by decide +kernel
  have u5 : ("most" : Str) ++ ("+" : Str) = "most+" := by decide +kernel
  have u6 : ("most" : Str) ++ ("-" : Str) = "most-" := by decide +kernel
  rcases h with ⟨h1, h2, h3⟩ | ⟨h1, h2, h3⟩ | ⟨h1, h2, h3⟩
  · have h1 : a = "number" := h1
    subst h1
    exact .inl ⟨n, h2, h3, rfl, if_pos rfl⟩
  · have h1 : a = "all" := h1
    subst h1
    have h2 : -1000000000000 ≤ n := h2
    have h3 : n ≤ 0 := h3
    by_cases q : n = 0
    · subst q
      refine .inr (.inl ⟨rfl, ?_⟩)
      unfold wtext; rw [if_neg z1, if_pos rfl]
    · refine .inr (.inr (.inl ⟨-n, by omega, by omega, by rw [Int.neg_neg], ?_⟩))
      unfold wtext; rw [if_neg z1, if_neg q, if_neg (show ¬ 0 < n by omega)]
      show (("all" : Str) ++ ("-" : Str)) ++ numS (-n) = _
      rw [u3]
  · have h1 : a = "most" := h1
    subst h1
    have h2 : -1000000000000 ≤ n := h2
    have h3 : n ≤ 1000000000000 := h3
    by_cases q : n = 0
    · subst q
      refine .inr (.inr (.inr (.inl ⟨rfl, ?_⟩)))
      unfold wtext; rw [if_neg z2, if_pos rfl]
    · by_cases q2 : 0 < n
      · refine .inr (.inr (.inr (.inr (.inl ⟨n, by omega, by omega, rfl, ?_⟩))))
        unfold wtext; rw [if_neg z2, if_neg q, if_pos (show 0 < n from q2)]
        show (("most" : Str) ++ ("+" : Str)) ++ numS n = _
        rw [u5]
      · refine .inr (.inr (.inr (.inr (.inr ⟨-n, by omega, by omega, by rw [Int.neg_neg], ?_⟩))))
        unfold wtext; rw [if_neg z2, if_neg q, if_neg (show ¬ 0 < n from q2)]
        show (("most" : Str) ++ ("-" : Str)) ++ numS (-n) = _
        rw [u6]
theorem wtext_len {w : Wd} (h : wOk w) : (wtext w).length ≤ 18 := by
  have a1 : (Str.ofString "all").length = 3 := by decide +kernel
  have a2 : (Str.ofString "all-").length = 4 := by decide +kernel
  have a3 : (Str.ofString "most").length = 4 := by decide +kernel
  have a4 : (Str.ofString "most+").length = 5 := by decide +kernel
  have a5 : (Str.ofString "most-").length = 5 := by decide +kernel
  rcases wform h with ⟨n, h0, h1, _, e⟩ | ⟨_, e⟩ | ⟨n, h0, h1, _, e⟩ | ⟨_, e⟩ | ⟨n, h0, h1, _, e⟩ | ⟨n, h0, h1, _, e⟩
  · rw [e]; have := numS_len (n := n) (by omega) h1; omega
  · rw [e, a1]; decide
  · rw [e, len_app, a2]; have := numS_len (n := n) (by omega) h1; omega
  · rw [e, a3]; decide
  · rw [e, len_app, a4]; have := numS_len (n := n) (by omega) h1; omega
  · rw [e, len_app, a5]; have := numS_len (n := n) (by omega) h1; omega
end W
set_option Elab.async false
set_option linter.all false
set_option maxRecDepth 100000
set_option maxHeartbeats 4000000
namespace W
open PySem PySem.Spec PyProof.Rows L2 Q
theorem n__law_shift {ds : List D} {kk : D → Prop} {kx : XC} (h : c__law_shift ds kk kx) : ds.length = 1 := by
  obtain ⟨a, rfl, _⟩ := h; rfl
theorem hl4 : (Str.ofString "all-").length = 4 := by decide +kernel
theorem hl5 : (Str.ofString "most-").length = 5 := by decide +kernel
theorem hl6 : (Str.ofString "most+").length = 5 := by decide +kernel
/-- one turn over the heads -/
theorem shift_turn {z hd : Str} {s1 : Slot} {kk : D → Prop} {M bk ct : Ev → Prop} {rf : D → Ev → Prop} (hz : z.length ≤ sizeLine) (hh : hd.length ≤ sizeLine)
    (h1 : cutS z none (some (hd.length : Int)) = hd → ∃ n, (cutS z (some (hd.length : Int)) none).length ≤ 640 ∧ PySem.intText? (cutS z (some (hd.length : Int)) none) = some n ∧ kk (.int n))
    (h2 : cutS z none (some (hd.length : Int)) ≠ hd → M [.val (.str z), .val (.str hd)]) :
    gN 1 (.str hd) [.val (.str z), s1] fun ρ1 => (sIf (wTru (wOp dEq (wSl (wVar 0) wNoPart (wPart (wB rLenD (wCons (wVar 1) wNil)))) (wVar 1))) (sRet (wB rIntOf (wCons (wSl (wVar 0) (wPart (wB rLenD (wCons (wVar 1) wNil))) wNoPart) wNil))) sNext) ⟨M, fun d _ => kk d, bk, ct, rf⟩ ρ1 := by
  simp only [sSeq, sRet, sRetF, sRetN, sIf, sNext, sSet, sOwn, sOwnP, sPar, sExpr, sFldI, sBreak, sCont, sDPutD, sParFF, sParEF, sParFE, sParEFF, wIsi, wVar, wC, wOp, wUn, wB, wCons, wNil, wTup, wLst, wDct, wTru, wTruth, wNot, wAndT, wOrT, wAndV, wOrV, wNotV, wIfE, wChain, wCall, wCallP, wCallPF, wMake, wMakeE, wM, wSl, wPart, wNoPart, wMeth, wFldC, wFldS, wProp, wBor, wBorT, wAppend, wPopAt, wExtend, wDGet2, wLstRng, wFmt, wJoined, jCons, jNil, gN, gTupW, gCons', gNil', iL, iT, iS, iR1, iR2, iZp, iEn, dAdd, dSub, dMul, dMod, dFdiv, dPow, dLt, dLe, dGt, dGe, dNeg, dIs, dIsNot, rLenD, rTupOf, rLstOf, rMax2, rMin2, rAbs, rIntOf, rStrOf, rDivmod, startE, Ev.get, Ev.set, Ev.lend, Ev.noSlf, Slot.lend, Slot.noSlf, Slot.isL, Slot.isDK, Slot.isPurse, List.map, List.all, List.length_cons, List.length_nil, List.replicate, List.append, List.cons_append, List.nil_append, Nat.zero_add, Nat.reduceAdd, Nat.reduceSub, Nat.reduceLT, if_true, if_false, Bool.false_eq_true, Bool.not_true, Bool.not_false, dSl, dEq_str]
  refine ⟨hh, hz, ?_⟩
  by_cases q : cutS z none (some (hd.length : Int)) = hd
  · rw [decide_eq_true q]
    simp only [sSeq, sRet, sRetF, sRetN, sIf, sNext, sSet, sOwn, sOwnP, sPar, sExpr, sFldI, sBreak, sCont, sDPutD, sParFF, sParEF, sParFE, sParEFF, wIsi, wVar, wC, wOp, wUn, wB, wCons, wNil, wTup, wLst, wDct, wTru, wTruth, wNot, wAndT, wOrT, wAndV, wOrV, wNotV, wIfE, wChain, wCall, wCallP, wCallPF, wMake, wMakeE, wM, wSl, wPart, wNoPart, wMeth, wFldC, wFldS, wProp, wBor, wBorT, wAppend, wPopAt, wExtend, wDGet2, wLstRng, wFmt, wJoined, jCons, jNil, gN, gTupW, gCons', gNil', iL, iT, iS, iR1, iR2, iZp, iEn, dAdd, dSub, dMul, dMod, dFdiv, dPow, dLt, dLe, dGt, dGe, dNeg, dIs, dIsNot, rLenD, rTupOf, rLstOf, rMax2, rMin2, rAbs, rIntOf, rStrOf, rDivmod, startE, Ev.get, Ev.set, Ev.lend, Ev.noSlf, Slot.lend, Slot.noSlf, Slot.isL, Slot.isDK, Slot.isPurse, List.map, List.all, List.length_cons, List.length_nil, List.replicate, List.append, List.cons_append, List.nil_append, Nat.zero_add, Nat.reduceAdd, Nat.reduceSub, Nat.reduceLT, if_true, if_false, Bool.false_eq_true, Bool.not_true, Bool.not_false, dSl]
    obtain ⟨n, a, b, c⟩ := h1 q
    exact ⟨hh, hz, a, n, b, c⟩
  · rw [decide_eq_false q]
    simp only [sSeq, sRet, sRetF, sRetN, sIf, sNext, sSet, sOwn, sOwnP, sPar, sExpr, sFldI, sBreak, sCont, sDPutD, sParFF, sParEF, sParFE, sParEFF, wIsi, wVar, wC, wOp, wUn, wB, wCons, wNil, wTup, wLst, wDct, wTru, wTruth, wNot, wAndT, wOrT, wAndV, wOrV, wNotV, wIfE, wChain, wCall, wCallP, wCallPF, wMake, wMakeE, wM, wSl, wPart, wNoPart, wMeth, wFldC, wFldS, wProp, wBor, wBorT, wAppend, wPopAt, wExtend, wDGet2, wLstRng, wFmt, wJoined, jCons, jNil, gN, gTupW, gCons', gNil', iL, iT, iS, iR1, iR2, iZp, iEn, dAdd, dSub, dMul, dMod, dFdiv, dPow, dLt, dLe, dGt, dGe, dNeg, dIs, dIsNot, rLenD, rTupOf, rLstOf, rMax2, rMin2, rAbs, rIntOf, rStrOf, rDivmod, startE, Ev.get, Ev.set, Ev.lend, Ev.noSlf, Slot.lend, Slot.noSlf, Slot.isL, Slot.isDK, Slot.isPurse, List.map, List.all, List.length_cons, List.length_nil, List.replicate, List.append, List.cons_append, List.nil_append, Nat.zero_add, Nat.reduceAdd, Nat.reduceSub, Nat.reduceLT, if_true, if_false, Bool.false_eq_true, Bool.not_true, Bool.not_false]
    exact h2 q
theorem cut_ne {z hd : Str} (h : z.cps.toList.take hd.length ≠ hd.cps.toList) : cutS z none (some (hd.length : Int)) ≠ hd := fun e => h (by
  rw [← cut_to, e])
theorem head_ne {z hd : Str} {c d : Nat} {r s : List Nat} (hz : z.cps.toList = c :: r) (hh : hd.cps.toList = d :: s) (n : c ≠ d) : z.cps.toList.take hd.length ≠ hd.cps.toList := by
  rw [hz, hh, ← len_tl, hh, List.length_cons, List.take_succ_cons]
  intro e
  exact n (List.cons.inj e).1
theorem tl_all : (Str.ofString "all-").cps.toList = [97, 108, 108, 45] := by decide +kernel
theorem tl_mostm : (Str.ofString "most-").cps.toList = [109, 111, 115, 116, 45] := by decide +kernel
theorem tl_mostp : (Str.ofString "most+").cps.toList = [109, 111, 115, 116, 43] := by decide +kernel
theorem p__law_shift (ds : List D) (kk : D → Prop) (kx : XC) (h : c__law_shift ds kk kx) : (w__law_shift kx) { nx := fun _ => kk .non, rt := fun d _ => kk d } (startE 2 ds) := by
  obtain ⟨a, rfl, w, rfl, hw, h⟩ := h
  have hlen := wtext_len hw
  have big : (100 : Nat) ≤ sizeLine := by rw [sizeLine_eq]; decide
  unfold w__law_shift
  refine sSeq_gen fun M hM => ?_
  simp only [sFor, sSeq, sRet, sRetF, sRetN, sIf, sNext, sSet, sOwn, sOwnP, sPar, sExpr, sFldI, sBreak, sCont, sDPutD, sParFF, sParEF, sParFE, sParEFF, wIsi, wVar, wC, wOp, wUn, wB, wCons, wNil, wTup, wLst, wDct, wTru, wTruth, wNot, wAndT, wOrT, wAndV, wOrV, wNotV, wIfE, wChain, wCall, wCallP, wCallPF, wMake, wMakeE, wM, wSl, wPart, wNoPart, wMeth, wFldC, wFldS, wProp, wBor, wBorT, wAppend, wPopAt, wExtend, wDGet2, wLstRng, wFmt, wJoined, jCons, jNil, gN, gTupW, gCons', gNil', iL, iT, iS, iR1, iR2, iZp, iEn, dAdd, dSub, dMul, dMod, dFdiv, dPow, dLt, dLe, dGt, dGe, dNeg, dIs, dIsNot, rLenD, rTupOf, rLstOf, rMax2, rMin2, rAbs, rIntOf, rStrOf, rDivmod, startE, Ev.get, Ev.set, Ev.lend, Ev.noSlf, Slot.lend, Slot.noSlf, Slot.isL, Slot.isDK, Slot.isPurse, List.map, List.all, List.length_cons, List.length_nil, List.replicate, List.append, List.cons_append, List.nil_append, Nat.zero_add, Nat.reduceAdd, Nat.reduceSub, Nat.reduceLT, if_true, if_false, Bool.false_eq_true, Bool.not_true, Bool.not_false]
  refine ⟨by decide +kernel, ?_⟩
  have z4 := hl4
  have z5 := hl5
  have z6 := hl6
  have last : ∀ {z : Str} {s1 : Slot}, z = wtext w → (z = "all" ∨ z = "most" → kk (.int 0)) → (¬ (z = "all" ∨ z = "most") → ∃ n, PySem.intText? z = some n ∧ kk (.int n)) → M [.val (.str z), s1] := fun {z s1} e k1 k2 => by
    refine hM _ ?_
    simp only [sSeq, sRet, sRetF, sRetN, sIf, sNext, sSet, sOwn, sOwnP, sPar, sExpr, sFldI, sBreak, sCont, sDPutD, sParFF, sParEF, sParFE, sParEFF, wIsi, wVar, wC, wOp, wUn, wB, wCons, wNil, wTup, wLst, wDct, wTru, wTruth, wNot, wAndT, wOrT, wAndV, wOrV, wNotV, wIfE, wChain, wCall, wCallP, wCallPF, wMake, wMakeE, wM, wSl, wPart, wNoPart, wMeth, wFldC, wFldS, wProp, wBor, wBorT, wAppend, wPopAt, wExtend, wDGet2, wLstRng, wFmt, wJoined, jCons, jNil, gN, gTupW, gCons', gNil', iL, iT, iS, iR1, iR2, iZp, iEn, dAdd, dSub, dMul, dMod, dFdiv, dPow, dLt, dLe, dGt, dGe, dNeg, dIs, dIsNot, rLenD, rTupOf, rLstOf, rMax2, rMin2, rAbs, rIntOf, rStrOf, rDivmod, startE, Ev.get, Ev.set, Ev.lend, Ev.noSlf, Slot.lend, Slot.noSlf, Slot.isL, Slot.isDK, Slot.isPurse, List.map, List.all, List.length_cons, List.length_nil, List.replicate, List.append, List.cons_append, List.nil_append, Nat.zero_add, Nat.reduceAdd, Nat.reduceSub, Nat.reduceLT, if_true, if_false, Bool.false_eq_true, Bool.not_true, Bool.not_false]
    refine ⟨by decide +kernel, ?_⟩
    have ei : inK (D.str z) [.str "all", .str "most"] = some (decide (z ∈ ([("all" : Str), "most"] : List Str))) := inK_strs (names := [("all" : Str), "most"])
    simp only [dIn, ei]
    by_cases q : z = "all" ∨ z = "most"
    · rw [decide_eq_true (by simpa using q)]
      simp only [sSeq, sRet, sRetF, sRetN, sIf, sNext, sSet, sOwn, sOwnP, sPar, sExpr, sFldI, sBreak, sCont, sDPutD, sParFF, sParEF, sParFE, sParEFF, wIsi, wVar, wC, wOp, wUn, wB, wCons, wNil, wTup, wLst, wDct, wTru, wTruth, wNot, wAndT, wOrT, wAndV, wOrV, wNotV, wIfE, wChain, wCall, wCallP, wCallPF, wMake, wMakeE, wM, wSl, wPart, wNoPart, wMeth, wFldC, wFldS, wProp, wBor, wBorT, wAppend, wPopAt, wExtend, wDGet2, wLstRng, wFmt, wJoined, jCons, jNil, gN, gTupW, gCons', gNil', iL, iT, iS, iR1, iR2, iZp, iEn, dAdd, dSub, dMul, dMod, dFdiv, dPow, dLt, dLe, dGt, dGe, dNeg, dIs, dIsNot, rLenD, rTupOf, rLstOf, rMax2, rMin2, rAbs, rIntOf, rStrOf, rDivmod, startE, Ev.get, Ev.set, Ev.lend, Ev.noSlf, Slot.lend, Slot.noSlf, Slot.isL, Slot.isDK, Slot.isPurse, List.map, List.all, List.length_cons, List.length_nil, List.replicate, List.append, List.cons_append, List.nil_append, Nat.zero_add, Nat.reduceAdd, Nat.reduceSub, Nat.reduceLT, if_true, if_false, Bool.false_eq_true, Bool.not_true, Bool.not_false]
      exact k1 q
    · rw [decide_eq_false (by simpa using q)]
      simp only [sSeq, sRet, sRetF, sRetN, sIf, sNext, sSet, sOwn, sOwnP, sPar, sExpr, sFldI, sBreak, sCont, sDPutD, sParFF, sParEF, sParFE, sParEFF, wIsi, wVar, wC, wOp, wUn, wB, wCons, wNil, wTup, wLst, wDct, wTru, wTruth, wNot, wAndT, wOrT, wAndV, wOrV, wNotV, wIfE, wChain, wCall, wCallP, wCallPF, wMake, wMakeE, wM, wSl, wPart, wNoPart, wMeth, wFldC, wFldS, wProp, wBor, wBorT, wAppend, wPopAt, wExtend, wDGet2, wLstRng, wFmt, wJoined, jCons, jNil, gN, gTupW, gCons', gNil', iL, iT, iS, iR1, iR2, iZp, iEn, dAdd, dSub, dMul, dMod, dFdiv, dPow, dLt, dLe, dGt, dGe, dNeg, dIs, dIsNot, rLenD, rTupOf, rLstOf, rMax2, rMin2, rAbs, rIntOf, rStrOf, rDivmod, startE, Ev.get, Ev.set, Ev.lend, Ev.noSlf, Slot.lend, Slot.noSlf, Slot.isL, Slot.isDK, Slot.isPurse, List.map, List.all, List.length_cons, List.length_nil, List.replicate, List.append, List.cons_append, List.nil_append, Nat.zero_add, Nat.reduceAdd, Nat.reduceSub, Nat.reduceLT, if_true, if_false, Bool.false_eq_true, Bool.not_true, Bool.not_false]
      obtain ⟨n, a, b⟩ := k2 q
      exact ⟨by rw [e]; omega, n, a, b⟩
  have num : ∀ n : Int, 1 ≤ n → n ≤ 1000000000000 → ∀ y : Str, (cutS (y ++ numS n) (some (y.length : Int)) none).length ≤ 640 ∧ PySem.intText? (cutS (y ++ numS n) (some (y.length : Int)) none) = some n := fun n n0 n1 y => by
    rw [cut_rest]
    have := numS_len (n := n) (by omega) n1
    exact ⟨by omega, numS_int (by omega) n1⟩
  have na : ∀ n : Int, 1 ≤ n → ((-n).natAbs : Int) = n := fun n h => by omega
  have nb : ∀ n : Int, 1 ≤ n → (n.natAbs : Int) = n := fun n h => by omega
  rcases wform hw with ⟨n, n0, n1, ew, e⟩ | ⟨ew, e⟩ | ⟨n, n0, n1, ew, e⟩ | ⟨ew, e⟩ | ⟨n, n0, n1, ew, e⟩ | ⟨n, n0, n1, ew, e⟩
  · rw [e] at hlen ⊢
    obtain ⟨c, r, ec, c0, c1⟩ := numS_head (n := n) (by omega)
    refine forL_gen fun M1 hM1 => shift_turn (by omega) (by omega) (fun q => absurd q (cut_ne (head_ne ec tl_all (by omega)))) fun _ => hM1 _ ?_
    refine forL_gen fun M2 hM2 => shift_turn (by omega) (by omega) (fun q => absurd q (cut_ne (head_ne ec tl_mostm (by omega)))) fun _ => hM2 _ ?_
    refine forL_gen fun M3 hM3 => shift_turn (by omega) (by omega) (fun q => absurd q (cut_ne (head_ne ec tl_mostp (by omega)))) fun _ => hM3 _ ?_
    refine last e.symm (fun q => ?_) fun _ => ⟨n, numS_int (by omega) n1, ?_⟩
    · rcases q with q | q
      · rw [q] at ec
        have : (Str.ofString "all").cps.toList = [97, 108, 108] := by decide +kernel
        rw [this] at ec
        have := (List.cons.inj ec).1
        omega
      · rw [q] at ec
        have : (Str.ofString "most").cps.toList = [109, 111, 115, 116] := by decide +kernel
        rw [this] at ec
        have := (List.cons.inj ec).1
        omega
    · rw [ew] at h
      have h : kk (.int (n.natAbs : Int)) := h
      rw [nb n n0] at h
      exact h
  · rw [e] at hlen ⊢
    refine forL_gen fun M1 hM1 => shift_turn (by omega) (by omega) (fun q => absurd q (by decide +kernel)) fun _ => hM1 _ ?_
    refine forL_gen fun M2 hM2 => shift_turn (by omega) (by omega) (fun q => absurd q (by decide +kernel)) fun _ => hM2 _ ?_
    refine forL_gen fun M3 hM3 => shift_turn (by omega) (by omega) (fun q => absurd q (by decide +kernel)) fun _ => hM3 _ ?_
    refine last e.symm (fun _ => ?_) fun q => absurd (.inl rfl) q
    rw [ew] at h
    exact h
  · rw [e] at hlen ⊢
    refine forL_gen fun M1 hM1 => shift_turn (by omega) (by omega) (fun q => ⟨n, (num n n0 n1 _).1, (num n n0 n1 _).2, ?_⟩) fun q => absurd (cut_app _ _) q
    rw [ew] at h
    have h : kk (.int ((-n).natAbs : Int)) := h
    rw [na n n0] at h
    exact h
  · rw [e] at hlen ⊢
    refine forL_gen fun M1 hM1 => shift_turn (by omega) (by omega) (fun q => absurd q (by decide +kernel)) fun _ => hM1 _ ?_
    refine forL_gen fun M2 hM2 => shift_turn (by omega) (by omega) (fun q => absurd q (by decide +kernel)) fun _ => hM2 _ ?_
    refine forL_gen fun M3 hM3 => shift_turn (by omega) (by omega) (fun q => absurd q (by decide +kernel)) fun _ => hM3 _ ?_
    refine last e.symm (fun _ => ?_) fun q => absurd (.inr rfl) q
    rw [ew] at h
    exact h
  · rw [e] at hlen ⊢
    have et : ((Str.ofString "most+") ++ numS n).cps.toList = [109, 111, 115, 116, 43] ++ (numS n).cps.toList := by rw [← tl_mostp]; exact TL.tl_append _ _
    refine forL_gen fun M1 hM1 => shift_turn (by omega) (by omega) (fun q => absurd q (cut_ne (head_ne (by rw [et]; rfl) tl_all (by decide)))) fun _ => hM1 _ ?_
    refine forL_gen fun M2 hM2 => shift_turn (by omega) (by omega) (fun q => absurd q (cut_ne (by rw [et, tl_mostm, hl5]; intro z; simp at z))) fun _ => hM2 _ ?_
    refine forL_gen fun M3 hM3 => shift_turn (by omega) (by omega) (fun q => ⟨n, (num n n0 n1 _).1, (num n n0 n1 _).2, ?_⟩) fun q => absurd (cut_app _ _) q
    rw [ew] at h
    have h : kk (.int (n.natAbs : Int)) := h
    rw [nb n n0] at h
    exact h
  · rw [e] at hlen ⊢
    have et : ((Str.ofString "most-") ++ numS n).cps.toList = [109, 111, 115, 116, 45] ++ (numS n).cps.toList := by rw [← tl_mostm]; exact TL.tl_append _ _
    refine forL_gen fun M1 hM1 => shift_turn (by omega) (by omega) (fun q => absurd q (cut_ne (head_ne (by rw [et]; rfl) tl_all (by decide)))) fun _ => hM1 _ ?_
    refine forL_gen fun M2 hM2 => shift_turn (by omega) (by omega) (fun q => ⟨n, (num n n0 n1 _).1, (num n n0 n1 _).2, ?_⟩) fun q => absurd (cut_app _ _) q
    rw [ew] at h
    have h : kk (.int ((-n).natAbs : Int)) := h
    rw [na n n0] at h
    exact h
end W
set_option Elab.async false
set_option linter.all false
set_option maxRecDepth 100000
set_option maxHeartbeats 4000000
namespace W
open PySem PySem.Spec PyProof.Rows L2 Q
theorem n__law_number {ds : List D} {kk : D → Prop} {kx : XC} (h : c__law_number ds kk kx) : ds.length = 2 := by
  obtain ⟨a, b, rfl, _⟩ := h; rfl
theorem cut_mid (z : Str) (a b : Nat) (h : a ≤ b) : (cutS z (some (a : Int)) (some (b : Int))).cps.toList = (z.cps.toList.drop a).take (b - a) := by
  show (List.toArray _).toList = _
  rw [List.toList_toArray]
  rw [HT.sIx_nat, HT.sIx_nat]
  rw [← len_tl]
  by_cases q : a ≤ z.cps.toList.length
  · rw [Nat.min_eq_left q]
    by_cases q2 : b ≤ z.cps.toList.length
    · rw [Nat.min_eq_left q2]
    · rw [Nat.min_eq_right (by omega), List.take_of_length_le (by rw [List.length_drop]; omega), List.take_of_length_le (by rw [List.length_drop]; omega)]
  · rw [Nat.min_eq_right (show z.cps.toList.length ≤ a by omega), List.drop_length, List.drop_of_length_le (show z.cps.toList.length ≤ a by omega), List.take_nil, List.take_nil]
theorem tl_a : (Str.ofString "all").cps.toList = [97, 108, 108] := by decide +kernel
theorem tl_m : (Str.ofString "most").cps.toList = [109, 111, 115, 116] := by decide +kernel
theorem p__law_number (ds : List D) (kk : D → Prop) (kx : XC) (h : c__law_number ds kk kx) : (w__law_number kx) { nx := fun _ => kk .non, rt := fun d _ => kk d } (startE 4 ds) := by
  obtain ⟨a, b, rfl, w, z, rfl, hw, rfl, hz, h⟩ := h
  have hlen := wtext_len hw
  have big : (100 : Nat) ≤ sizeLine := by rw [sizeLine_eq]; decide
  have z1 : ¬ ("all" : Str) = "number" := by decide +kernel
  have z2 : ¬ ("most" : Str) = "number" := by decide +kernel
  have z3 : ¬ ("most" : Str) = "all" := by decide +kernel
  unfold w__law_number
  refine sSeq_gen fun M hM => ?_
  simp only [sSeq, sRet, sRetF, sRetN, sIf, sNext, sSet, sOwn, sOwnP, sPar, sExpr, sFldI, sBreak, sCont, sDPutD, sParFF, sParEF, sParFE, sParEFF, wIsi, wVar, wC, wOp, wUn, wB, wCons, wNil, wTup, wLst, wDct, wTru, wTruth, wNot, wAndT, wOrT, wAndV, wOrV, wNotV, wIfE, wChain, wCall, wCallP, wCallPF, wMake, wMakeE, wM, wSl, wPart, wNoPart, wMeth, wFldC, wFldS, wProp, wBor, wBorT, wAppend, wPopAt, wExtend, wDGet2, wLstRng, wFmt, wJoined, jCons, jNil, gN, gTupW, gCons', gNil', iL, iT, iS, iR1, iR2, iZp, iEn, dAdd, dSub, dMul, dMod, dFdiv, dPow, dLt, dLe, dGt, dGe, dNeg, dIs, dIsNot, rLenD, rTupOf, rLstOf, rMax2, rMin2, rAbs, rIntOf, rStrOf, rDivmod, startE, Ev.get, Ev.set, Ev.lend, Ev.noSlf, Slot.lend, Slot.noSlf, Slot.isL, Slot.isDK, Slot.isPurse, List.map, List.all, List.length_cons, List.length_nil, List.replicate, List.append, List.cons_append, List.nil_append, Nat.zero_add, Nat.reduceAdd, Nat.reduceSub, Nat.reduceLT, if_true, if_false, Bool.false_eq_true, Bool.not_true, Bool.not_false]
  refine ⟨_, rfl, w, rfl, hw, ⟨by decide, by decide⟩, hM _ (sSeq_gen fun M1 hM1 => ?_)⟩
  simp only [sSeq, sRet, sRetF, sRetN, sIf, sNext, sSet, sOwn, sOwnP, sPar, sExpr, sFldI, sBreak, sCont, sDPutD, sParFF, sParEF, sParFE, sParEFF, wIsi, wVar, wC, wOp, wUn, wB, wCons, wNil, wTup, wLst, wDct, wTru, wTruth, wNot, wAndT, wOrT, wAndV, wOrV, wNotV, wIfE, wChain, wCall, wCallP, wCallPF, wMake, wMakeE, wM, wSl, wPart, wNoPart, wMeth, wFldC, wFldS, wProp, wBor, wBorT, wAppend, wPopAt, wExtend, wDGet2, wLstRng, wFmt, wJoined, jCons, jNil, gN, gTupW, gCons', gNil', iL, iT, iS, iR1, iR2, iZp, iEn, dAdd, dSub, dMul, dMod, dFdiv, dPow, dLt, dLe, dGt, dGe, dNeg, dIs, dIsNot, rLenD, rTupOf, rLstOf, rMax2, rMin2, rAbs, rIntOf, rStrOf, rDivmod, startE, Ev.get, Ev.set, Ev.lend, Ev.noSlf, Slot.lend, Slot.noSlf, Slot.isL, Slot.isDK, Slot.isPurse, List.map, List.all, List.length_cons, List.length_nil, List.replicate, List.append, List.cons_append, List.nil_append, Nat.zero_add, Nat.reduceAdd, Nat.reduceSub, Nat.reduceLT, if_true, if_false, Bool.false_eq_true, Bool.not_true, Bool.not_false, dSl, dEq_str]
  refine ⟨by omega, ?_⟩
  have c3 : ((3 : Int)) = ((3 : Nat) : Int) := rfl
  have c4 : ((4 : Int)) = ((4 : Nat) : Int) := rfl
  have c5 : ((5 : Int)) = ((5 : Nat) : Int) := rfl
  -- the two tests, by the signs
  have t1 : cutS (wtext w) none (some 3) = "all" ↔ (wtext w).cps.toList.take 3 = [97, 108, 108] := by
    constructor
    · intro e; rw [← cut_to, ← c3, e]; exact tl_a
    · intro e; exact str_ext (by rw [c3, cut_to, e]; exact tl_a.symm)
  have t2 : cutS (wtext w) none (some 4) = "most" ↔ (wtext w).cps.toList.take 4 = [109, 111, 115, 116] := by
    constructor
    · intro e; rw [← cut_to, ← c4, e]; exact tl_m
    · intro e; exact str_ext (by rw [c4, cut_to, e]; exact tl_m.symm)
  have tp : (Str.ofString "+").cps.toList = [43] := by decide +kernel
  have t3 : cutS (wtext w) (some 4) (some 5) = "+" ↔ ((wtext w).cps.toList.drop 4).take 1 = [43] := by
    constructor
    · intro e
      have := cut_mid (wtext w) 4 5 (by decide)
      rw [← c4, ← c5, e] at this
      rw [← tp]; exact this.symm
    · intro e; exact str_ext (by rw [c4, c5, cut_mid _ _ _ (by decide), tp]; exact e)
  have isAll : (wtext w).cps.toList.take 3 = [97, 108, 108] → w.1 = "all" → w.2 ≤ 0 → (if decide (cutS (wtext w) none (some 3) = "all") = true then kk (.int (if z - (w.2.natAbs : Int) > 0 then z - (w.2.natAbs : Int) else 0)) else M1 [.val (.str (wtext w)), .val (.int z), .val (.int (w.2.natAbs : Int)), .val (.int (z / 2 + 1))]) := fun e ea h2 => by
    rw [decide_eq_true (t1.mpr e), if_pos rfl]
    have e2 : numW w z = if z - (w.2.natAbs : Int) > 0 then z - (w.2.natAbs : Int) else 0 := by
      unfold numW
      rw [ea, if_neg z1, if_pos rfl]
      have : z + w.2 = z - (w.2.natAbs : Int) := by omega
      rw [this]
    rw [← e2]
    exact h
  have most : (wtext w).cps.toList.take 4 = [109, 111, 115, 116] → w.1 = "most" → ((((wtext w).cps.toList.drop 4).take 1 = [43] ∧ 0 ≤ w.2) ∨ (((wtext w).cps.toList.drop 4).take 1 ≠ [43] ∧ w.2 ≤ 0)) → M1 [.val (.str (wtext w)), .val (.int z), .val (.int (w.2.natAbs : Int)), .val (.int (z / 2 + 1))] := fun e ea hs => by
    refine hM1 _ (sSeq_gen fun M2 hM2 => ?_)
    simp only [sSeq, sRet, sRetF, sRetN, sIf, sNext, sSet, sOwn, sOwnP, sPar, sExpr, sFldI, sBreak, sCont, sDPutD, sParFF, sParEF, sParFE, sParEFF, wIsi, wVar, wC, wOp, wUn, wB, wCons, wNil, wTup, wLst, wDct, wTru, wTruth, wNot, wAndT, wOrT, wAndV, wOrV, wNotV, wIfE, wChain, wCall, wCallP, wCallPF, wMake, wMakeE, wM, wSl, wPart, wNoPart, wMeth, wFldC, wFldS, wProp, wBor, wBorT, wAppend, wPopAt, wExtend, wDGet2, wLstRng, wFmt, wJoined, jCons, jNil, gN, gTupW, gCons', gNil', iL, iT, iS, iR1, iR2, iZp, iEn, dAdd, dSub, dMul, dMod, dFdiv, dPow, dLt, dLe, dGt, dGe, dNeg, dIs, dIsNot, rLenD, rTupOf, rLstOf, rMax2, rMin2, rAbs, rIntOf, rStrOf, rDivmod, startE, Ev.get, Ev.set, Ev.lend, Ev.noSlf, Slot.lend, Slot.noSlf, Slot.isL, Slot.isDK, Slot.isPurse, List.map, List.all, List.length_cons, List.length_nil, List.replicate, List.append, List.cons_append, List.nil_append, Nat.zero_add, Nat.reduceAdd, Nat.reduceSub, Nat.reduceLT, if_true, if_false, Bool.false_eq_true, Bool.not_true, Bool.not_false, dSl, dEq_str]
    refine ⟨by omega, ?_⟩
    rw [decide_eq_true (t2.mpr e)]
    simp only [sSeq, sRet, sRetF, sRetN, sIf, sNext, sSet, sOwn, sOwnP, sPar, sExpr, sFldI, sBreak, sCont, sDPutD, sParFF, sParEF, sParFE, sParEFF, wIsi, wVar, wC, wOp, wUn, wB, wCons, wNil, wTup, wLst, wDct, wTru, wTruth, wNot, wAndT, wOrT, wAndV, wOrV, wNotV, wIfE, wChain, wCall, wCallP, wCallPF, wMake, wMakeE, wM, wSl, wPart, wNoPart, wMeth, wFldC, wFldS, wProp, wBor, wBorT, wAppend, wPopAt, wExtend, wDGet2, wLstRng, wFmt, wJoined, jCons, jNil, gN, gTupW, gCons', gNil', iL, iT, iS, iR1, iR2, iZp, iEn, dAdd, dSub, dMul, dMod, dFdiv, dPow, dLt, dLe, dGt, dGe, dNeg, dIs, dIsNot, rLenD, rTupOf, rLstOf, rMax2, rMin2, rAbs, rIntOf, rStrOf, rDivmod, startE, Ev.get, Ev.set, Ev.lend, Ev.noSlf, Slot.lend, Slot.noSlf, Slot.isL, Slot.isDK, Slot.isPurse, List.map, List.all, List.length_cons, List.length_nil, List.replicate, List.append, List.cons_append, List.nil_append, Nat.zero_add, Nat.reduceAdd, Nat.reduceSub, Nat.reduceLT, if_true, if_false, Bool.false_eq_true, Bool.not_true, Bool.not_false, dSl, dEq_str]
    refine ⟨by omega, ?_⟩
    rcases hs with ⟨h1, h2⟩ | ⟨h1, h2⟩
    · rw [decide_eq_true (t3.mpr h1)]
      simp only [sSeq, sRet, sRetF, sRetN, sIf, sNext, sSet, sOwn, sOwnP, sPar, sExpr, sFldI, sBreak, sCont, sDPutD, sParFF, sParEF, sParFE, sParEFF, wIsi, wVar, wC, wOp, wUn, wB, wCons, wNil, wTup, wLst, wDct, wTru, wTruth, wNot, wAndT, wOrT, wAndV, wOrV, wNotV, wIfE, wChain, wCall, wCallP, wCallPF, wMake, wMakeE, wM, wSl, wPart, wNoPart, wMeth, wFldC, wFldS, wProp, wBor, wBorT, wAppend, wPopAt, wExtend, wDGet2, wLstRng, wFmt, wJoined, jCons, jNil, gN, gTupW, gCons', gNil', iL, iT, iS, iR1, iR2, iZp, iEn, dAdd, dSub, dMul, dMod, dFdiv, dPow, dLt, dLe, dGt, dGe, dNeg, dIs, dIsNot, rLenD, rTupOf, rLstOf, rMax2, rMin2, rAbs, rIntOf, rStrOf, rDivmod, startE, Ev.get, Ev.set, Ev.lend, Ev.noSlf, Slot.lend, Slot.noSlf, Slot.isL, Slot.isDK, Slot.isPurse, List.map, List.all, List.length_cons, List.length_nil, List.replicate, List.append, List.cons_append, List.nil_append, Nat.zero_add, Nat.reduceAdd, Nat.reduceSub, Nat.reduceLT, if_true, if_false, Bool.false_eq_true, Bool.not_true, Bool.not_false]
      have e2 : numW w z = z / 2 + 1 + (w.2.natAbs : Int) := by
        unfold numW
        rw [ea, if_neg z2, if_neg z3, if_pos (by omega)]
        omega
      rw [← e2]
      exact h
    · rw [decide_eq_false (fun q => h1 (t3.mp q))]
      simp only [sSeq, sRet, sRetF, sRetN, sIf, sNext, sSet, sOwn, sOwnP, sPar, sExpr, sFldI, sBreak, sCont, sDPutD, sParFF, sParEF, sParFE, sParEFF, wIsi, wVar, wC, wOp, wUn, wB, wCons, wNil, wTup, wLst, wDct, wTru, wTruth, wNot, wAndT, wOrT, wAndV, wOrV, wNotV, wIfE, wChain, wCall, wCallP, wCallPF, wMake, wMakeE, wM, wSl, wPart, wNoPart, wMeth, wFldC, wFldS, wProp, wBor, wBorT, wAppend, wPopAt, wExtend, wDGet2, wLstRng, wFmt, wJoined, jCons, jNil, gN, gTupW, gCons', gNil', iL, iT, iS, iR1, iR2, iZp, iEn, dAdd, dSub, dMul, dMod, dFdiv, dPow, dLt, dLe, dGt, dGe, dNeg, dIs, dIsNot, rLenD, rTupOf, rLstOf, rMax2, rMin2, rAbs, rIntOf, rStrOf, rDivmod, startE, Ev.get, Ev.set, Ev.lend, Ev.noSlf, Slot.lend, Slot.noSlf, Slot.isL, Slot.isDK, Slot.isPurse, List.map, List.all, List.length_cons, List.length_nil, List.replicate, List.append, List.cons_append, List.nil_append, Nat.zero_add, Nat.reduceAdd, Nat.reduceSub, Nat.reduceLT, if_true, if_false, Bool.false_eq_true, Bool.not_true, Bool.not_false]
      have e2 : numW w z = if z / 2 + 1 - (w.2.natAbs : Int) > 0 then z / 2 + 1 - (w.2.natAbs : Int) else 0 := by
        unfold numW
        rw [ea, if_neg z2, if_neg z3]
        have : z / 2 + 1 + w.2 = z / 2 + 1 - (w.2.natAbs : Int) := by omega
        rw [this]
      rw [← e2]
      exact h
  have skip : (wtext w).cps.toList.take 3 ≠ [97, 108, 108] → M1 [.val (.str (wtext w)), .val (.int z), .val (.int (w.2.natAbs : Int)), .val (.int (z / 2 + 1))] → (if decide (cutS (wtext w) none (some 3) = "all") = true then kk (.int (if z - (w.2.natAbs : Int) > 0 then z - (w.2.natAbs : Int) else 0)) else M1 [.val (.str (wtext w)), .val (.int z), .val (.int (w.2.natAbs : Int)), .val (.int (z / 2 + 1))]) := fun e m => by
    rw [decide_eq_false (fun q => e (t1.mp q)), if_neg Bool.false_ne_true]
    exact m
  have tapp : ∀ (x : Str) (n : Int), (x ++ numS n).cps.toList = x.cps.toList ++ (numS n).cps.toList := fun x n => TL.tl_append _ _
  rcases wform hw with ⟨n, n0, n1, ew, e⟩ | ⟨ew, e⟩ | ⟨n, n0, n1, ew, e⟩ | ⟨ew, e⟩ | ⟨n, n0, n1, ew, e⟩ | ⟨n, n0, n1, ew, e⟩
  · obtain ⟨c, r, ec, c0, c1⟩ := numS_head (n := n) (by omega)
    have ec : (wtext w).cps.toList = c :: r := by rw [e]; exact ec
    refine skip (by rw [ec, List.take_succ_cons]; intro q; have := (List.cons.inj q).1; omega) (hM1 _ (sSeq_gen fun M2 hM2 => ?_))
    simp only [sSeq, sRet, sRetF, sRetN, sIf, sNext, sSet, sOwn, sOwnP, sPar, sExpr, sFldI, sBreak, sCont, sDPutD, sParFF, sParEF, sParFE, sParEFF, wIsi, wVar, wC, wOp, wUn, wB, wCons, wNil, wTup, wLst, wDct, wTru, wTruth, wNot, wAndT, wOrT, wAndV, wOrV, wNotV, wIfE, wChain, wCall, wCallP, wCallPF, wMake, wMakeE, wM, wSl, wPart, wNoPart, wMeth, wFldC, wFldS, wProp, wBor, wBorT, wAppend, wPopAt, wExtend, wDGet2, wLstRng, wFmt, wJoined, jCons, jNil, gN, gTupW, gCons', gNil', iL, iT, iS, iR1, iR2, iZp, iEn, dAdd, dSub, dMul, dMod, dFdiv, dPow, dLt, dLe, dGt, dGe, dNeg, dIs, dIsNot, rLenD, rTupOf, rLstOf, rMax2, rMin2, rAbs, rIntOf, rStrOf, rDivmod, startE, Ev.get, Ev.set, Ev.lend, Ev.noSlf, Slot.lend, Slot.noSlf, Slot.isL, Slot.isDK, Slot.isPurse, List.map, List.all, List.length_cons, List.length_nil, List.replicate, List.append, List.cons_append, List.nil_append, Nat.zero_add, Nat.reduceAdd, Nat.reduceSub, Nat.reduceLT, if_true, if_false, Bool.false_eq_true, Bool.not_true, Bool.not_false, dSl, dEq_str]
    refine ⟨by omega, ?_⟩
    rw [decide_eq_false (fun q => by
      have q := t2.mp q
      rw [ec, List.take_succ_cons] at q
      have := (List.cons.inj q).1
      omega)]
    simp only [sSeq, sRet, sRetF, sRetN, sIf, sNext, sSet, sOwn, sOwnP, sPar, sExpr, sFldI, sBreak, sCont, sDPutD, sParFF, sParEF, sParFE, sParEFF, wIsi, wVar, wC, wOp, wUn, wB, wCons, wNil, wTup, wLst, wDct, wTru, wTruth, wNot, wAndT, wOrT, wAndV, wOrV, wNotV, wIfE, wChain, wCall, wCallP, wCallPF, wMake, wMakeE, wM, wSl, wPart, wNoPart, wMeth, wFldC, wFldS, wProp, wBor, wBorT, wAppend, wPopAt, wExtend, wDGet2, wLstRng, wFmt, wJoined, jCons, jNil, gN, gTupW, gCons', gNil', iL, iT, iS, iR1, iR2, iZp, iEn, dAdd, dSub, dMul, dMod, dFdiv, dPow, dLt, dLe, dGt, dGe, dNeg, dIs, dIsNot, rLenD, rTupOf, rLstOf, rMax2, rMin2, rAbs, rIntOf, rStrOf, rDivmod, startE, Ev.get, Ev.set, Ev.lend, Ev.noSlf, Slot.lend, Slot.noSlf, Slot.isL, Slot.isDK, Slot.isPurse, List.map, List.all, List.length_cons, List.length_nil, List.replicate, List.append, List.cons_append, List.nil_append, Nat.zero_add, Nat.reduceAdd, Nat.reduceSub, Nat.reduceLT, if_true, if_false, Bool.false_eq_true, Bool.not_true, Bool.not_false]
    refine hM2 _ ?_
    simp only [sSeq, sRet, sRetF, sRetN, sIf, sNext, sSet, sOwn, sOwnP, sPar, sExpr, sFldI, sBreak, sCont, sDPutD, sParFF, sParEF, sParFE, sParEFF, wIsi, wVar, wC, wOp, wUn, wB, wCons, wNil, wTup, wLst, wDct, wTru, wTruth, wNot, wAndT, wOrT, wAndV, wOrV, wNotV, wIfE, wChain, wCall, wCallP, wCallPF, wMake, wMakeE, wM, wSl, wPart, wNoPart, wMeth, wFldC, wFldS, wProp, wBor, wBorT, wAppend, wPopAt, wExtend, wDGet2, wLstRng, wFmt, wJoined, jCons, jNil, gN, gTupW, gCons', gNil', iL, iT, iS, iR1, iR2, iZp, iEn, dAdd, dSub, dMul, dMod, dFdiv, dPow, dLt, dLe, dGt, dGe, dNeg, dIs, dIsNot, rLenD, rTupOf, rLstOf, rMax2, rMin2, rAbs, rIntOf, rStrOf, rDivmod, startE, Ev.get, Ev.set, Ev.lend, Ev.noSlf, Slot.lend, Slot.noSlf, Slot.isL, Slot.isDK, Slot.isPurse, List.map, List.all, List.length_cons, List.length_nil, List.replicate, List.append, List.cons_append, List.nil_append, Nat.zero_add, Nat.reduceAdd, Nat.reduceSub, Nat.reduceLT, if_true, if_false, Bool.false_eq_true, Bool.not_true, Bool.not_false]
    have e2 : numW w z = (w.2.natAbs : Int) := by
      rw [ew]
      show n = (n.natAbs : Int)
      omega
    rw [← e2]
    exact h
  · exact isAll (by rw [e, tl_a]; rfl) (by rw [ew]) (by rw [ew]; decide)
  · exact isAll (by rw [e, tapp, tl_all]; rfl) (by rw [ew]) (by rw [ew]; show -n ≤ 0; omega)
  · exact skip (by rw [e, tl_m]; decide) (most (by rw [e, tl_m]; rfl) (by rw [ew]) (.inr ⟨by rw [e, tl_m]; decide, by rw [ew]; decide⟩))
  · exact skip (by rw [e, tapp, tl_mostp]; simp) (most (by rw [e, tapp, tl_mostp]; rfl) (by rw [ew]) (.inl ⟨by rw [e, tapp, tl_mostp]; rfl, by rw [ew]; show 0 ≤ n; omega⟩))
  · exact skip (by rw [e, tapp, tl_mostm]; simp) (most (by rw [e, tapp, tl_mostm]; rfl) (by rw [ew]) (.inr ⟨by rw [e, tapp, tl_mostm]; simp, by rw [ew]; show -n ≤ 0; omega⟩))
theorem n__law_part {ds : List D} {kk : D → Prop} {kx : XC} (h : c__law_part ds kk kx) : ds.length + 1 = 2 := by
  obtain ⟨a, rfl, _⟩ := h; rfl
theorem p__law_part (ds : List D) (kk : D → Prop) (h : c__law_part ds kk no) : w__law_part { nx := fun ρ => ρ.get 0 = .purse ∧ kk .non, rt := fun d ρ => ρ.get 0 = .purse ∧ kk d } (.purse :: startE 2 ds) := by
  obtain ⟨a, rfl, m, rfl, m0, h⟩ := h
  unfold w__law_part
  refine sSeq_gen fun M hM => ?_
  simp only [sSeq, sRet, sRetF, sRetN, sIf, sNext, sSet, sOwn, sOwnP, sPar, sExpr, sFldI, sBreak, sCont, sDPutD, sParFF, sParEF, sParFE, sParEFF, wIsi, wVar, wC, wOp, wUn, wB, wCons, wNil, wTup, wLst, wDct, wTru, wTruth, wNot, wAndT, wOrT, wAndV, wOrV, wNotV, wIfE, wChain, wCall, wCallP, wCallPF, wMake, wMakeE, wM, wSl, wPart, wNoPart, wMeth, wFldC, wFldS, wProp, wBor, wBorT, wAppend, wPopAt, wExtend, wDGet2, wLstRng, wFmt, wJoined, jCons, jNil, gN, gTupW, gCons', gNil', iL, iT, iS, iR1, iR2, iZp, iEn, dAdd, dSub, dMul, dMod, dFdiv, dPow, dLt, dLe, dGt, dGe, dNeg, dIs, dIsNot, rLenD, rTupOf, rLstOf, rMax2, rMin2, rAbs, rIntOf, rStrOf, rDivmod, startE, Ev.get, Ev.set, Ev.lend, Ev.noSlf, Slot.lend, Slot.noSlf, Slot.isL, Slot.isDK, Slot.isPurse, List.map, List.all, List.length_cons, List.length_nil, List.replicate, List.append, List.cons_append, List.nil_append, Nat.zero_add, Nat.reduceAdd, Nat.reduceSub, Nat.reduceLT, if_true, if_false, Bool.false_eq_true, Bool.not_true, Bool.not_false]
  have e6 : (10 : Int) ^ (6 : Int).toNat = 1000000 := by decide +kernel
  have cp : ∀ j : Int, 0 ≤ j → j ≤ 1000000 → CPow 10 j := fun j h0 h1 => ⟨h0, h1, by decide⟩
  refine ⟨trivial, cp _ (by decide) (by decide), trivial, _, rfl, _, rfl, by rw [e6]; decide, by rw [e6]; decide, fun x x0 x1 => ⟨cp _ (by decide) (by decide), ?_⟩⟩
  rw [e6] at x1
  refine ⟨.inl ⟨by omega, by omega⟩, trivial, cp _ (by decide) (by decide), trivial, _, rfl, _, rfl, by rw [e6]; decide, by rw [e6]; decide, fun y y0 y1 => hM _ ?_⟩
  rw [e6] at y1
  simp only [sSeq, sRet, sRetF, sRetN, sIf, sNext, sSet, sOwn, sOwnP, sPar, sExpr, sFldI, sBreak, sCont, sDPutD, sParFF, sParEF, sParFE, sParEFF, wIsi, wVar, wC, wOp, wUn, wB, wCons, wNil, wTup, wLst, wDct, wTru, wTruth, wNot, wAndT, wOrT, wAndV, wOrV, wNotV, wIfE, wChain, wCall, wCallP, wCallPF, wMake, wMakeE, wM, wSl, wPart, wNoPart, wMeth, wFldC, wFldS, wProp, wBor, wBorT, wAppend, wPopAt, wExtend, wDGet2, wLstRng, wFmt, wJoined, jCons, jNil, gN, gTupW, gCons', gNil', iL, iT, iS, iR1, iR2, iZp, iEn, dAdd, dSub, dMul, dMod, dFdiv, dPow, dLt, dLe, dGt, dGe, dNeg, dIs, dIsNot, rLenD, rTupOf, rLstOf, rMax2, rMin2, rAbs, rIntOf, rStrOf, rDivmod, startE, Ev.get, Ev.set, Ev.lend, Ev.noSlf, Slot.lend, Slot.noSlf, Slot.isL, Slot.isDK, Slot.isPurse, List.map, List.all, List.length_cons, List.length_nil, List.replicate, List.append, List.cons_append, List.nil_append, Nat.zero_add, Nat.reduceAdd, Nat.reduceSub, Nat.reduceLT, if_true, if_false, Bool.false_eq_true, Bool.not_true, Bool.not_false]
  refine ⟨trivial, trivial, trivial, _, rfl, 9, rfl, by decide, by decide, fun r r0 r1 => ⟨by omega, by show (5 : Nat) ≤ sizeLine; have := small5; omega, trivial, _, rfl, _, rfl, by simp, by show (5 : Nat) < 1073741824; decide, fun d hd => ⟨trivial, ?_⟩⟩⟩
  simp only [List.mem_cons, List.not_mem_nil, or_false] at hd
  have e := emod_rng (x * 10 ^ (12 : Int).toNat + y) (m := m + 1) (by omega)
  rcases hd with rfl | rfl | rfl | rfl | rfl
  · exact h _ (by decide) m0
  · exact h _ (by split <;> omega) (by split <;> omega)
  · exact h _ m0 (by omega)
  · exact h _ (by split <;> omega) (by split <;> omega)
  · exact h _ e.1 (by omega)
end W
set_option Elab.async false
set_option linter.all false
set_option maxRecDepth 100000
set_option maxHeartbeats 4000000
namespace W
open PySem PySem.Spec PyProof.Rows L2 Q
theorem lcA {α : Type} {F : α → D} {vs : List Nat} {g : WG} {we : WE} {R : α → D → Prop} (I : Ev → Prop) : ∀ (l : List α) (ρ : Ev) (k : List D → Ev → Prop), I ρ → (∀ a ∈ l, ∀ ρ, I ρ → ∀ kk : D → Ev → Prop, (∀ y ρ', R a y → I (ρ'.wipe vs) → kk y ρ') → g (F a) ρ fun ρ1 => we ρ1 kk) → (∀ ys ρ', I ρ' → All2 R l ys → k ys ρ') → lcL vs g wYes we (l.map F) ρ k
  | [], ρ, k, hI, _, hk => hk [] ρ hI trivial
  | d :: ds, ρ, k, hI, h, hk => by
    have q := h d (List.mem_cons_self ..) ρ hI (fun y ρ3 => lcL vs g wYes we (ds.map F) (ρ3.wipe vs) fun ys ρ4 => k (y :: ys) ρ4) fun y ρ' hy he =>
      lcA I ds _ _ he (fun d' hd' => h d' (List.mem_cons_of_mem _ hd')) fun ys ρ4 h4 hys => hk (y :: ys) ρ4 h4 ⟨hy, hys⟩
    rw [List.map_cons]
    unfold lcL
    simpa only [wYes, if_true] using q
theorem all2_fun {α : Type} {G : α → D} : ∀ {l : List α} {ys : List D}, All2 (fun a y => y = G a) l ys → ys = l.map G
  | [], [], _ => rfl
  | _ :: _, _ :: _, h => by rw [h.1, all2_fun h.2]; rfl
  | [], _ :: _, h => h.elim
  | _ :: _, [], h => h.elim
theorem n__law_due {ds : List D} {kk : D → Prop} {kx : XC} (h : c__law_due ds kk kx) : ds.length = 3 := by
  obtain ⟨a, b, c, rfl, _⟩ := h; rfl
theorem at_getD {zs : List Int} {i : Nat} (h : i < zs.length) : atI (zs.map D.int) (i : Int) = some (.int (zs.getD i 0)) := by
  refine atI_nat ?_
  rw [List.getElem?_map, List.getElem?_eq_getElem h]
  simp [List.getD, List.getElem?_eq_getElem h]
theorem getD_mem {zs : List Int} {i : Nat} (h : i < zs.length) : zs.getD i 0 ∈ zs := by
  simp [List.getD, List.getElem?_eq_getElem h]
theorem due_loop {a : D} {zs cs : List Int} {kk : D → Prop} {M : Ev → Prop} {rf : D → Ev → Prop} (hl : zs.length = cs.length) (hz6 : zs.length ≤ 6) (hz : ∀ z ∈ zs, 0 ≤ z) : ∀ (rows : List Row) (s3 : Slot), (∀ r ∈ rows, rowOk zs.length r) → (dueB rows zs cs = true → kk (.bl true)) → (dueB rows zs cs = false → ∀ s3, M [.val a, .val (tupI zs), .val (lstI cs), s3, .un, .un]) →
    forL (gN 3) (sIf (wTruth (wB rAllD (wCons (wLc [4, 5] (iL (wVar 3)) (gTupW 2 (gCons' (gN 4) (gCons' (gN 5) gNil'))) wYes (wOp dLe (wCall c__law_number no (wCons (wVar 5) (wCons (wOp dIx (wVar 1) (wVar 4)) wNil))) (wOp dIx (wVar 2) (wVar 4)))) wNil))) (sRet (wC (.bl true))) sNext) ⟨M, fun d _ => kk d, fun _ => False, fun _ => False, rf⟩ (rows.map rowD) [.val a, .val (tupI zs), .val (lstI cs), s3, .un, .un]
  | [], s3, _, _, h2 => h2 rfl s3
  | r :: rows, s3, hr, h1, h2 => by
    refine forL_gen fun M1 hM1 => ?_
    have hr1 := hr r (List.mem_cons_self ..)
    have ed : dueB (r :: rows) zs cs = ((r.all fun p => decide (numW p.2 (zs.getD p.1 0) ≤ cs.getD p.1 0)) || dueB rows zs cs) := rfl
    simp only [sSeq, sRet, sRetF, sRetN, sIf, sNext, sSet, sOwn, sOwnP, sPar, sExpr, sFldI, sBreak, sCont, sDPutD, sParFF, sParEF, sParFE, sParEFF, wIsi, wVar, wC, wOp, wUn, wB, wCons, wNil, wTup, wLst, wDct, wTru, wTruth, wNot, wAndT, wOrT, wAndV, wOrV, wNotV, wIfE, wChain, wCall, wCallP, wCallPF, wMake, wMakeE, wM, wSl, wPart, wNoPart, wMeth, wFldC, wFldS, wProp, wBor, wBorT, wAppend, wPopAt, wExtend, wDGet2, wLstRng, wFmt, wJoined, jCons, jNil, gN, gTupW, gCons', gNil', iL, iT, iS, iR1, iR2, iZp, iEn, dAdd, dSub, dMul, dMod, dFdiv, dPow, dLt, dLe, dGt, dGe, dNeg, dIs, dIsNot, rLenD, rTupOf, rLstOf, rMax2, rMin2, rAbs, rIntOf, rStrOf, rDivmod, startE, Ev.get, Ev.set, Ev.lend, Ev.noSlf, Slot.lend, Slot.noSlf, Slot.isL, Slot.isDK, Slot.isPurse, List.map, List.all, List.length_cons, List.length_nil, List.replicate, List.append, List.cons_append, List.nil_append, Nat.zero_add, Nat.reduceAdd, Nat.reduceSub, Nat.reduceLT, if_true, if_false, Bool.false_eq_true, Bool.not_true, Bool.not_false, rowD]
    refine wLc_i ?_
    simp only [sSeq, sRet, sRetF, sRetN, sIf, sNext, sSet, sOwn, sOwnP, sPar, sExpr, sFldI, sBreak, sCont, sDPutD, sParFF, sParEF, sParFE, sParEFF, wIsi, wVar, wC, wOp, wUn, wB, wCons, wNil, wTup, wLst, wDct, wTru, wTruth, wNot, wAndT, wOrT, wAndV, wOrV, wNotV, wIfE, wChain, wCall, wCallP, wCallPF, wMake, wMakeE, wM, wSl, wPart, wNoPart, wMeth, wFldC, wFldS, wProp, wBor, wBorT, wAppend, wPopAt, wExtend, wDGet2, wLstRng, wFmt, wJoined, jCons, jNil, gN, gTupW, gCons', gNil', iL, iT, iS, iR1, iR2, iZp, iEn, dAdd, dSub, dMul, dMod, dFdiv, dPow, dLt, dLe, dGt, dGe, dNeg, dIs, dIsNot, rLenD, rTupOf, rLstOf, rMax2, rMin2, rAbs, rIntOf, rStrOf, rDivmod, startE, Ev.get, Ev.set, Ev.lend, Ev.noSlf, Slot.lend, Slot.noSlf, Slot.isL, Slot.isDK, Slot.isPurse, List.map, List.all, List.length_cons, List.length_nil, List.replicate, List.append, List.cons_append, List.nil_append, Nat.zero_add, Nat.reduceAdd, Nat.reduceSub, Nat.reduceLT, if_true, if_false, Bool.false_eq_true, Bool.not_true, Bool.not_false]
    have six : (6 : Nat) ≤ sizeLine := by have := small5; omega
    refine ⟨by rw [List.length_map]; have := hr1.2.1; omega, ?_⟩
    simp only [Ev.wipe, sSeq, sRet, sRetF, sRetN, sIf, sNext, sSet, sOwn, sOwnP, sPar, sExpr, sFldI, sBreak, sCont, sDPutD, sParFF, sParEF, sParFE, sParEFF, wIsi, wVar, wC, wOp, wUn, wB, wCons, wNil, wTup, wLst, wDct, wTru, wTruth, wNot, wAndT, wOrT, wAndV, wOrV, wNotV, wIfE, wChain, wCall, wCallP, wCallPF, wMake, wMakeE, wM, wSl, wPart, wNoPart, wMeth, wFldC, wFldS, wProp, wBor, wBorT, wAppend, wPopAt, wExtend, wDGet2, wLstRng, wFmt, wJoined, jCons, jNil, gN, gTupW, gCons', gNil', iL, iT, iS, iR1, iR2, iZp, iEn, dAdd, dSub, dMul, dMod, dFdiv, dPow, dLt, dLe, dGt, dGe, dNeg, dIs, dIsNot, rLenD, rTupOf, rLstOf, rMax2, rMin2, rAbs, rIntOf, rStrOf, rDivmod, startE, Ev.get, Ev.set, Ev.lend, Ev.noSlf, Slot.lend, Slot.noSlf, Slot.isL, Slot.isDK, Slot.isPurse, List.map, List.all, List.length_cons, List.length_nil, List.replicate, List.append, List.cons_append, List.nil_append, Nat.zero_add, Nat.reduceAdd, Nat.reduceSub, Nat.reduceLT, if_true, if_false, Bool.false_eq_true, Bool.not_true, Bool.not_false]
    refine lcA (R := fun p y => y = .bl (decide (numW p.2 (zs.getD p.1 0) ≤ cs.getD p.1 0))) (fun ρ => ρ = [.val a, .val (tupI zs), .val (lstI cs), .val (.lst (r.map itemD)), .un, .un]) _ _ _ rfl (fun p hp ρ hρ kk2 q => ?_) fun ys ρ' hρ hys => ?_
    · subst hρ
      obtain ⟨hi, hw⟩ := hr1.2.2.1 p hp
      refine ⟨rfl, rfl, ?_⟩
      simp only [sSeq, sRet, sRetF, sRetN, sIf, sNext, sSet, sOwn, sOwnP, sPar, sExpr, sFldI, sBreak, sCont, sDPutD, sParFF, sParEF, sParFE, sParEFF, wIsi, wVar, wC, wOp, wUn, wB, wCons, wNil, wTup, wLst, wDct, wTru, wTruth, wNot, wAndT, wOrT, wAndV, wOrV, wNotV, wIfE, wChain, wCall, wCallP, wCallPF, wMake, wMakeE, wM, wSl, wPart, wNoPart, wMeth, wFldC, wFldS, wProp, wBor, wBorT, wAppend, wPopAt, wExtend, wDGet2, wLstRng, wFmt, wJoined, jCons, jNil, gN, gTupW, gCons', gNil', iL, iT, iS, iR1, iR2, iZp, iEn, dAdd, dSub, dMul, dMod, dFdiv, dPow, dLt, dLe, dGt, dGe, dNeg, dIs, dIsNot, rLenD, rTupOf, rLstOf, rMax2, rMin2, rAbs, rIntOf, rStrOf, rDivmod, startE, Ev.get, Ev.set, Ev.lend, Ev.noSlf, Slot.lend, Slot.noSlf, Slot.isL, Slot.isDK, Slot.isPurse, List.map, List.all, List.length_cons, List.length_nil, List.replicate, List.append, List.cons_append, List.nil_append, Nat.zero_add, Nat.reduceAdd, Nat.reduceSub, Nat.reduceLT, if_true, if_false, Bool.false_eq_true, Bool.not_true, Bool.not_false, tupI, lstI, dIx, at_getD hi]
      refine ⟨_, _, rfl, p.2, _, rfl, hw, rfl, hz _ (getD_mem hi), ?_⟩
      simp only [sSeq, sRet, sRetF, sRetN, sIf, sNext, sSet, sOwn, sOwnP, sPar, sExpr, sFldI, sBreak, sCont, sDPutD, sParFF, sParEF, sParFE, sParEFF, wIsi, wVar, wC, wOp, wUn, wB, wCons, wNil, wTup, wLst, wDct, wTru, wTruth, wNot, wAndT, wOrT, wAndV, wOrV, wNotV, wIfE, wChain, wCall, wCallP, wCallPF, wMake, wMakeE, wM, wSl, wPart, wNoPart, wMeth, wFldC, wFldS, wProp, wBor, wBorT, wAppend, wPopAt, wExtend, wDGet2, wLstRng, wFmt, wJoined, jCons, jNil, gN, gTupW, gCons', gNil', iL, iT, iS, iR1, iR2, iZp, iEn, dAdd, dSub, dMul, dMod, dFdiv, dPow, dLt, dLe, dGt, dGe, dNeg, dIs, dIsNot, rLenD, rTupOf, rLstOf, rMax2, rMin2, rAbs, rIntOf, rStrOf, rDivmod, startE, Ev.get, Ev.set, Ev.lend, Ev.noSlf, Slot.lend, Slot.noSlf, Slot.isL, Slot.isDK, Slot.isPurse, List.map, List.all, List.length_cons, List.length_nil, List.replicate, List.append, List.cons_append, List.nil_append, Nat.zero_add, Nat.reduceAdd, Nat.reduceSub, Nat.reduceLT, if_true, if_false, Bool.false_eq_true, Bool.not_true, Bool.not_false, dIx, at_getD (show p.1 < cs.length by omega)]
      exact q _ _ rfl rfl
    · subst hρ
      rw [all2_fun hys]
      refine ⟨r.map fun p => decide (numW p.2 (zs.getD p.1 0) ≤ cs.getD p.1 0), by rw [List.map_map]; rfl, ?_⟩
      have ea : (r.map fun p => decide (numW p.2 (zs.getD p.1 0) ≤ cs.getD p.1 0)).all id = r.all fun p => decide (numW p.2 (zs.getD p.1 0) ≤ cs.getD p.1 0) := by rw [List.all_map]; rfl
      rw [ea]
      cases e : (r.all fun p => decide (numW p.2 (zs.getD p.1 0) ≤ cs.getD p.1 0)) with
      | true =>
        simp only [sSeq, sRet, sRetF, sRetN, sIf, sNext, sSet, sOwn, sOwnP, sPar, sExpr, sFldI, sBreak, sCont, sDPutD, sParFF, sParEF, sParFE, sParEFF, wIsi, wVar, wC, wOp, wUn, wB, wCons, wNil, wTup, wLst, wDct, wTru, wTruth, wNot, wAndT, wOrT, wAndV, wOrV, wNotV, wIfE, wChain, wCall, wCallP, wCallPF, wMake, wMakeE, wM, wSl, wPart, wNoPart, wMeth, wFldC, wFldS, wProp, wBor, wBorT, wAppend, wPopAt, wExtend, wDGet2, wLstRng, wFmt, wJoined, jCons, jNil, gN, gTupW, gCons', gNil', iL, iT, iS, iR1, iR2, iZp, iEn, dAdd, dSub, dMul, dMod, dFdiv, dPow, dLt, dLe, dGt, dGe, dNeg, dIs, dIsNot, rLenD, rTupOf, rLstOf, rMax2, rMin2, rAbs, rIntOf, rStrOf, rDivmod, startE, Ev.get, Ev.set, Ev.lend, Ev.noSlf, Slot.lend, Slot.noSlf, Slot.isL, Slot.isDK, Slot.isPurse, List.map, List.all, List.length_cons, List.length_nil, List.replicate, List.append, List.cons_append, List.nil_append, Nat.zero_add, Nat.reduceAdd, Nat.reduceSub, Nat.reduceLT, if_true, if_false, Bool.false_eq_true, Bool.not_true, Bool.not_false]
        exact h1 (by rw [ed, e]; rfl)
      | false =>
        simp only [sSeq, sRet, sRetF, sRetN, sIf, sNext, sSet, sOwn, sOwnP, sPar, sExpr, sFldI, sBreak, sCont, sDPutD, sParFF, sParEF, sParFE, sParEFF, wIsi, wVar, wC, wOp, wUn, wB, wCons, wNil, wTup, wLst, wDct, wTru, wTruth, wNot, wAndT, wOrT, wAndV, wOrV, wNotV, wIfE, wChain, wCall, wCallP, wCallPF, wMake, wMakeE, wM, wSl, wPart, wNoPart, wMeth, wFldC, wFldS, wProp, wBor, wBorT, wAppend, wPopAt, wExtend, wDGet2, wLstRng, wFmt, wJoined, jCons, jNil, gN, gTupW, gCons', gNil', iL, iT, iS, iR1, iR2, iZp, iEn, dAdd, dSub, dMul, dMod, dFdiv, dPow, dLt, dLe, dGt, dGe, dNeg, dIs, dIsNot, rLenD, rTupOf, rLstOf, rMax2, rMin2, rAbs, rIntOf, rStrOf, rDivmod, startE, Ev.get, Ev.set, Ev.lend, Ev.noSlf, Slot.lend, Slot.noSlf, Slot.isL, Slot.isDK, Slot.isPurse, List.map, List.all, List.length_cons, List.length_nil, List.replicate, List.append, List.cons_append, List.nil_append, Nat.zero_add, Nat.reduceAdd, Nat.reduceSub, Nat.reduceLT, if_true, if_false, Bool.false_eq_true, Bool.not_true, Bool.not_false]
        refine hM1 _ ?_
        exact due_loop hl hz6 hz rows _ (fun r' h' => hr r' (List.mem_cons_of_mem _ h')) (fun q => h1 (by rw [ed, q]; simp)) (fun q => h2 (by rw [ed, e, q]; rfl))
theorem p__law_due (ds : List D) (kk : D → Prop) (kx : XC) (h : c__law_due ds kk kx) : (w__law_due kx) { nx := fun _ => kk .non, rt := fun d _ => kk d } (startE 6 ds) := by
  obtain ⟨a, b, c, rfl, rows, zs, cs, rfl, rfl, rfl, hl, h6, hr, hz, h⟩ := h
  unfold w__law_due
  refine sSeq_gen fun M hM => ?_
  simp only [sFor, sSeq, sRet, sRetF, sRetN, sIf, sNext, sSet, sOwn, sOwnP, sPar, sExpr, sFldI, sBreak, sCont, sDPutD, sParFF, sParEF, sParFE, sParEFF, wIsi, wVar, wC, wOp, wUn, wB, wCons, wNil, wTup, wLst, wDct, wTru, wTruth, wNot, wAndT, wOrT, wAndV, wOrV, wNotV, wIfE, wChain, wCall, wCallP, wCallPF, wMake, wMakeE, wM, wSl, wPart, wNoPart, wMeth, wFldC, wFldS, wProp, wBor, wBorT, wAppend, wPopAt, wExtend, wDGet2, wLstRng, wFmt, wJoined, jCons, jNil, gN, gTupW, gCons', gNil', iL, iT, iS, iR1, iR2, iZp, iEn, dAdd, dSub, dMul, dMod, dFdiv, dPow, dLt, dLe, dGt, dGe, dNeg, dIs, dIsNot, rLenD, rTupOf, rLstOf, rMax2, rMin2, rAbs, rIntOf, rStrOf, rDivmod, startE, Ev.get, Ev.set, Ev.lend, Ev.noSlf, Slot.lend, Slot.noSlf, Slot.isL, Slot.isDK, Slot.isPurse, List.map, List.all, List.length_cons, List.length_nil, List.replicate, List.append, List.cons_append, List.nil_append, Nat.zero_add, Nat.reduceAdd, Nat.reduceSub, Nat.reduceLT, if_true, if_false, Bool.false_eq_true, Bool.not_true, Bool.not_false]
  refine due_loop hl h6 hz rows _ hr (fun q => ?_) fun q s3 => hM _ ?_
  · rw [q] at h; exact h
  · simp only [sSeq, sRet, sRetF, sRetN, sIf, sNext, sSet, sOwn, sOwnP, sPar, sExpr, sFldI, sBreak, sCont, sDPutD, sParFF, sParEF, sParFE, sParEFF, wIsi, wVar, wC, wOp, wUn, wB, wCons, wNil, wTup, wLst, wDct, wTru, wTruth, wNot, wAndT, wOrT, wAndV, wOrV, wNotV, wIfE, wChain, wCall, wCallP, wCallPF, wMake, wMakeE, wM, wSl, wPart, wNoPart, wMeth, wFldC, wFldS, wProp, wBor, wBorT, wAppend, wPopAt, wExtend, wDGet2, wLstRng, wFmt, wJoined, jCons, jNil, gN, gTupW, gCons', gNil', iL, iT, iS, iR1, iR2, iZp, iEn, dAdd, dSub, dMul, dMod, dFdiv, dPow, dLt, dLe, dGt, dGe, dNeg, dIs, dIsNot, rLenD, rTupOf, rLstOf, rMax2, rMin2, rAbs, rIntOf, rStrOf, rDivmod, startE, Ev.get, Ev.set, Ev.lend, Ev.noSlf, Slot.lend, Slot.noSlf, Slot.isL, Slot.isDK, Slot.isPurse, List.map, List.all, List.length_cons, List.length_nil, List.replicate, List.append, List.cons_append, List.nil_append, Nat.zero_add, Nat.reduceAdd, Nat.reduceSub, Nat.reduceLT, if_true, if_false, Bool.false_eq_true, Bool.not_true, Bool.not_false]
    rw [q] at h; exact h
theorem n__law_size {ds : List D} {kk : D → Prop} {kx : XC} (h : c__law_size ds kk kx) : ds.length + 1 = 3 := by
  obtain ⟨a, b, rfl, _⟩ := h; rfl
theorem p__law_size (ds : List D) (kk : D → Prop) (h : c__law_size ds kk no) : w__law_size { nx := fun ρ => ρ.get 0 = .purse ∧ kk .non, rt := fun d ρ => ρ.get 0 = .purse ∧ kk d } (.purse :: startE 8 ds) := by
  obtain ⟨a, b, rfl, l, n, rfl, rfl, h⟩ := h
  unfold w__law_size
  have e6 : (10 : Int) ^ (6 : Int).toNat = 1000000 := by decide +kernel
  have e30 : (0 : Int) < (10 : Int) ^ (30 : Int).toNat := by decide +kernel
  have cp : ∀ j : Int, 0 ≤ j → j ≤ 1000000 → CPow 10 j := fun j h0 h1 => ⟨h0, h1, by decide⟩
  generalize hT : (10 : Int) ^ (30 : Int).toNat = T30 at e30
  refine sSeq_gen fun M hM => ?_
  simp only [sSeq, sRet, sRetF, sRetN, sIf, sNext, sSet, sOwn, sOwnP, sPar, sExpr, sFldI, sBreak, sCont, sDPutD, sParFF, sParEF, sParFE, sParEFF, wIsi, wVar, wC, wOp, wUn, wB, wCons, wNil, wTup, wLst, wDct, wTru, wTruth, wNot, wAndT, wOrT, wAndV, wOrV, wNotV, wIfE, wChain, wCall, wCallP, wCallPF, wMake, wMakeE, wM, wSl, wPart, wNoPart, wMeth, wFldC, wFldS, wProp, wBor, wBorT, wAppend, wPopAt, wExtend, wDGet2, wLstRng, wFmt, wJoined, jCons, jNil, gN, gTupW, gCons', gNil', iL, iT, iS, iR1, iR2, iZp, iEn, dAdd, dSub, dMul, dMod, dFdiv, dPow, dLt, dLe, dGt, dGe, dNeg, dIs, dIsNot, rLenD, rTupOf, rLstOf, rMax2, rMin2, rAbs, rIntOf, rStrOf, rDivmod, startE, Ev.get, Ev.set, Ev.lend, Ev.noSlf, Slot.lend, Slot.noSlf, Slot.isL, Slot.isDK, Slot.isPurse, List.map, List.all, List.length_cons, List.length_nil, List.replicate, List.append, List.cons_append, List.nil_append, Nat.zero_add, Nat.reduceAdd, Nat.reduceSub, Nat.reduceLT, if_true, if_false, Bool.false_eq_true, Bool.not_true, Bool.not_false]
  refine ⟨trivial, trivial, hM _ (sSeq_gen fun M1 hM1 => ?_)⟩
  simp only [sSeq, sRet, sRetF, sRetN, sIf, sNext, sSet, sOwn, sOwnP, sPar, sExpr, sFldI, sBreak, sCont, sDPutD, sParFF, sParEF, sParFE, sParEFF, wIsi, wVar, wC, wOp, wUn, wB, wCons, wNil, wTup, wLst, wDct, wTru, wTruth, wNot, wAndT, wOrT, wAndV, wOrV, wNotV, wIfE, wChain, wCall, wCallP, wCallPF, wMake, wMakeE, wM, wSl, wPart, wNoPart, wMeth, wFldC, wFldS, wProp, wBor, wBorT, wAppend, wPopAt, wExtend, wDGet2, wLstRng, wFmt, wJoined, jCons, jNil, gN, gTupW, gCons', gNil', iL, iT, iS, iR1, iR2, iZp, iEn, dAdd, dSub, dMul, dMod, dFdiv, dPow, dLt, dLe, dGt, dGe, dNeg, dIs, dIsNot, rLenD, rTupOf, rLstOf, rMax2, rMin2, rAbs, rIntOf, rStrOf, rDivmod, startE, Ev.get, Ev.set, Ev.lend, Ev.noSlf, Slot.lend, Slot.noSlf, Slot.isL, Slot.isDK, Slot.isPurse, List.map, List.all, List.length_cons, List.length_nil, List.replicate, List.append, List.cons_append, List.nil_append, Nat.zero_add, Nat.reduceAdd, Nat.reduceSub, Nat.reduceLT, if_true, if_false, Bool.false_eq_true, Bool.not_true, Bool.not_false, D.isNon]
  refine ⟨cp _ (by decide) (by decide), trivial, trivial, _, rfl, 6, rfl, by decide, by decide, fun r r0 r1 => hM1 _ (sSeq_gen fun M2 hM2 => ?_)⟩
  rw [hT]
  simp only [sSeq, sRet, sRetF, sRetN, sIf, sNext, sSet, sOwn, sOwnP, sPar, sExpr, sFldI, sBreak, sCont, sDPutD, sParFF, sParEF, sParFE, sParEFF, wIsi, wVar, wC, wOp, wUn, wB, wCons, wNil, wTup, wLst, wDct, wTru, wTruth, wNot, wAndT, wOrT, wAndV, wOrV, wNotV, wIfE, wChain, wCall, wCallP, wCallPF, wMake, wMakeE, wM, wSl, wPart, wNoPart, wMeth, wFldC, wFldS, wProp, wBor, wBorT, wAppend, wPopAt, wExtend, wDGet2, wLstRng, wFmt, wJoined, jCons, jNil, gN, gTupW, gCons', gNil', iL, iT, iS, iR1, iR2, iZp, iEn, dAdd, dSub, dMul, dMod, dFdiv, dPow, dLt, dLe, dGt, dGe, dNeg, dIs, dIsNot, rLenD, rTupOf, rLstOf, rMax2, rMin2, rAbs, rIntOf, rStrOf, rDivmod, startE, Ev.get, Ev.set, Ev.lend, Ev.noSlf, Slot.lend, Slot.noSlf, Slot.isL, Slot.isDK, Slot.isPurse, List.map, List.all, List.length_cons, List.length_nil, List.replicate, List.append, List.cons_append, List.nil_append, Nat.zero_add, Nat.reduceAdd, Nat.reduceSub, Nat.reduceLT, if_true, if_false, Bool.false_eq_true, Bool.not_true, Bool.not_false]
  by_cases q : r < 2
  · rw [decide_eq_true q]
    simp only [sSeq, sRet, sRetF, sRetN, sIf, sNext, sSet, sOwn, sOwnP, sPar, sExpr, sFldI, sBreak, sCont, sDPutD, sParFF, sParEF, sParFE, sParEFF, wIsi, wVar, wC, wOp, wUn, wB, wCons, wNil, wTup, wLst, wDct, wTru, wTruth, wNot, wAndT, wOrT, wAndV, wOrV, wNotV, wIfE, wChain, wCall, wCallP, wCallPF, wMake, wMakeE, wM, wSl, wPart, wNoPart, wMeth, wFldC, wFldS, wProp, wBor, wBorT, wAppend, wPopAt, wExtend, wDGet2, wLstRng, wFmt, wJoined, jCons, jNil, gN, gTupW, gCons', gNil', iL, iT, iS, iR1, iR2, iZp, iEn, dAdd, dSub, dMul, dMod, dFdiv, dPow, dLt, dLe, dGt, dGe, dNeg, dIs, dIsNot, rLenD, rTupOf, rLstOf, rMax2, rMin2, rAbs, rIntOf, rStrOf, rDivmod, startE, Ev.get, Ev.set, Ev.lend, Ev.noSlf, Slot.lend, Slot.noSlf, Slot.isL, Slot.isDK, Slot.isPurse, List.map, List.all, List.length_cons, List.length_nil, List.replicate, List.append, List.cons_append, List.nil_append, Nat.zero_add, Nat.reduceAdd, Nat.reduceSub, Nat.reduceLT, if_true, if_false, Bool.false_eq_true, Bool.not_true, Bool.not_false]
    refine ⟨by decide +kernel, ?_⟩
    have hr : r = 0 ∨ r = 1 := by omega
    have a0 : atI [D.int 1, D.int (1 + T30)] (0 : Int) = some (.int 1) := atI_nat (j := 0) rfl
    have a1 : atI [D.int 1, D.int (1 + T30)] (1 : Int) = some (.int (1 + T30)) := atI_nat (j := 1) rfl
    rcases hr with rfl | rfl
    · simp only [dIx, a0]
      exact ⟨trivial, h _ (by decide)⟩
    · simp only [dIx, a1]
      exact ⟨trivial, h _ (by omega)⟩
  · rw [decide_eq_false q]
    simp only [sSeq, sRet, sRetF, sRetN, sIf, sNext, sSet, sOwn, sOwnP, sPar, sExpr, sFldI, sBreak, sCont, sDPutD, sParFF, sParEF, sParFE, sParEFF, wIsi, wVar, wC, wOp, wUn, wB, wCons, wNil, wTup, wLst, wDct, wTru, wTruth, wNot, wAndT, wOrT, wAndV, wOrV, wNotV, wIfE, wChain, wCall, wCallP, wCallPF, wMake, wMakeE, wM, wSl, wPart, wNoPart, wMeth, wFldC, wFldS, wProp, wBor, wBorT, wAppend, wPopAt, wExtend, wDGet2, wLstRng, wFmt, wJoined, jCons, jNil, gN, gTupW, gCons', gNil', iL, iT, iS, iR1, iR2, iZp, iEn, dAdd, dSub, dMul, dMod, dFdiv, dPow, dLt, dLe, dGt, dGe, dNeg, dIs, dIsNot, rLenD, rTupOf, rLstOf, rMax2, rMin2, rAbs, rIntOf, rStrOf, rDivmod, startE, Ev.get, Ev.set, Ev.lend, Ev.noSlf, Slot.lend, Slot.noSlf, Slot.isL, Slot.isDK, Slot.isPurse, List.map, List.all, List.length_cons, List.length_nil, List.replicate, List.append, List.cons_append, List.nil_append, Nat.zero_add, Nat.reduceAdd, Nat.reduceSub, Nat.reduceLT, if_true, if_false, Bool.false_eq_true, Bool.not_true, Bool.not_false]
    refine hM2 _ (sSeq_gen fun M3 hM3 => ?_)
    simp only [sSeq, sRet, sRetF, sRetN, sIf, sNext, sSet, sOwn, sOwnP, sPar, sExpr, sFldI, sBreak, sCont, sDPutD, sParFF, sParEF, sParFE, sParEFF, wIsi, wVar, wC, wOp, wUn, wB, wCons, wNil, wTup, wLst, wDct, wTru, wTruth, wNot, wAndT, wOrT, wAndV, wOrV, wNotV, wIfE, wChain, wCall, wCallP, wCallPF, wMake, wMakeE, wM, wSl, wPart, wNoPart, wMeth, wFldC, wFldS, wProp, wBor, wBorT, wAppend, wPopAt, wExtend, wDGet2, wLstRng, wFmt, wJoined, jCons, jNil, gN, gTupW, gCons', gNil', iL, iT, iS, iR1, iR2, iZp, iEn, dAdd, dSub, dMul, dMod, dFdiv, dPow, dLt, dLe, dGt, dGe, dNeg, dIs, dIsNot, rLenD, rTupOf, rLstOf, rMax2, rMin2, rAbs, rIntOf, rStrOf, rDivmod, startE, Ev.get, Ev.set, Ev.lend, Ev.noSlf, Slot.lend, Slot.noSlf, Slot.isL, Slot.isDK, Slot.isPurse, List.map, List.all, List.length_cons, List.length_nil, List.replicate, List.append, List.cons_append, List.nil_append, Nat.zero_add, Nat.reduceAdd, Nat.reduceSub, Nat.reduceLT, if_true, if_false, Bool.false_eq_true, Bool.not_true, Bool.not_false]
    by_cases q2 : r < 5
    · rw [decide_eq_true q2]
      simp only [sSeq, sRet, sRetF, sRetN, sIf, sNext, sSet, sOwn, sOwnP, sPar, sExpr, sFldI, sBreak, sCont, sDPutD, sParFF, sParEF, sParFE, sParEFF, wIsi, wVar, wC, wOp, wUn, wB, wCons, wNil, wTup, wLst, wDct, wTru, wTruth, wNot, wAndT, wOrT, wAndV, wOrV, wNotV, wIfE, wChain, wCall, wCallP, wCallPF, wMake, wMakeE, wM, wSl, wPart, wNoPart, wMeth, wFldC, wFldS, wProp, wBor, wBorT, wAppend, wPopAt, wExtend, wDGet2, wLstRng, wFmt, wJoined, jCons, jNil, gN, gTupW, gCons', gNil', iL, iT, iS, iR1, iR2, iZp, iEn, dAdd, dSub, dMul, dMod, dFdiv, dPow, dLt, dLe, dGt, dGe, dNeg, dIs, dIsNot, rLenD, rTupOf, rLstOf, rMax2, rMin2, rAbs, rIntOf, rStrOf, rDivmod, startE, Ev.get, Ev.set, Ev.lend, Ev.noSlf, Slot.lend, Slot.noSlf, Slot.isL, Slot.isDK, Slot.isPurse, List.map, List.all, List.length_cons, List.length_nil, List.replicate, List.append, List.cons_append, List.nil_append, Nat.zero_add, Nat.reduceAdd, Nat.reduceSub, Nat.reduceLT, if_true, if_false, Bool.false_eq_true, Bool.not_true, Bool.not_false]
      refine ⟨trivial, .inl ⟨by decide, by decide⟩, by show (2 : Nat) ≤ sizeLine; have := small5; omega, trivial, _, rfl, _, rfl, by simp, by show (2 : Nat) < 1073741824; decide, fun d hd => ?_⟩
      simp only [List.mem_cons, List.not_mem_nil, or_false] at hd
      rcases hd with rfl | rfl
      · refine ⟨trivial, trivial, _, rfl, 7, rfl, by decide, by decide, fun t t0 t1 => ⟨trivial, h _ ?_⟩⟩
        split <;> split <;> omega
      · refine ⟨trivial, trivial, _, rfl, 7, rfl, by decide, by decide, fun t t0 t1 => ⟨trivial, h _ ?_⟩⟩
        split <;> split <;> omega
    · rw [decide_eq_false q2]
      simp only [sSeq, sRet, sRetF, sRetN, sIf, sNext, sSet, sOwn, sOwnP, sPar, sExpr, sFldI, sBreak, sCont, sDPutD, sParFF, sParEF, sParFE, sParEFF, wIsi, wVar, wC, wOp, wUn, wB, wCons, wNil, wTup, wLst, wDct, wTru, wTruth, wNot, wAndT, wOrT, wAndV, wOrV, wNotV, wIfE, wChain, wCall, wCallP, wCallPF, wMake, wMakeE, wM, wSl, wPart, wNoPart, wMeth, wFldC, wFldS, wProp, wBor, wBorT, wAppend, wPopAt, wExtend, wDGet2, wLstRng, wFmt, wJoined, jCons, jNil, gN, gTupW, gCons', gNil', iL, iT, iS, iR1, iR2, iZp, iEn, dAdd, dSub, dMul, dMod, dFdiv, dPow, dLt, dLe, dGt, dGe, dNeg, dIs, dIsNot, rLenD, rTupOf, rLstOf, rMax2, rMin2, rAbs, rIntOf, rStrOf, rDivmod, startE, Ev.get, Ev.set, Ev.lend, Ev.noSlf, Slot.lend, Slot.noSlf, Slot.isL, Slot.isDK, Slot.isPurse, List.map, List.all, List.length_cons, List.length_nil, List.replicate, List.append, List.cons_append, List.nil_append, Nat.zero_add, Nat.reduceAdd, Nat.reduceSub, Nat.reduceLT, if_true, if_false, Bool.false_eq_true, Bool.not_true, Bool.not_false]
      refine hM3 _ (sSeq_gen fun M4 hM4 => ?_)
      simp only [sSeq, sRet, sRetF, sRetN, sIf, sNext, sSet, sOwn, sOwnP, sPar, sExpr, sFldI, sBreak, sCont, sDPutD, sParFF, sParEF, sParFE, sParEFF, wIsi, wVar, wC, wOp, wUn, wB, wCons, wNil, wTup, wLst, wDct, wTru, wTruth, wNot, wAndT, wOrT, wAndV, wOrV, wNotV, wIfE, wChain, wCall, wCallP, wCallPF, wMake, wMakeE, wM, wSl, wPart, wNoPart, wMeth, wFldC, wFldS, wProp, wBor, wBorT, wAppend, wPopAt, wExtend, wDGet2, wLstRng, wFmt, wJoined, jCons, jNil, gN, gTupW, gCons', gNil', iL, iT, iS, iR1, iR2, iZp, iEn, dAdd, dSub, dMul, dMod, dFdiv, dPow, dLt, dLe, dGt, dGe, dNeg, dIs, dIsNot, rLenD, rTupOf, rLstOf, rMax2, rMin2, rAbs, rIntOf, rStrOf, rDivmod, startE, Ev.get, Ev.set, Ev.lend, Ev.noSlf, Slot.lend, Slot.noSlf, Slot.isL, Slot.isDK, Slot.isPurse, List.map, List.all, List.length_cons, List.length_nil, List.replicate, List.append, List.cons_append, List.nil_append, Nat.zero_add, Nat.reduceAdd, Nat.reduceSub, Nat.reduceLT, if_true, if_false, Bool.false_eq_true, Bool.not_true, Bool.not_false]
      refine ⟨trivial, cp _ (by decide) (by decide), trivial, _, rfl, _, rfl, by rw [e6]; decide, by rw [e6]; decide, fun x x0 x1 => ⟨cp _ (by decide) (by decide), ?_⟩⟩
      rw [e6] at x1
      refine ⟨.inl ⟨by omega, by omega⟩, trivial, cp _ (by decide) (by decide), trivial, _, rfl, _, rfl, by rw [e6]; decide, by rw [e6]; decide, fun y y0 y1 => ⟨cp _ (by decide) (by decide), ?_⟩⟩
      rw [e6] at y1
      refine ⟨.inl ⟨by omega, by omega⟩, trivial, cp _ (by decide) (by decide), trivial, _, rfl, _, rfl, by rw [e6]; decide, by rw [e6]; decide, fun z z0 z1 => hM4 _ ?_⟩
      simp only [sSeq, sRet, sRetF, sRetN, sIf, sNext, sSet, sOwn, sOwnP, sPar, sExpr, sFldI, sBreak, sCont, sDPutD, sParFF, sParEF, sParFE, sParEFF, wIsi, wVar, wC, wOp, wUn, wB, wCons, wNil, wTup, wLst, wDct, wTru, wTruth, wNot, wAndT, wOrT, wAndV, wOrV, wNotV, wIfE, wChain, wCall, wCallP, wCallPF, wMake, wMakeE, wM, wSl, wPart, wNoPart, wMeth, wFldC, wFldS, wProp, wBor, wBorT, wAppend, wPopAt, wExtend, wDGet2, wLstRng, wFmt, wJoined, jCons, jNil, gN, gTupW, gCons', gNil', iL, iT, iS, iR1, iR2, iZp, iEn, dAdd, dSub, dMul, dMod, dFdiv, dPow, dLt, dLe, dGt, dGe, dNeg, dIs, dIsNot, rLenD, rTupOf, rLstOf, rMax2, rMin2, rAbs, rIntOf, rStrOf, rDivmod, startE, Ev.get, Ev.set, Ev.lend, Ev.noSlf, Slot.lend, Slot.noSlf, Slot.isL, Slot.isDK, Slot.isPurse, List.map, List.all, List.length_cons, List.length_nil, List.replicate, List.append, List.cons_append, List.nil_append, Nat.zero_add, Nat.reduceAdd, Nat.reduceSub, Nat.reduceLT, if_true, if_false, Bool.false_eq_true, Bool.not_true, Bool.not_false]
      have e := emod_rng (x * 10 ^ (24 : Int).toNat + y * 10 ^ (9 : Int).toNat + z) (m := 1 + T30 - 1 + 1) (by omega)
      exact ⟨by omega, trivial, h _ (by omega)⟩
end W
set_option Elab.async false
set_option linter.all false
set_option maxRecDepth 100000
set_option maxHeartbeats 4000000
namespace W
open PySem PySem.Spec PyProof.Rows L2 Q
theorem n__law_sizes {ds : List D} {kk : D → Prop} {kx : XC} (h : c__law_sizes ds kk kx) : ds.length + 1 = 3 := by
  obtain ⟨a, b, rfl, _⟩ := h; rfl
theorem ixN_nat {n i : Nat} (h : i < n) : ixN n (i : Int) = some i := by
  unfold ixN
  rw [if_pos (by omega), if_pos (by omega)]
  simp
theorem all2_ints {α : Type} : ∀ {l : List α} {ys : List D}, All2 (fun _ y => ∃ r : Int, 1 ≤ r ∧ y = .int r) l ys → ∃ zs : List Int, ys = zs.map D.int ∧ zs.length = l.length ∧ ∀ z ∈ zs, 1 ≤ z
  | [], [], _ => ⟨[], rfl, rfl, fun _ h => by cases h⟩
  | _ :: l, _ :: ys, h => by
    obtain ⟨⟨r, hr, rfl⟩, h2⟩ := h
    obtain ⟨zs, rfl, e, hz⟩ := all2_ints h2
    exact ⟨r :: zs, rfl, by simp [e], fun z hz' => by
      rcases List.mem_cons.mp hz' with rfl | h
      · exact hr
      · exact hz z h⟩
  | [], _ :: _, h => h.elim
  | _ :: _, [], h => h.elim
theorem sizes_loop {ls : List Str} {rw_ : D} {kk : D → Prop} {M : Ev → Prop} {rt : D → Ev → Prop} {rf : D → Ev → Prop} : ∀ (r : Row) (zs : List Int) (s4 s5 : Slot), (∀ p ∈ r, p.1 < ls.length ∧ wOk p.2) → zs.length = ls.length → (∀ z ∈ zs, 1 ≤ z) →
    (∀ (zs : List Int) (s4 s5 : Slot), zs.length = ls.length → (∀ z ∈ zs, 1 ≤ z) → M [.purse, .val (.tup (ls.map fun l : Str => .tup [.str l, .int 1, .non])), .val rw_, .own (lstI zs), s4, s5, .un]) →
    forL (gTupW 2 (gCons' (gN 4) (gCons' (gN 5) gNil'))) (sSet (wCallP 0 c__law_size (wCons (wOp dIx (wVar 1) (wVar 4)) (wCons (wCall c__law_shift no (wCons (wVar 5) wNil)) wNil))) (gOwnIx 3 (wVar 4))) ⟨M, rt, fun _ => False, fun _ => False, rf⟩ (r.map itemD) [.purse, .val (.tup (ls.map fun l : Str => .tup [.str l, .int 1, .non])), .val rw_, .own (lstI zs), s4, s5, .un]
  | [], zs, s4, s5, _, hl, hz, hM => hM zs s4 s5 hl hz
  | p :: r, zs, s4, s5, hp, hl, hz, hM => by
    refine forL_gen fun M1 hM1 => ?_
    obtain ⟨hi, hw⟩ := hp p (List.mem_cons_self ..)
    refine ⟨rfl, rfl, ?_⟩
    have ea : atI (ls.map fun l : Str => D.tup [.str l, .int 1, .non]) (p.1 : Int) = some (.tup [.str ls[p.1], .int 1, .non]) := atI_nat (by rw [List.getElem?_map, List.getElem?_eq_getElem hi]; rfl)
    simp only [sSeq, sRet, sRetF, sRetN, sIf, sNext, sSet, sOwn, sOwnP, sPar, sExpr, sFldI, sBreak, sCont, sDPutD, sParFF, sParEF, sParFE, sParEFF, wIsi, wVar, wC, wOp, wUn, wB, wCons, wNil, wTup, wLst, wDct, wTru, wTruth, wNot, wAndT, wOrT, wAndV, wOrV, wNotV, wIfE, wChain, wCall, wCallP, wCallPF, wMake, wMakeE, wM, wSl, wPart, wNoPart, wMeth, wFldC, wFldS, wProp, wBor, wBorT, wAppend, wPopAt, wExtend, wDGet2, wLstRng, wFmt, wJoined, jCons, jNil, gN, gTupW, gCons', gNil', iL, iT, iS, iR1, iR2, iZp, iEn, dAdd, dSub, dMul, dMod, dFdiv, dPow, dLt, dLe, dGt, dGe, dNeg, dIs, dIsNot, rLenD, rTupOf, rLstOf, rMax2, rMin2, rAbs, rIntOf, rStrOf, rDivmod, startE, Ev.get, Ev.set, Ev.lend, Ev.noSlf, Slot.lend, Slot.noSlf, Slot.isL, Slot.isDK, Slot.isPurse, List.map, List.all, List.length_cons, List.length_nil, List.replicate, List.append, List.cons_append, List.nil_append, Nat.zero_add, Nat.reduceAdd, Nat.reduceSub, Nat.reduceLT, if_true, if_false, Bool.false_eq_true, Bool.not_true, Bool.not_false, gOwnIx, dIx, ea]
    refine ⟨trivial, _, rfl, p.2, rfl, hw, trivial, _, _, rfl, ls[p.1], _, rfl, rfl, fun t ht => ?_⟩
    simp only [sSeq, sRet, sRetF, sRetN, sIf, sNext, sSet, sOwn, sOwnP, sPar, sExpr, sFldI, sBreak, sCont, sDPutD, sParFF, sParEF, sParFE, sParEFF, wIsi, wVar, wC, wOp, wUn, wB, wCons, wNil, wTup, wLst, wDct, wTru, wTruth, wNot, wAndT, wOrT, wAndV, wOrV, wNotV, wIfE, wChain, wCall, wCallP, wCallPF, wMake, wMakeE, wM, wSl, wPart, wNoPart, wMeth, wFldC, wFldS, wProp, wBor, wBorT, wAppend, wPopAt, wExtend, wDGet2, wLstRng, wFmt, wJoined, jCons, jNil, gN, gTupW, gCons', gNil', iL, iT, iS, iR1, iR2, iZp, iEn, dAdd, dSub, dMul, dMod, dFdiv, dPow, dLt, dLe, dGt, dGe, dNeg, dIs, dIsNot, rLenD, rTupOf, rLstOf, rMax2, rMin2, rAbs, rIntOf, rStrOf, rDivmod, startE, Ev.get, Ev.set, Ev.lend, Ev.noSlf, Slot.lend, Slot.noSlf, Slot.isL, Slot.isDK, Slot.isPurse, List.map, List.all, List.length_cons, List.length_nil, List.replicate, List.append, List.cons_append, List.nil_append, Nat.zero_add, Nat.reduceAdd, Nat.reduceSub, Nat.reduceLT, if_true, if_false, Bool.false_eq_true, Bool.not_true, Bool.not_false, lstI, List.length_map]
    rw [ixN_nat (by omega)]
    simp only [sSeq, sRet, sRetF, sRetN, sIf, sNext, sSet, sOwn, sOwnP, sPar, sExpr, sFldI, sBreak, sCont, sDPutD, sParFF, sParEF, sParFE, sParEFF, wIsi, wVar, wC, wOp, wUn, wB, wCons, wNil, wTup, wLst, wDct, wTru, wTruth, wNot, wAndT, wOrT, wAndV, wOrV, wNotV, wIfE, wChain, wCall, wCallP, wCallPF, wMake, wMakeE, wM, wSl, wPart, wNoPart, wMeth, wFldC, wFldS, wProp, wBor, wBorT, wAppend, wPopAt, wExtend, wDGet2, wLstRng, wFmt, wJoined, jCons, jNil, gN, gTupW, gCons', gNil', iL, iT, iS, iR1, iR2, iZp, iEn, dAdd, dSub, dMul, dMod, dFdiv, dPow, dLt, dLe, dGt, dGe, dNeg, dIs, dIsNot, rLenD, rTupOf, rLstOf, rMax2, rMin2, rAbs, rIntOf, rStrOf, rDivmod, startE, Ev.get, Ev.set, Ev.lend, Ev.noSlf, Slot.lend, Slot.noSlf, Slot.isL, Slot.isDK, Slot.isPurse, List.map, List.all, List.length_cons, List.length_nil, List.replicate, List.append, List.cons_append, List.nil_append, Nat.zero_add, Nat.reduceAdd, Nat.reduceSub, Nat.reduceLT, if_true, if_false, Bool.false_eq_true, Bool.not_true, Bool.not_false]
    refine hM1 _ ?_
    have es : (zs.map D.int).set p.1 (D.int t) = (zs.set p.1 t).map D.int := by rw [List.map_set]
    rw [es]
    refine sizes_loop (kk := kk) r (zs.set p.1 t) _ _ (fun q hq => hp q (List.mem_cons_of_mem _ hq)) (by rw [List.length_set]; exact hl) (fun z hz' => ?_) hM
    rcases List.mem_or_eq_of_mem_set hz' with h | h
    · exact hz z h
    · omega
theorem p__law_sizes (ds : List D) (kk : D → Prop) (h : c__law_sizes ds kk no) : w__law_sizes { nx := fun ρ => ρ.get 0 = .purse ∧ kk .non, rt := fun d ρ => ρ.get 0 = .purse ∧ kk d } (.purse :: startE 6 ds) := by
  obtain ⟨a, b, rfl, ls, r, rfl, rfl, h6, hr, h⟩ := h
  have six : (6 : Nat) ≤ sizeLine := by have := small5; omega
  unfold w__law_sizes
  refine sSeq_gen fun M hM => ?_
  simp only [sSeq, sRet, sRetF, sRetN, sIf, sNext, sSet, sOwn, sOwnP, sPar, sExpr, sFldI, sBreak, sCont, sDPutD, sParFF, sParEF, sParFE, sParEFF, wIsi, wVar, wC, wOp, wUn, wB, wCons, wNil, wTup, wLst, wDct, wTru, wTruth, wNot, wAndT, wOrT, wAndV, wOrV, wNotV, wIfE, wChain, wCall, wCallP, wCallPF, wMake, wMakeE, wM, wSl, wPart, wNoPart, wMeth, wFldC, wFldS, wProp, wBor, wBorT, wAppend, wPopAt, wExtend, wDGet2, wLstRng, wFmt, wJoined, jCons, jNil, gN, gTupW, gCons', gNil', iL, iT, iS, iR1, iR2, iZp, iEn, dAdd, dSub, dMul, dMod, dFdiv, dPow, dLt, dLe, dGt, dGe, dNeg, dIs, dIsNot, rLenD, rTupOf, rLstOf, rMax2, rMin2, rAbs, rIntOf, rStrOf, rDivmod, startE, Ev.get, Ev.set, Ev.lend, Ev.noSlf, Slot.lend, Slot.noSlf, Slot.isL, Slot.isDK, Slot.isPurse, List.map, List.all, List.length_cons, List.length_nil, List.replicate, List.append, List.cons_append, List.nil_append, Nat.zero_add, Nat.reduceAdd, Nat.reduceSub, Nat.reduceLT, if_true, if_false, Bool.false_eq_true, Bool.not_true, Bool.not_false]
  refine ⟨by decide, wLc_i ?_⟩
  simp only [sSeq, sRet, sRetF, sRetN, sIf, sNext, sSet, sOwn, sOwnP, sPar, sExpr, sFldI, sBreak, sCont, sDPutD, sParFF, sParEF, sParFE, sParEFF, wIsi, wVar, wC, wOp, wUn, wB, wCons, wNil, wTup, wLst, wDct, wTru, wTruth, wNot, wAndT, wOrT, wAndV, wOrV, wNotV, wIfE, wChain, wCall, wCallP, wCallPF, wMake, wMakeE, wM, wSl, wPart, wNoPart, wMeth, wFldC, wFldS, wProp, wBor, wBorT, wAppend, wPopAt, wExtend, wDGet2, wLstRng, wFmt, wJoined, jCons, jNil, gN, gTupW, gCons', gNil', iL, iT, iS, iR1, iR2, iZp, iEn, dAdd, dSub, dMul, dMod, dFdiv, dPow, dLt, dLe, dGt, dGe, dNeg, dIs, dIsNot, rLenD, rTupOf, rLstOf, rMax2, rMin2, rAbs, rIntOf, rStrOf, rDivmod, startE, Ev.get, Ev.set, Ev.lend, Ev.noSlf, Slot.lend, Slot.noSlf, Slot.isL, Slot.isDK, Slot.isPurse, List.map, List.all, List.length_cons, List.length_nil, List.replicate, List.append, List.cons_append, List.nil_append, Nat.zero_add, Nat.reduceAdd, Nat.reduceSub, Nat.reduceLT, if_true, if_false, Bool.false_eq_true, Bool.not_true, Bool.not_false]
  refine ⟨by rw [List.length_map]; omega, ?_⟩
  simp only [Ev.wipe, sSeq, sRet, sRetF, sRetN, sIf, sNext, sSet, sOwn, sOwnP, sPar, sExpr, sFldI, sBreak, sCont, sDPutD, sParFF, sParEF, sParFE, sParEFF, wIsi, wVar, wC, wOp, wUn, wB, wCons, wNil, wTup, wLst, wDct, wTru, wTruth, wNot, wAndT, wOrT, wAndV, wOrV, wNotV, wIfE, wChain, wCall, wCallP, wCallPF, wMake, wMakeE, wM, wSl, wPart, wNoPart, wMeth, wFldC, wFldS, wProp, wBor, wBorT, wAppend, wPopAt, wExtend, wDGet2, wLstRng, wFmt, wJoined, jCons, jNil, gN, gTupW, gCons', gNil', iL, iT, iS, iR1, iR2, iZp, iEn, dAdd, dSub, dMul, dMod, dFdiv, dPow, dLt, dLe, dGt, dGe, dNeg, dIs, dIsNot, rLenD, rTupOf, rLstOf, rMax2, rMin2, rAbs, rIntOf, rStrOf, rDivmod, startE, Ev.get, Ev.set, Ev.lend, Ev.noSlf, Slot.lend, Slot.noSlf, Slot.isL, Slot.isDK, Slot.isPurse, List.map, List.all, List.length_cons, List.length_nil, List.replicate, List.append, List.cons_append, List.nil_append, Nat.zero_add, Nat.reduceAdd, Nat.reduceSub, Nat.reduceLT, if_true, if_false, Bool.false_eq_true, Bool.not_true, Bool.not_false]
  refine lcA (R := fun _ y => ∃ r : Int, 1 ≤ r ∧ y = .int r) (fun ρ => ρ = [.purse, .val (.tup (ls.map fun l : Str => .tup [.str l, .int 1, .non])), .val (rowD r), .un, .un, .un, .un]) ls _ _ rfl (fun l hl ρ hρ kk2 q => ?_) fun ys ρ' hρ hys => ?_
  · subst hρ
    simp only [sSeq, sRet, sRetF, sRetN, sIf, sNext, sSet, sOwn, sOwnP, sPar, sExpr, sFldI, sBreak, sCont, sDPutD, sParFF, sParEF, sParFE, sParEFF, wIsi, wVar, wC, wOp, wUn, wB, wCons, wNil, wTup, wLst, wDct, wTru, wTruth, wNot, wAndT, wOrT, wAndV, wOrV, wNotV, wIfE, wChain, wCall, wCallP, wCallPF, wMake, wMakeE, wM, wSl, wPart, wNoPart, wMeth, wFldC, wFldS, wProp, wBor, wBorT, wAppend, wPopAt, wExtend, wDGet2, wLstRng, wFmt, wJoined, jCons, jNil, gN, gTupW, gCons', gNil', iL, iT, iS, iR1, iR2, iZp, iEn, dAdd, dSub, dMul, dMod, dFdiv, dPow, dLt, dLe, dGt, dGe, dNeg, dIs, dIsNot, rLenD, rTupOf, rLstOf, rMax2, rMin2, rAbs, rIntOf, rStrOf, rDivmod, startE, Ev.get, Ev.set, Ev.lend, Ev.noSlf, Slot.lend, Slot.noSlf, Slot.isL, Slot.isDK, Slot.isPurse, List.map, List.all, List.length_cons, List.length_nil, List.replicate, List.append, List.cons_append, List.nil_append, Nat.zero_add, Nat.reduceAdd, Nat.reduceSub, Nat.reduceLT, if_true, if_false, Bool.false_eq_true, Bool.not_true, Bool.not_false]
    refine ⟨trivial, trivial, trivial, _, rfl, 20, rfl, by decide, by decide, fun t t0 t1 => ⟨trivial, _, _, rfl, l, _, rfl, rfl, fun t ht => q _ _ ⟨t, ht, rfl⟩ rfl⟩⟩
  · subst hρ
    obtain ⟨zs, rfl, el, hz⟩ := all2_ints hys
    simp only [sSeq, sRet, sRetF, sRetN, sIf, sNext, sSet, sOwn, sOwnP, sPar, sExpr, sFldI, sBreak, sCont, sDPutD, sParFF, sParEF, sParFE, sParEFF, wIsi, wVar, wC, wOp, wUn, wB, wCons, wNil, wTup, wLst, wDct, wTru, wTruth, wNot, wAndT, wOrT, wAndV, wOrV, wNotV, wIfE, wChain, wCall, wCallP, wCallPF, wMake, wMakeE, wM, wSl, wPart, wNoPart, wMeth, wFldC, wFldS, wProp, wBor, wBorT, wAppend, wPopAt, wExtend, wDGet2, wLstRng, wFmt, wJoined, jCons, jNil, gN, gTupW, gCons', gNil', iL, iT, iS, iR1, iR2, iZp, iEn, dAdd, dSub, dMul, dMod, dFdiv, dPow, dLt, dLe, dGt, dGe, dNeg, dIs, dIsNot, rLenD, rTupOf, rLstOf, rMax2, rMin2, rAbs, rIntOf, rStrOf, rDivmod, startE, Ev.get, Ev.set, Ev.lend, Ev.noSlf, Slot.lend, Slot.noSlf, Slot.isL, Slot.isDK, Slot.isPurse, List.map, List.all, List.length_cons, List.length_nil, List.replicate, List.append, List.cons_append, List.nil_append, Nat.zero_add, Nat.reduceAdd, Nat.reduceSub, Nat.reduceLT, if_true, if_false, Bool.false_eq_true, Bool.not_true, Bool.not_false]
    refine hM _ (sSeq_gen fun M1 hM1 => ?_)
    simp only [sFor, sSeq, sRet, sRetF, sRetN, sIf, sNext, sSet, sOwn, sOwnP, sPar, sExpr, sFldI, sBreak, sCont, sDPutD, sParFF, sParEF, sParFE, sParEFF, wIsi, wVar, wC, wOp, wUn, wB, wCons, wNil, wTup, wLst, wDct, wTru, wTruth, wNot, wAndT, wOrT, wAndV, wOrV, wNotV, wIfE, wChain, wCall, wCallP, wCallPF, wMake, wMakeE, wM, wSl, wPart, wNoPart, wMeth, wFldC, wFldS, wProp, wBor, wBorT, wAppend, wPopAt, wExtend, wDGet2, wLstRng, wFmt, wJoined, jCons, jNil, gN, gTupW, gCons', gNil', iL, iT, iS, iR1, iR2, iZp, iEn, dAdd, dSub, dMul, dMod, dFdiv, dPow, dLt, dLe, dGt, dGe, dNeg, dIs, dIsNot, rLenD, rTupOf, rLstOf, rMax2, rMin2, rAbs, rIntOf, rStrOf, rDivmod, startE, Ev.get, Ev.set, Ev.lend, Ev.noSlf, Slot.lend, Slot.noSlf, Slot.isL, Slot.isDK, Slot.isPurse, List.map, List.all, List.length_cons, List.length_nil, List.replicate, List.append, List.cons_append, List.nil_append, Nat.zero_add, Nat.reduceAdd, Nat.reduceSub, Nat.reduceLT, if_true, if_false, Bool.false_eq_true, Bool.not_true, Bool.not_false, rowD]
    refine sizes_loop (kk := kk) r zs .un .un hr.2.2.1 el hz fun zs s4 s5 el hz => hM1 _ ?_
    simp only [sSeq, sRet, sRetF, sRetN, sIf, sNext, sSet, sOwn, sOwnP, sPar, sExpr, sFldI, sBreak, sCont, sDPutD, sParFF, sParEF, sParFE, sParEFF, wIsi, wVar, wC, wOp, wUn, wB, wCons, wNil, wTup, wLst, wDct, wTru, wTruth, wNot, wAndT, wOrT, wAndV, wOrV, wNotV, wIfE, wChain, wCall, wCallP, wCallPF, wMake, wMakeE, wM, wSl, wPart, wNoPart, wMeth, wFldC, wFldS, wProp, wBor, wBorT, wAppend, wPopAt, wExtend, wDGet2, wLstRng, wFmt, wJoined, jCons, jNil, gN, gTupW, gCons', gNil', iL, iT, iS, iR1, iR2, iZp, iEn, dAdd, dSub, dMul, dMod, dFdiv, dPow, dLt, dLe, dGt, dGe, dNeg, dIs, dIsNot, rLenD, rTupOf, rLstOf, rMax2, rMin2, rAbs, rIntOf, rStrOf, rDivmod, startE, Ev.get, Ev.set, Ev.lend, Ev.noSlf, Slot.lend, Slot.noSlf, Slot.isL, Slot.isDK, Slot.isPurse, List.map, List.all, List.length_cons, List.length_nil, List.replicate, List.append, List.cons_append, List.nil_append, Nat.zero_add, Nat.reduceAdd, Nat.reduceSub, Nat.reduceLT, if_true, if_false, Bool.false_eq_true, Bool.not_true, Bool.not_false, lstI]
    exact ⟨trivial, h zs el hz⟩
theorem n__law_moved {ds : List D} {kk : D → Prop} {kx : XC} (h : c__law_moved ds kk kx) : ds.length + 1 = 4 := by
  obtain ⟨a, b, c, rfl, _⟩ := h; rfl
def seqF (i : Nat) : Nat → List D
  | 0 => []
  | n + 1 => .int (i : Int) :: seqF (i + 1) n
theorem seqF_eq (n : Nat) : seqI 0 n = seqF 0 n := by
  have key : ∀ (n i : Nat), (List.range' i n).map (fun i : Nat => D.int (0 + (i : Int))) = seqF i n := by
    intro n
    induction n with
    | zero => intro i; rfl
    | succ n ih =>
      intro i
      rw [List.range'_succ, List.map_cons, ih]
      simp [seqF]
  unfold seqI
  rw [List.range_eq_range']
  exact key n 0
theorem moved_loop {Zs Cs : List Int} {bb : Bool} {way : Int} {M : Ev → Prop} {rt : D → Ev → Prop} {rf : D → Ev → Prop} (hw : 0 ≤ way ∧ way < 3) (h6 : Zs.length ≤ 6) : ∀ (zs cs : List Int) (i : Nat) (za ca : List Int) (s7 s8 s9 s10 : Slot), Zs.drop i = zs → Cs.drop i = cs → zs.length = cs.length → (∀ p ∈ zs.zip cs, 1 ≤ p.1 ∧ 0 ≤ p.2 ∧ p.2 ≤ p.1) → za.length = i → ca.length = i → i + zs.length ≤ 6 →
    (∀ zs' cs' s7 s8 s9 s10, Moved bb zs cs zs' cs' → M [.purse, .val (tupI Zs), .val (lstI Cs), .val (.bl bb), .val (.int way), .own (lstI (za ++ zs')), .own (lstI (ca ++ cs')), s7, s8, s9, s10]) →
    forL (gN 7) (sSeq (sPar 8 9 (wCons (wOp dIx (wVar 1) (wVar 7)) (wCons (wOp dIx (wVar 2) (wVar 7)) wNil)))
    (sSeq (sIf (wTru (wOp dEq (wVar 4) (wC (.int 0)))) (sSeq (sSet (wCallP 0 c__law_part (wCons (wIfE (wTruth (wVar 3)) (wOp dSub (wVar 8) (wVar 9)) (wVar 9)) wNil)) (gN 10))
    (sSet (wIfE (wTruth (wVar 3)) (wOp dAdd (wVar 9) (wVar 10)) (wOp dSub (wVar 9) (wVar 10))) (gN 9))) (sIf (wAndT (wTru (wOp dEq (wVar 4) (wC (.int 1)))) (wTruth (wVar 3))) (sSeq (sSet (wCallP 0 c__law_part (wCons (wOp dPow (wC (.int 10)) (wC (.int 30))) wNil)) (gN 10))
    (sPar 8 9 (wCons (wOp dAdd (wVar 8) (wVar 10)) (wCons (wOp dAdd (wVar 9) (wVar 10)) wNil)))) (sIf (wTru (wOp dEq (wVar 4) (wC (.int 1)))) (sSeq (sSet (wCallP 0 c__law_part (wCons (wB rMin2 (wCons (wOp dSub (wVar 8) (wC (.int 1))) (wCons (wVar 9) wNil))) wNil)) (gN 10))
    (sPar 8 9 (wCons (wOp dSub (wVar 8) (wVar 10)) (wCons (wOp dSub (wVar 9) (wVar 10)) wNil)))) (sIf (wTruth (wVar 3)) (sSet (wOp dSub (wVar 8) (wCallP 0 c__law_part (wCons (wB rMin2 (wCons (wOp dSub (wVar 8) (wC (.int 1))) (wCons (wOp dSub (wVar 8) (wVar 9)) wNil))) wNil))) (gN 8)) (sSet (wOp dAdd (wVar 8) (wCallP 0 c__law_part (wCons (wOp dPow (wC (.int 10)) (wC (.int 30))) wNil))) (gN 8))))))
    (sSeq (sExpr (wAppend 5 (wVar 8)))
    (sExpr (wAppend 6 (wVar 9)))))) ⟨M, rt, fun _ => False, fun _ => False, rf⟩ (seqF i zs.length) [.purse, .val (tupI Zs), .val (lstI Cs), .val (.bl bb), .val (.int way), .own (lstI za), .own (lstI ca), s7, s8, s9, s10]
  | [], [], i, za, ca, s7, s8, s9, s10, _, _, _, _, _, _, _, hM => by
    have := hM [] [] s7 s8 s9 s10 trivial
    rw [List.append_nil, List.append_nil] at this
    exact this
  | [], _ :: _, _, _, _, _, _, _, _, _, _, h, _, _, _, _, _ => by simp at h
  | _ :: _, [], _, _, _, _, _, _, _, _, _, h, _, _, _, _, _ => by simp at h
  | z :: zs, c :: cs, i, za, ca, s7, s8, s9, s10, hZ, hC, hl, hb, ha, hc, hi, hM => by
    refine forL_gen fun M1 hM1 => ?_
    simp only [List.length_cons] at hi hl
    obtain ⟨b1, b2, b3⟩ := hb (z, c) (List.mem_cons_self ..)
    have b1 : 1 ≤ z := b1
    have b2 : 0 ≤ c := b2
    have b3 : c ≤ z := b3
    have six : (6 : Nat) ≤ sizeLine := by have := small5; omega
    have ez : atI (Zs.map D.int) (i : Int) = some (.int z) := atI_nat (by
      have : Zs[i]? = some z := by rw [← List.head?_drop, hZ]; rfl
      rw [List.getElem?_map, this]; rfl)
    have ec : atI (Cs.map D.int) (i : Int) = some (.int c) := atI_nat (by
      have : Cs[i]? = some c := by rw [← List.head?_drop, hC]; rfl
      rw [List.getElem?_map, this]; rfl)
    have fin : ∀ z' c' s10, Mv bb z c z' c' → M1 [.purse, .val (tupI Zs), .val (lstI Cs), .val (.bl bb), .val (.int way), .own (lstI (za ++ [z'])), .own (lstI (ca ++ [c'])), .val (.int i), .val (.int z'), .val (.int c'), s10] := fun z' c' s10 mv => by
      refine hM1 _ ?_
      refine moved_loop hw h6 zs cs (i + 1) (za ++ [z']) (ca ++ [c']) _ _ _ _ ?_ ?_ (by omega) (fun p hp => hb p (List.mem_cons_of_mem _ hp)) (by simp [ha]) (by simp [hc]) (by omega) fun zs' cs' s7 s8 s9 s10 mv2 => ?_
      · rw [← List.drop_drop, hZ]; rfl
      · rw [← List.drop_drop, hC]; rfl
      · have := hM (z' :: zs') (c' :: cs') s7 s8 s9 s10 ⟨mv, mv2⟩
        rw [List.append_assoc, List.append_assoc]
        exact this
    refine sSeq_gen fun M2 hM2 => ?_
    simp only [sSeq, sRet, sRetF, sRetN, sIf, sNext, sSet, sOwn, sOwnP, sPar, sExpr, sFldI, sBreak, sCont, sDPutD, sParFF, sParEF, sParFE, sParEFF, wIsi, wVar, wC, wOp, wUn, wB, wCons, wNil, wTup, wLst, wDct, wTru, wTruth, wNot, wAndT, wOrT, wAndV, wOrV, wNotV, wIfE, wChain, wCall, wCallP, wCallPF, wMake, wMakeE, wM, wSl, wPart, wNoPart, wMeth, wFldC, wFldS, wProp, wBor, wBorT, wAppend, wPopAt, wExtend, wDGet2, wLstRng, wFmt, wJoined, jCons, jNil, gN, gTupW, gCons', gNil', iL, iT, iS, iR1, iR2, iZp, iEn, dAdd, dSub, dMul, dMod, dFdiv, dPow, dLt, dLe, dGt, dGe, dNeg, dIs, dIsNot, rLenD, rTupOf, rLstOf, rMax2, rMin2, rAbs, rIntOf, rStrOf, rDivmod, startE, Ev.get, Ev.set, Ev.lend, Ev.noSlf, Slot.lend, Slot.noSlf, Slot.isL, Slot.isDK, Slot.isPurse, List.map, List.all, List.length_cons, List.length_nil, List.replicate, List.append, List.cons_append, List.nil_append, Nat.zero_add, Nat.reduceAdd, Nat.reduceSub, Nat.reduceLT, if_true, if_false, Bool.false_eq_true, Bool.not_true, Bool.not_false, dIx, tupI, lstI, ez, ec]
    refine hM2 _ (sSeq_gen fun M3 hM3 => ?_)
    have push : ∀ z' c' s10, Mv bb z c z' c' → M3 [.purse, .val (tupI Zs), .val (lstI Cs), .val (.bl bb), .val (.int way), .own (lstI za), .own (lstI ca), .val (.int i), .val (.int z'), .val (.int c'), s10] := fun z' c' s10 mv => by
      refine hM3 _ (sSeq_gen fun M4 hM4 => ?_)
      simp only [sSeq, sRet, sRetF, sRetN, sIf, sNext, sSet, sOwn, sOwnP, sPar, sExpr, sFldI, sBreak, sCont, sDPutD, sParFF, sParEF, sParFE, sParEFF, wIsi, wVar, wC, wOp, wUn, wB, wCons, wNil, wTup, wLst, wDct, wTru, wTruth, wNot, wAndT, wOrT, wAndV, wOrV, wNotV, wIfE, wChain, wCall, wCallP, wCallPF, wMake, wMakeE, wM, wSl, wPart, wNoPart, wMeth, wFldC, wFldS, wProp, wBor, wBorT, wAppend, wPopAt, wExtend, wDGet2, wLstRng, wFmt, wJoined, jCons, jNil, gN, gTupW, gCons', gNil', iL, iT, iS, iR1, iR2, iZp, iEn, dAdd, dSub, dMul, dMod, dFdiv, dPow, dLt, dLe, dGt, dGe, dNeg, dIs, dIsNot, rLenD, rTupOf, rLstOf, rMax2, rMin2, rAbs, rIntOf, rStrOf, rDivmod, startE, Ev.get, Ev.set, Ev.lend, Ev.noSlf, Slot.lend, Slot.noSlf, Slot.isL, Slot.isDK, Slot.isPurse, List.map, List.all, List.length_cons, List.length_nil, List.replicate, List.append, List.cons_append, List.nil_append, Nat.zero_add, Nat.reduceAdd, Nat.reduceSub, Nat.reduceLT, if_true, if_false, Bool.false_eq_true, Bool.not_true, Bool.not_false, lstI]
      refine ⟨trivial, by rw [List.length_map, ha]; omega, hM4 _ ?_⟩
      simp only [sSeq, sRet, sRetF, sRetN, sIf, sNext, sSet, sOwn, sOwnP, sPar, sExpr, sFldI, sBreak, sCont, sDPutD, sParFF, sParEF, sParFE, sParEFF, wIsi, wVar, wC, wOp, wUn, wB, wCons, wNil, wTup, wLst, wDct, wTru, wTruth, wNot, wAndT, wOrT, wAndV, wOrV, wNotV, wIfE, wChain, wCall, wCallP, wCallPF, wMake, wMakeE, wM, wSl, wPart, wNoPart, wMeth, wFldC, wFldS, wProp, wBor, wBorT, wAppend, wPopAt, wExtend, wDGet2, wLstRng, wFmt, wJoined, jCons, jNil, gN, gTupW, gCons', gNil', iL, iT, iS, iR1, iR2, iZp, iEn, dAdd, dSub, dMul, dMod, dFdiv, dPow, dLt, dLe, dGt, dGe, dNeg, dIs, dIsNot, rLenD, rTupOf, rLstOf, rMax2, rMin2, rAbs, rIntOf, rStrOf, rDivmod, startE, Ev.get, Ev.set, Ev.lend, Ev.noSlf, Slot.lend, Slot.noSlf, Slot.isL, Slot.isDK, Slot.isPurse, List.map, List.all, List.length_cons, List.length_nil, List.replicate, List.append, List.cons_append, List.nil_append, Nat.zero_add, Nat.reduceAdd, Nat.reduceSub, Nat.reduceLT, if_true, if_false, Bool.false_eq_true, Bool.not_true, Bool.not_false, lstI]
      refine ⟨trivial, by rw [List.length_map, hc]; omega, ?_⟩
      have e1 : za.map D.int ++ [D.int z'] = (za ++ [z']).map D.int := by simp
      have e2 : ca.map D.int ++ [D.int c'] = (ca ++ [c']).map D.int := by simp
      rw [e1, e2]
      exact fin z' c' s10 mv
    have e30 : (0 : Int) ≤ (10 : Int) ^ (30 : Int).toNat := by decide +kernel
    have cp : CPow 10 30 := ⟨by decide, by decide, by decide⟩
    by_cases q0 : way = 0
    · cases bb with
      | true =>
        simp only [sSeq, sRet, sRetF, sRetN, sIf, sNext, sSet, sOwn, sOwnP, sPar, sExpr, sFldI, sBreak, sCont, sDPutD, sParFF, sParEF, sParFE, sParEFF, wIsi, wVar, wC, wOp, wUn, wB, wCons, wNil, wTup, wLst, wDct, wTru, wTruth, wNot, wAndT, wOrT, wAndV, wOrV, wNotV, wIfE, wChain, wCall, wCallP, wCallPF, wMake, wMakeE, wM, wSl, wPart, wNoPart, wMeth, wFldC, wFldS, wProp, wBor, wBorT, wAppend, wPopAt, wExtend, wDGet2, wLstRng, wFmt, wJoined, jCons, jNil, gN, gTupW, gCons', gNil', iL, iT, iS, iR1, iR2, iZp, iEn, dAdd, dSub, dMul, dMod, dFdiv, dPow, dLt, dLe, dGt, dGe, dNeg, dIs, dIsNot, rLenD, rTupOf, rLstOf, rMax2, rMin2, rAbs, rIntOf, rStrOf, rDivmod, startE, Ev.get, Ev.set, Ev.lend, Ev.noSlf, Slot.lend, Slot.noSlf, Slot.isL, Slot.isDK, Slot.isPurse, List.map, List.all, List.length_cons, List.length_nil, List.replicate, List.append, List.cons_append, List.nil_append, Nat.zero_add, Nat.reduceAdd, Nat.reduceSub, Nat.reduceLT, if_true, if_false, Bool.false_eq_true, Bool.not_true, Bool.not_false, dEq_int, decide_eq_true q0]
        refine ⟨trivial, trivial, _, rfl, _, rfl, by omega, fun r r0 r1 => ?_⟩
        exact push z (c + r) _ ⟨b1, by omega, by omega, by rw [if_pos rfl]; omega⟩
      | false =>
        simp only [sSeq, sRet, sRetF, sRetN, sIf, sNext, sSet, sOwn, sOwnP, sPar, sExpr, sFldI, sBreak, sCont, sDPutD, sParFF, sParEF, sParFE, sParEFF, wIsi, wVar, wC, wOp, wUn, wB, wCons, wNil, wTup, wLst, wDct, wTru, wTruth, wNot, wAndT, wOrT, wAndV, wOrV, wNotV, wIfE, wChain, wCall, wCallP, wCallPF, wMake, wMakeE, wM, wSl, wPart, wNoPart, wMeth, wFldC, wFldS, wProp, wBor, wBorT, wAppend, wPopAt, wExtend, wDGet2, wLstRng, wFmt, wJoined, jCons, jNil, gN, gTupW, gCons', gNil', iL, iT, iS, iR1, iR2, iZp, iEn, dAdd, dSub, dMul, dMod, dFdiv, dPow, dLt, dLe, dGt, dGe, dNeg, dIs, dIsNot, rLenD, rTupOf, rLstOf, rMax2, rMin2, rAbs, rIntOf, rStrOf, rDivmod, startE, Ev.get, Ev.set, Ev.lend, Ev.noSlf, Slot.lend, Slot.noSlf, Slot.isL, Slot.isDK, Slot.isPurse, List.map, List.all, List.length_cons, List.length_nil, List.replicate, List.append, List.cons_append, List.nil_append, Nat.zero_add, Nat.reduceAdd, Nat.reduceSub, Nat.reduceLT, if_true, if_false, Bool.false_eq_true, Bool.not_true, Bool.not_false, dEq_int, decide_eq_true q0]
        refine ⟨trivial, trivial, _, rfl, _, rfl, by omega, fun r r0 r1 => ?_⟩
        exact push z (c - r) _ ⟨b1, by omega, by omega, by rw [if_neg Bool.false_ne_true]; omega⟩
    · by_cases q1 : way = 1
      · cases bb with
        | true =>
          simp only [sSeq, sRet, sRetF, sRetN, sIf, sNext, sSet, sOwn, sOwnP, sPar, sExpr, sFldI, sBreak, sCont, sDPutD, sParFF, sParEF, sParFE, sParEFF, wIsi, wVar, wC, wOp, wUn, wB, wCons, wNil, wTup, wLst, wDct, wTru, wTruth, wNot, wAndT, wOrT, wAndV, wOrV, wNotV, wIfE, wChain, wCall, wCallP, wCallPF, wMake, wMakeE, wM, wSl, wPart, wNoPart, wMeth, wFldC, wFldS, wProp, wBor, wBorT, wAppend, wPopAt, wExtend, wDGet2, wLstRng, wFmt, wJoined, jCons, jNil, gN, gTupW, gCons', gNil', iL, iT, iS, iR1, iR2, iZp, iEn, dAdd, dSub, dMul, dMod, dFdiv, dPow, dLt, dLe, dGt, dGe, dNeg, dIs, dIsNot, rLenD, rTupOf, rLstOf, rMax2, rMin2, rAbs, rIntOf, rStrOf, rDivmod, startE, Ev.get, Ev.set, Ev.lend, Ev.noSlf, Slot.lend, Slot.noSlf, Slot.isL, Slot.isDK, Slot.isPurse, List.map, List.all, List.length_cons, List.length_nil, List.replicate, List.append, List.cons_append, List.nil_append, Nat.zero_add, Nat.reduceAdd, Nat.reduceSub, Nat.reduceLT, if_true, if_false, Bool.false_eq_true, Bool.not_true, Bool.not_false, dEq_int, decide_eq_false q0, decide_eq_true q1]
          refine ⟨trivial, cp, trivial, _, rfl, _, rfl, e30, fun r r0 r1 => ?_⟩
          exact push (z + r) (c + r) _ ⟨by omega, by omega, by omega, by rw [if_pos rfl]; omega⟩
        | false =>
          simp only [sSeq, sRet, sRetF, sRetN, sIf, sNext, sSet, sOwn, sOwnP, sPar, sExpr, sFldI, sBreak, sCont, sDPutD, sParFF, sParEF, sParFE, sParEFF, wIsi, wVar, wC, wOp, wUn, wB, wCons, wNil, wTup, wLst, wDct, wTru, wTruth, wNot, wAndT, wOrT, wAndV, wOrV, wNotV, wIfE, wChain, wCall, wCallP, wCallPF, wMake, wMakeE, wM, wSl, wPart, wNoPart, wMeth, wFldC, wFldS, wProp, wBor, wBorT, wAppend, wPopAt, wExtend, wDGet2, wLstRng, wFmt, wJoined, jCons, jNil, gN, gTupW, gCons', gNil', iL, iT, iS, iR1, iR2, iZp, iEn, dAdd, dSub, dMul, dMod, dFdiv, dPow, dLt, dLe, dGt, dGe, dNeg, dIs, dIsNot, rLenD, rTupOf, rLstOf, rMax2, rMin2, rAbs, rIntOf, rStrOf, rDivmod, startE, Ev.get, Ev.set, Ev.lend, Ev.noSlf, Slot.lend, Slot.noSlf, Slot.isL, Slot.isDK, Slot.isPurse, List.map, List.all, List.length_cons, List.length_nil, List.replicate, List.append, List.cons_append, List.nil_append, Nat.zero_add, Nat.reduceAdd, Nat.reduceSub, Nat.reduceLT, if_true, if_false, Bool.false_eq_true, Bool.not_true, Bool.not_false, dEq_int, decide_eq_false q0, decide_eq_true q1]
          refine ⟨trivial, trivial, _, rfl, _, rfl, by split <;> omega, fun r r0 r1 => ?_⟩
          exact push (z - r) (c - r) _ ⟨by split at r1 <;> omega, by split at r1 <;> omega, by omega, by rw [if_neg Bool.false_ne_true]; omega⟩
      · cases bb with
        | true =>
          simp only [sSeq, sRet, sRetF, sRetN, sIf, sNext, sSet, sOwn, sOwnP, sPar, sExpr, sFldI, sBreak, sCont, sDPutD, sParFF, sParEF, sParFE, sParEFF, wIsi, wVar, wC, wOp, wUn, wB, wCons, wNil, wTup, wLst, wDct, wTru, wTruth, wNot, wAndT, wOrT, wAndV, wOrV, wNotV, wIfE, wChain, wCall, wCallP, wCallPF, wMake, wMakeE, wM, wSl, wPart, wNoPart, wMeth, wFldC, wFldS, wProp, wBor, wBorT, wAppend, wPopAt, wExtend, wDGet2, wLstRng, wFmt, wJoined, jCons, jNil, gN, gTupW, gCons', gNil', iL, iT, iS, iR1, iR2, iZp, iEn, dAdd, dSub, dMul, dMod, dFdiv, dPow, dLt, dLe, dGt, dGe, dNeg, dIs, dIsNot, rLenD, rTupOf, rLstOf, rMax2, rMin2, rAbs, rIntOf, rStrOf, rDivmod, startE, Ev.get, Ev.set, Ev.lend, Ev.noSlf, Slot.lend, Slot.noSlf, Slot.isL, Slot.isDK, Slot.isPurse, List.map, List.all, List.length_cons, List.length_nil, List.replicate, List.append, List.cons_append, List.nil_append, Nat.zero_add, Nat.reduceAdd, Nat.reduceSub, Nat.reduceLT, if_true, if_false, Bool.false_eq_true, Bool.not_true, Bool.not_false, dEq_int, decide_eq_false q0, decide_eq_false q1]
          refine ⟨trivial, trivial, _, rfl, _, rfl, by split <;> omega, fun r r0 r1 => ?_⟩
          exact push (z - r) c _ ⟨by split at r1 <;> omega, b2, by split at r1 <;> omega, by rw [if_pos rfl]; omega⟩
        | false =>
          simp only [sSeq, sRet, sRetF, sRetN, sIf, sNext, sSet, sOwn, sOwnP, sPar, sExpr, sFldI, sBreak, sCont, sDPutD, sParFF, sParEF, sParFE, sParEFF, wIsi, wVar, wC, wOp, wUn, wB, wCons, wNil, wTup, wLst, wDct, wTru, wTruth, wNot, wAndT, wOrT, wAndV, wOrV, wNotV, wIfE, wChain, wCall, wCallP, wCallPF, wMake, wMakeE, wM, wSl, wPart, wNoPart, wMeth, wFldC, wFldS, wProp, wBor, wBorT, wAppend, wPopAt, wExtend, wDGet2, wLstRng, wFmt, wJoined, jCons, jNil, gN, gTupW, gCons', gNil', iL, iT, iS, iR1, iR2, iZp, iEn, dAdd, dSub, dMul, dMod, dFdiv, dPow, dLt, dLe, dGt, dGe, dNeg, dIs, dIsNot, rLenD, rTupOf, rLstOf, rMax2, rMin2, rAbs, rIntOf, rStrOf, rDivmod, startE, Ev.get, Ev.set, Ev.lend, Ev.noSlf, Slot.lend, Slot.noSlf, Slot.isL, Slot.isDK, Slot.isPurse, List.map, List.all, List.length_cons, List.length_nil, List.replicate, List.append, List.cons_append, List.nil_append, Nat.zero_add, Nat.reduceAdd, Nat.reduceSub, Nat.reduceLT, if_true, if_false, Bool.false_eq_true, Bool.not_true, Bool.not_false, dEq_int, decide_eq_false q0, decide_eq_false q1]
          refine ⟨trivial, cp, trivial, _, rfl, _, rfl, e30, fun r r0 r1 => ?_⟩
          exact push (z + r) c _ ⟨by omega, b2, by omega, by rw [if_neg Bool.false_ne_true]; omega⟩
theorem p__law_moved (ds : List D) (kk : D → Prop) (h : c__law_moved ds kk no) : w__law_moved { nx := fun ρ => ρ.get 0 = .purse ∧ kk .non, rt := fun d ρ => ρ.get 0 = .purse ∧ kk d } (.purse :: startE 10 ds) := by
  obtain ⟨a, b, c, rfl, zs, cs, bb, rfl, rfl, rfl, hl, h6, hp, h⟩ := h
  unfold w__law_moved
  refine sSeq_gen fun M hM => ?_
  simp only [sSeq, sRet, sRetF, sRetN, sIf, sNext, sSet, sOwn, sOwnP, sPar, sExpr, sFldI, sBreak, sCont, sDPutD, sParFF, sParEF, sParFE, sParEFF, wIsi, wVar, wC, wOp, wUn, wB, wCons, wNil, wTup, wLst, wDct, wTru, wTruth, wNot, wAndT, wOrT, wAndV, wOrV, wNotV, wIfE, wChain, wCall, wCallP, wCallPF, wMake, wMakeE, wM, wSl, wPart, wNoPart, wMeth, wFldC, wFldS, wProp, wBor, wBorT, wAppend, wPopAt, wExtend, wDGet2, wLstRng, wFmt, wJoined, jCons, jNil, gN, gTupW, gCons', gNil', iL, iT, iS, iR1, iR2, iZp, iEn, dAdd, dSub, dMul, dMod, dFdiv, dPow, dLt, dLe, dGt, dGe, dNeg, dIs, dIsNot, rLenD, rTupOf, rLstOf, rMax2, rMin2, rAbs, rIntOf, rStrOf, rDivmod, startE, Ev.get, Ev.set, Ev.lend, Ev.noSlf, Slot.lend, Slot.noSlf, Slot.isL, Slot.isDK, Slot.isPurse, List.map, List.all, List.length_cons, List.length_nil, List.replicate, List.append, List.cons_append, List.nil_append, Nat.zero_add, Nat.reduceAdd, Nat.reduceSub, Nat.reduceLT, if_true, if_false, Bool.false_eq_true, Bool.not_true, Bool.not_false]
  refine ⟨by decide, by decide, trivial, trivial, _, rfl, 3, rfl, by decide, by decide, fun w w0 w1 => ⟨by decide +kernel, by decide +kernel, hM _ (sSeq_gen fun M1 hM1 => ?_)⟩⟩
  simp only [sFor, sSeq, sRet, sRetF, sRetN, sIf, sNext, sSet, sOwn, sOwnP, sPar, sExpr, sFldI, sBreak, sCont, sDPutD, sParFF, sParEF, sParFE, sParEFF, wIsi, wVar, wC, wOp, wUn, wB, wCons, wNil, wTup, wLst, wDct, wTru, wTruth, wNot, wAndT, wOrT, wAndV, wOrV, wNotV, wIfE, wChain, wCall, wCallP, wCallPF, wMake, wMakeE, wM, wSl, wPart, wNoPart, wMeth, wFldC, wFldS, wProp, wBor, wBorT, wAppend, wPopAt, wExtend, wDGet2, wLstRng, wFmt, wJoined, jCons, jNil, gN, gTupW, gCons', gNil', iL, iT, iS, iR1, iR2, iZp, iEn, dAdd, dSub, dMul, dMod, dFdiv, dPow, dLt, dLe, dGt, dGe, dNeg, dIs, dIsNot, rLenD, rTupOf, rLstOf, rMax2, rMin2, rAbs, rIntOf, rStrOf, rDivmod, startE, Ev.get, Ev.set, Ev.lend, Ev.noSlf, Slot.lend, Slot.noSlf, Slot.isL, Slot.isDK, Slot.isPurse, List.map, List.all, List.length_cons, List.length_nil, List.replicate, List.append, List.cons_append, List.nil_append, Nat.zero_add, Nat.reduceAdd, Nat.reduceSub, Nat.reduceLT, if_true, if_false, Bool.false_eq_true, Bool.not_true, Bool.not_false, tupI]
  refine ⟨⟨by omega, by rw [List.length_map]; omega⟩, ?_⟩
  rw [List.length_map, Int.toNat_natCast, seqF_eq]
  refine moved_loop ⟨w0, w1⟩ h6 zs cs 0 [] [] .un .un .un .un rfl rfl hl hp rfl rfl (by omega) fun zs' cs' s7 s8 s9 s10 mv => hM1 _ ?_
  simp only [sSeq, sRet, sRetF, sRetN, sIf, sNext, sSet, sOwn, sOwnP, sPar, sExpr, sFldI, sBreak, sCont, sDPutD, sParFF, sParEF, sParFE, sParEFF, wIsi, wVar, wC, wOp, wUn, wB, wCons, wNil, wTup, wLst, wDct, wTru, wTruth, wNot, wAndT, wOrT, wAndV, wOrV, wNotV, wIfE, wChain, wCall, wCallP, wCallPF, wMake, wMakeE, wM, wSl, wPart, wNoPart, wMeth, wFldC, wFldS, wProp, wBor, wBorT, wAppend, wPopAt, wExtend, wDGet2, wLstRng, wFmt, wJoined, jCons, jNil, gN, gTupW, gCons', gNil', iL, iT, iS, iR1, iR2, iZp, iEn, dAdd, dSub, dMul, dMod, dFdiv, dPow, dLt, dLe, dGt, dGe, dNeg, dIs, dIsNot, rLenD, rTupOf, rLstOf, rMax2, rMin2, rAbs, rIntOf, rStrOf, rDivmod, startE, Ev.get, Ev.set, Ev.lend, Ev.noSlf, Slot.lend, Slot.noSlf, Slot.isL, Slot.isDK, Slot.isPurse, List.map, List.all, List.length_cons, List.length_nil, List.replicate, List.append, List.cons_append, List.nil_append, Nat.zero_add, Nat.reduceAdd, Nat.reduceSub, Nat.reduceLT, if_true, if_false, Bool.false_eq_true, Bool.not_true, Bool.not_false, lstI]
  exact ⟨by show (2 : Nat) ≤ sizeLine; have := small5; omega, trivial, h zs' cs' mv⟩
end W
set_option Elab.async false
set_option linter.all false
set_option maxRecDepth 100000
set_option maxHeartbeats 4000000
namespace W
open PySem PySem.Spec PyProof.Rows L2 Q
theorem n__law_option {ds : List D} {kk : D → Prop} {kx : XC} (h : c__law_option ds kk kx) : ds.length + 1 = 3 := by
  obtain ⟨a, b, rfl, _⟩ := h; rfl
def natL (l : List Nat) : D := .lst (l.map fun i : Nat => D.int (i : Int))
theorem erase_map {α β : Type} (f : α → β) : ∀ (l : List α) (n : Nat), (l.map f).eraseIdx n = (l.eraseIdx n).map f
  | [], n => by simp
  | a :: l, 0 => rfl
  | a :: l, n + 1 => by simp [erase_map f l n]
theorem option_loop {m : Nat} {a b : D} {M : Ev → Prop} {rt : D → Ev → Prop} {rf : D → Ev → Prop} (h6 : m ≤ 6) : ∀ (ds : List D) (l : List Nat) (r : Row) (s5 : Slot), ds.length ≤ l.length → l.length + r.length ≤ m → l.Nodup → (∀ i ∈ l, i < m) → (∀ p ∈ r, p.1 < m ∧ wOk p.2) → (r.map (·.1)).Nodup → (∀ i ∈ l, i ∉ r.map (·.1)) →
    (∀ (l : List Nat) (r2 : Row) (s5 : Slot), r2.length = r.length + ds.length → (∀ p ∈ r2, p.1 < m ∧ wOk p.2) → (r2.map (·.1)).Nodup → M [.purse, .val a, .val b, .own (natL l), .own (rowD r2), s5]) →
    forL (gN 5) (sExpr (wAppend 4 (wTup (wCons (wPopAt 3 (wCallP 0 c__law_draw (wCons (wBor (wB rLenD (wCons (wVar 3) wNil))) wNil))) (wCons (wCallP 0 c__law_word wNil) wNil))))) ⟨M, rt, fun _ => False, fun _ => False, rf⟩ ds [.purse, .val a, .val b, .own (natL l), .own (rowD r), s5]
  | [], l, r, s5, _, _, _, _, h5, h7, _, hM => hM l r s5 rfl h5 h7
  | d :: ds, l, r, s5, h1, h2, h3, h4, h5, h7, h8, hM => by
    refine forL_gen fun M1 hM1 => ?_
    simp only [List.length_cons] at h1
    have six : (6 : Nat) ≤ sizeLine := by have := small5; omega
    simp only [sSeq, sRet, sRetF, sRetN, sIf, sNext, sSet, sOwn, sOwnP, sPar, sExpr, sFldI, sBreak, sCont, sDPutD, sParFF, sParEF, sParFE, sParEFF, wIsi, wVar, wC, wOp, wUn, wB, wCons, wNil, wTup, wLst, wDct, wTru, wTruth, wNot, wAndT, wOrT, wAndV, wOrV, wNotV, wIfE, wChain, wCall, wCallP, wCallPF, wMake, wMakeE, wM, wSl, wPart, wNoPart, wMeth, wFldC, wFldS, wProp, wBor, wBorT, wAppend, wPopAt, wExtend, wDGet2, wLstRng, wFmt, wJoined, jCons, jNil, gN, gTupW, gCons', gNil', iL, iT, iS, iR1, iR2, iZp, iEn, dAdd, dSub, dMul, dMod, dFdiv, dPow, dLt, dLe, dGt, dGe, dNeg, dIs, dIsNot, rLenD, rTupOf, rLstOf, rMax2, rMin2, rAbs, rIntOf, rStrOf, rDivmod, startE, Ev.get, Ev.set, Ev.lend, Ev.noSlf, Slot.lend, Slot.noSlf, Slot.isL, Slot.isDK, Slot.isPurse, List.map, List.all, List.length_cons, List.length_nil, List.replicate, List.append, List.cons_append, List.nil_append, Nat.zero_add, Nat.reduceAdd, Nat.reduceSub, Nat.reduceLT, if_true, if_false, Bool.false_eq_true, Bool.not_true, Bool.not_false, natL, rowD]
    refine ⟨trivial, trivial, trivial, rfl, trivial, rfl, trivial, _, rfl, (l.length : Int), by rw [List.length_map], by omega, by omega, fun t t0 t1 => ?_⟩
    have ht : t.toNat < l.length := by omega
    have e1 : (l.map fun i : Nat => D.int (i : Int))[t.toNat]? = some (.int (l[t.toNat] : Nat)) := by
      rw [List.getElem?_map, List.getElem?_eq_getElem ht]; rfl
    dsimp only
    rw [e1]
    simp only [erase_map]
    have hmem : l[t.toNat] ∈ l := List.getElem_mem ht
    refine ⟨⟨t0, by omega⟩, trivial, trivial, rfl, fun w hw => ?_⟩
    refine ⟨by omega, by rw [List.length_map]; omega, hM1 _ ?_⟩
    have er : r.map itemD ++ [D.tup [.int (l[t.toNat] : Nat), .str (wtext w)]] = (r ++ [(l[t.toNat], w)]).map itemD := by rw [List.map_append]; rfl
    rw [er]
    refine option_loop h6 ds (l.eraseIdx t.toNat) (r ++ [(l[t.toNat], w)]) _ (by rw [List.length_eraseIdx_of_lt ht]; omega) (by rw [List.length_eraseIdx_of_lt ht]; simp; omega) (h3.eraseIdx _) (fun i hi => h4 i (List.mem_of_mem_eraseIdx hi)) (fun p hp => ?_) ?_ (fun i hi => ?_) fun l r2 s5 hl h5 h7 => hM l r2 s5 (by simp at hl ⊢; omega) h5 h7
    · rcases List.mem_append.mp hp with hp | hp
      · exact h5 p hp
      · have : p = (l[t.toNat], w) := by simpa using hp
        subst this
        exact ⟨h4 _ hmem, hw⟩
    · rw [List.map_append, List.nodup_append]
      refine ⟨h7, by simp, fun x hx y hy e => ?_⟩
      have : y = l[t.toNat] := by simpa using hy
      subst this
      subst e
      exact h8 _ hmem hx
    · rw [List.map_append, List.mem_append]
      rintro (q | q)
      · exact h8 i (List.mem_of_mem_eraseIdx hi) q
      · have : i = l[t.toNat] := by simpa using q
        subst this
        rw [List.mem_eraseIdx_iff_getElem?] at hi
        obtain ⟨j, hj, e⟩ := hi
        obtain ⟨hj2, e⟩ := List.getElem?_eq_some_iff.mp e
        rcases Nat.lt_trichotomy j t.toNat with q | q | q
        · exact List.pairwise_iff_getElem.mp h3 j t.toNat hj2 ht q e
        · exact hj q
        · exact List.pairwise_iff_getElem.mp h3 t.toNat j ht hj2 q e.symm
theorem p__law_option (ds : List D) (kk : D → Prop) (h : c__law_option ds kk no) : w__law_option { nx := fun ρ => ρ.get 0 = .purse ∧ kk .non, rt := fun d ρ => ρ.get 0 = .purse ∧ kk d } (.purse :: startE 5 ds) := by
  obtain ⟨a, b, rfl, m, t, rfl, rfl, m1, m6, t1, t6, h⟩ := h
  unfold w__law_option
  refine sSeq_gen fun M hM => ?_
  simp only [sSeq, sRet, sRetF, sRetN, sIf, sNext, sSet, sOwn, sOwnP, sPar, sExpr, sFldI, sBreak, sCont, sDPutD, sParFF, sParEF, sParFE, sParEFF, wIsi, wVar, wC, wOp, wUn, wB, wCons, wNil, wTup, wLst, wDct, wTru, wTruth, wNot, wAndT, wOrT, wAndV, wOrV, wNotV, wIfE, wChain, wCall, wCallP, wCallPF, wMake, wMakeE, wM, wSl, wPart, wNoPart, wMeth, wFldC, wFldS, wProp, wBor, wBorT, wAppend, wPopAt, wExtend, wDGet2, wLstRng, wFmt, wJoined, jCons, jNil, gN, gTupW, gCons', gNil', iL, iT, iS, iR1, iR2, iZp, iEn, dAdd, dSub, dMul, dMod, dFdiv, dPow, dLt, dLe, dGt, dGe, dNeg, dIs, dIsNot, rLenD, rTupOf, rLstOf, rMax2, rMin2, rAbs, rIntOf, rStrOf, rDivmod, startE, Ev.get, Ev.set, Ev.lend, Ev.noSlf, Slot.lend, Slot.noSlf, Slot.isL, Slot.isDK, Slot.isPurse, List.map, List.all, List.length_cons, List.length_nil, List.replicate, List.append, List.cons_append, List.nil_append, Nat.zero_add, Nat.reduceAdd, Nat.reduceSub, Nat.reduceLT, if_true, if_false, Bool.false_eq_true, Bool.not_true, Bool.not_false]
  have es : seqI 0 m = (List.range m).map fun i : Nat => D.int (i : Int) := by
    unfold seqI; congr 1; funext i; rw [Int.zero_add]
  refine ⟨by decide, by decide, ⟨by omega, by omega⟩, by decide, hM _ (sSeq_gen fun M1 hM1 => ?_)⟩
  simp only [sFor, sSeq, sRet, sRetF, sRetN, sIf, sNext, sSet, sOwn, sOwnP, sPar, sExpr, sFldI, sBreak, sCont, sDPutD, sParFF, sParEF, sParFE, sParEFF, wIsi, wVar, wC, wOp, wUn, wB, wCons, wNil, wTup, wLst, wDct, wTru, wTruth, wNot, wAndT, wOrT, wAndV, wOrV, wNotV, wIfE, wChain, wCall, wCallP, wCallPF, wMake, wMakeE, wM, wSl, wPart, wNoPart, wMeth, wFldC, wFldS, wProp, wBor, wBorT, wAppend, wPopAt, wExtend, wDGet2, wLstRng, wFmt, wJoined, jCons, jNil, gN, gTupW, gCons', gNil', iL, iT, iS, iR1, iR2, iZp, iEn, dAdd, dSub, dMul, dMod, dFdiv, dPow, dLt, dLe, dGt, dGe, dNeg, dIs, dIsNot, rLenD, rTupOf, rLstOf, rMax2, rMin2, rAbs, rIntOf, rStrOf, rDivmod, startE, Ev.get, Ev.set, Ev.lend, Ev.noSlf, Slot.lend, Slot.noSlf, Slot.isL, Slot.isDK, Slot.isPurse, List.map, List.all, List.length_cons, List.length_nil, List.replicate, List.append, List.cons_append, List.nil_append, Nat.zero_add, Nat.reduceAdd, Nat.reduceSub, Nat.reduceLT, if_true, if_false, Bool.false_eq_true, Bool.not_true, Bool.not_false]
  refine ⟨trivial, trivial, _, rfl, _, rfl, by split <;> omega, by split <;> omega, fun q q0 q1 => ⟨⟨by split at q1 <;> omega, by split at q1 <;> omega⟩, ?_⟩⟩
  have el : (seqI 0 (1 + q).toNat).length = (1 + q).toNat := by unfold seqI; simp
  have := option_loop (m := m) (a := .int m) (b := .int t) (M := M1) (rt := fun d ρ => ρ.get 0 = .purse ∧ kk d) (rf := fun _ _ => False) m6 (seqI 0 (1 + q).toNat) (List.range m) [] .un (by rw [el, List.length_range]; split at q1 <;> omega) (by simp) List.nodup_range (fun i hi => List.mem_range.mp hi) (fun p hp => by cases hp) .nil (fun i _ hi => by cases hi) fun l r2 s5 hl h5 h7 => hM1 _ ?_
  · rw [Int.toNat_natCast, es]
    exact this
  · simp only [sSeq, sRet, sRetF, sRetN, sIf, sNext, sSet, sOwn, sOwnP, sPar, sExpr, sFldI, sBreak, sCont, sDPutD, sParFF, sParEF, sParFE, sParEFF, wIsi, wVar, wC, wOp, wUn, wB, wCons, wNil, wTup, wLst, wDct, wTru, wTruth, wNot, wAndT, wOrT, wAndV, wOrV, wNotV, wIfE, wChain, wCall, wCallP, wCallPF, wMake, wMakeE, wM, wSl, wPart, wNoPart, wMeth, wFldC, wFldS, wProp, wBor, wBorT, wAppend, wPopAt, wExtend, wDGet2, wLstRng, wFmt, wJoined, jCons, jNil, gN, gTupW, gCons', gNil', iL, iT, iS, iR1, iR2, iZp, iEn, dAdd, dSub, dMul, dMod, dFdiv, dPow, dLt, dLe, dGt, dGe, dNeg, dIs, dIsNot, rLenD, rTupOf, rLstOf, rMax2, rMin2, rAbs, rIntOf, rStrOf, rDivmod, startE, Ev.get, Ev.set, Ev.lend, Ev.noSlf, Slot.lend, Slot.noSlf, Slot.isL, Slot.isDK, Slot.isPurse, List.map, List.all, List.length_cons, List.length_nil, List.replicate, List.append, List.cons_append, List.nil_append, Nat.zero_add, Nat.reduceAdd, Nat.reduceSub, Nat.reduceLT, if_true, if_false, Bool.false_eq_true, Bool.not_true, Bool.not_false]
    rw [el] at hl
    refine ⟨trivial, h r2 ⟨?_, ?_, h5, h7⟩⟩
    · intro e; subst e; simp at hl; omega
    · simp at hl; split at q1 <;> omega
end W
set_option Elab.async false
set_option linter.all false
set_option maxRecDepth 100000
set_option maxHeartbeats 4000000
namespace W
open PySem PySem.Spec PyProof.Rows L2 Q
theorem lcG {α : Type} {F : α → D} {vs : List Nat} {g : WG} {wt : WT} {we : WE} (p : α → Bool) (I : Ev → Prop) : ∀ (l : List α) (ρ : Ev) (k : List D → Ev → Prop), I ρ →
    (∀ a ∈ l, ∀ ρ, I ρ → ∀ (kk : D → Ev → Prop) (kf : Ev → Prop), (p a = true → ∀ ρ', I (ρ'.wipe vs) → kk (F a) ρ') → (p a = false → ∀ ρ', I (ρ'.wipe vs) → kf ρ') → g (F a) ρ fun ρ1 => wt ρ1 fun b ρ2 => if b = true then we ρ2 kk else kf ρ2) →
    (∀ ρ', I ρ' → k ((l.filter p).map F) ρ') → lcL vs g wt we (l.map F) ρ k
  | [], ρ, k, hI, _, hk => hk ρ hI
  | a :: l, ρ, k, hI, h, hk => by
    rw [List.map_cons]
    unfold lcL
    refine h a (List.mem_cons_self ..) ρ hI _ _ (fun hp ρ' he => ?_) fun hp ρ' he => ?_
    · refine lcG p I l _ _ he (fun d' hd' => h d' (List.mem_cons_of_mem _ hd')) fun ρ4 h4 => ?_
      have := hk ρ4 h4
      rw [List.filter_cons, if_pos hp] at this
      exact this
    · refine lcG p I l _ _ he (fun d' hd' => h d' (List.mem_cons_of_mem _ hd')) fun ρ4 h4 => ?_
      have := hk ρ4 h4
      rw [List.filter_cons, if_neg (by rw [hp]; exact Bool.false_ne_true)] at this
      exact this
theorem n__law_labels {ds : List D} {kk : D → Prop} {kx : XC} (h : c__law_labels ds kk kx) : ds.length + 1 = 2 := by
  obtain ⟨a, rfl, _⟩ := h; rfl
theorem nameB_of {z : Str} (h : labB z = true) (ho : z ≠ "or") : nameB z = true := by
  unfold labB at h
  simp only [Bool.and_eq_true, decide_eq_true_eq] at h
  unfold nameB
  simp only [Bool.and_eq_true, decide_eq_true_eq]
  exact ⟨⟨⟨h.1.1, by rw [decide_eq_false ho]; rfl⟩, h.1.2⟩, h.2⟩
theorem labB_name {z : Str} (h : nameB z = true) : labB z = true := by
  unfold nameB at h
  simp only [Bool.and_eq_true, decide_eq_true_eq] at h
  unfold labB
  simp only [Bool.and_eq_true, decide_eq_true_eq]
  exact ⟨⟨h.1.1.1, h.1.2⟩, h.2⟩
theorem labB_cut {z y : Str} (hz : labB z = true) (hy : ∀ c ∈ y.cps.toList, (inLet c || inDig c) = true) : labB (cutS (z ++ y) none (some (8 : Int))) = true := by
  obtain ⟨hg, _, _⟩ := labB_gd hz
  obtain ⟨⟨c, r, e, hc⟩, ha⟩ := gd_app hg hy
  have et := cut_to (z ++ y) 8
  have et : (cutS (z ++ y) none (some (8 : Int))).cps.toList = (z ++ y).cps.toList.take 8 := et
  refine labB_of ⟨⟨c, r.take 7, by rw [et, e]; rfl, hc⟩, fun x hx => ?_⟩ ?_
  · rw [et] at hx
    exact ha x (List.mem_of_mem_take hx)
  · rw [← len_tl, et, List.length_take]
    omega
def uS (j : Nat) : Str := ("u" : Str) ++ numS j
theorem uS_lab {j : Nat} (h : j ≤ 6) : labB (uS j) = true ∧ uS j ≠ "or" := by
  have key : ∀ j ∈ List.range 7, labB (uS j) = true ∧ uS j ≠ "or" := by decide +kernel
  exact key j (List.mem_range.mpr (by omega))
theorem uS_inj : ((List.range 7).map uS).Nodup := by decide +kernel
theorem nodup_sub {α : Type} [DecidableEq α] : ∀ {l m : List α}, l.Nodup → (∀ x ∈ l, x ∈ m) → l.length ≤ m.length
  | [], m, _, _ => by simp
  | a :: l, m, hn, hs => by
    have ha := hs a (List.mem_cons_self ..)
    have hn' := List.nodup_cons.mp hn
    have : l.length ≤ (m.erase a).length := nodup_sub hn'.2 fun x hx => (List.mem_erase_of_ne (fun e => by subst e; exact hn'.1 hx)).mpr (hs x (List.mem_cons_of_mem _ hx))
    rw [List.length_erase_of_mem ha] at this
    have hp := List.length_pos_of_mem ha
    simp only [List.length_cons]
    omega
theorem spare_ne {zs : List Str} {z : Str} {m : Nat} (h : zs.length < m) (h6 : m ≤ 6) : ∃ y l, ((z :: (List.range (m + 1)).map uS).filter fun y => !decide (y ∈ zs ++ [("or" : Str)])) = y :: l := by
  cases e : (z :: (List.range (m + 1)).map uS).filter fun y => !decide (y ∈ zs ++ [("or" : Str)]) with
  | cons y l => exact ⟨y, l, rfl⟩
  | nil =>
    exfalso
    have hall := List.filter_eq_nil_iff.mp e
    have hsub : ∀ x ∈ (List.range (m + 1)).map uS, x ∈ zs := fun x hx => by
      have h1 := hall x (List.mem_cons_of_mem _ hx)
      obtain ⟨j, hj, rfl⟩ := List.mem_map.mp hx
      have hj := List.mem_range.mp hj
      have h2 := (uS_lab (j := j) (by omega)).2
      have h1 : uS j ∈ zs ++ [("or" : Str)] := by
        by_cases q : uS j ∈ zs ++ [("or" : Str)]
        · exact q
        · exact absurd (by rw [decide_eq_false q]; rfl) h1
      rcases List.mem_append.mp h1 with q | q
      · exact q
      · exact absurd (by simpa using q) h2
    have hn : ((List.range (m + 1)).map uS).Nodup := by
      have : List.range (m + 1) = (List.range 7).take (m + 1) := by rw [List.take_range, Nat.min_eq_left (by omega)]
      rw [this, List.map_take]
      exact uS_inj.sublist (List.take_sublist ..)
    have := nodup_sub hn hsub
    simp at this
    omega
theorem labels_loop {m : Nat} {M : Ev → Prop} {rt : D → Ev → Prop} {rf : D → Ev → Prop} (h6 : m ≤ 6) : ∀ (n i : Nat) (zs : List Str) (s3 s4 s5 : Slot), s5.noSlf = true → zs.length = i → i + n ≤ m → (∀ z ∈ zs, nameB z = true) → zs.Nodup →
    (∀ (zs' : List Str) (s3 s4 s5 : Slot), zs'.length = i + n → (∀ z ∈ zs', nameB z = true) → zs'.Nodup → M [.purse, .val (.int m), .own (namesD zs'), s3, s4, s5, .un, .un]) →
    forL (gN 3) (sSeq (sSet (wCallP 0 c__law_label wNil) (gN 4))
    (sSeq (sIf (wAndT (wTru (wOp dGt (wVar 3) (wC (.int 0)))) (wTru (wOp dEq (wCallP 0 c__law_draw (wCons (wC (.int 4)) wNil)) (wC (.int 0))))) (sSet (wSl (wOp dAdd (wBor (wCallP 0 c__law_pick (wCons (wVar 2) wNil))) (wCallP 0 c__law_pick (wCons (wLst (wCons (wC (.str "x")) (wCons (wC (.str "0")) (wCons (wC (.str "r")) (wCons (wC (.str "9z")) wNil))))) wNil))) wNoPart (wPart (wC (.int 8)))) (gN 4)) sNext)
    (sSeq (sSet (wOp dAdd (wLst (wCons (wVar 4) wNil)) (wLc [6] (iR1 (wCons (wOp dAdd (wVar 1) (wC (.int 1))) wNil)) (gN 6) wYes (wOp dAdd (wC (.str "u")) (wB rStrOf (wCons (wVar 6) wNil))))) (gN 5))
    (sExpr (wAppend 2 (wBor (wOp dIx (wLc [7] (iL (wVar 5)) (gN 7) (wTru (wOp dNotIn (wVar 7) (wOp dAdd (wVar 2) (wLst (wCons (wC (.str "or")) wNil))))) (wVar 7)) (wC (.int 0)))))))))
     ⟨M, rt, fun _ => False, fun _ => False, rf⟩ (seqF i n) [.purse, .val (.int m), .own (namesD zs), s3, s4, s5, .un, .un]
  | 0, i, zs, s3, s4, s5, hs, hl, hm, h1, h2, hM => hM zs s3 s4 s5 hl h1 h2
  | n + 1, i, zs, s3, s4, s5, hs, hl, hm, h1, h2, hM => by
    refine forL_gen fun M1 hM1 => ?_
    have six : (6 : Nat) ≤ sizeLine := by have := small5; omega
    have big : (100 : Nat) ≤ sizeLine := by rw [sizeLine_eq]; decide
    refine sSeq_gen fun M2 hM2 => ?_
    simp only [sSeq, sRet, sRetF, sRetN, sIf, sNext, sSet, sOwn, sOwnP, sPar, sExpr, sFldI, sBreak, sCont, sDPutD, sParFF, sParEF, sParFE, sParEFF, wIsi, wVar, wC, wOp, wUn, wB, wCons, wNil, wTup, wLst, wDct, wTru, wTruth, wNot, wAndT, wOrT, wAndV, wOrV, wNotV, wIfE, wChain, wCall, wCallP, wCallPF, wMake, wMakeE, wM, wSl, wPart, wNoPart, wMeth, wFldC, wFldS, wProp, wBor, wBorT, wAppend, wPopAt, wExtend, wDGet2, wLstRng, wFmt, wJoined, jCons, jNil, gN, gTupW, gCons', gNil', iL, iT, iS, iR1, iR2, iZp, iEn, dAdd, dSub, dMul, dMod, dFdiv, dPow, dLt, dLe, dGt, dGe, dNeg, dIs, dIsNot, rLenD, rTupOf, rLstOf, rMax2, rMin2, rAbs, rIntOf, rStrOf, rDivmod, startE, Ev.get, Ev.set, Ev.lend, Ev.noSlf, Slot.lend, Slot.noSlf, Slot.isL, Slot.isDK, Slot.isPurse, List.map, List.all, List.length_cons, List.length_nil, List.replicate, List.append, List.cons_append, List.nil_append, Nat.zero_add, Nat.reduceAdd, Nat.reduceSub, Nat.reduceLT, if_true, if_false, Bool.false_eq_true, Bool.not_true, Bool.not_false]
    refine ⟨trivial, trivial, rfl, fun z hz => hM2 _ (sSeq_gen fun M3 hM3 => ?_)⟩
    have rest : ∀ z, labB z = true → M3 [.purse, .val (.int m), .own (namesD zs), .val (.int i), .val (.str z), s5, .un, .un] := fun z hz => by
      refine hM3 _ (sSeq_gen fun M4 hM4 => ?_)
      simp only [sSeq, sRet, sRetF, sRetN, sIf, sNext, sSet, sOwn, sOwnP, sPar, sExpr, sFldI, sBreak, sCont, sDPutD, sParFF, sParEF, sParFE, sParEFF, wIsi, wVar, wC, wOp, wUn, wB, wCons, wNil, wTup, wLst, wDct, wTru, wTruth, wNot, wAndT, wOrT, wAndV, wOrV, wNotV, wIfE, wChain, wCall, wCallP, wCallPF, wMake, wMakeE, wM, wSl, wPart, wNoPart, wMeth, wFldC, wFldS, wProp, wBor, wBorT, wAppend, wPopAt, wExtend, wDGet2, wLstRng, wFmt, wJoined, jCons, jNil, gN, gTupW, gCons', gNil', iL, iT, iS, iR1, iR2, iZp, iEn, dAdd, dSub, dMul, dMod, dFdiv, dPow, dLt, dLe, dGt, dGe, dNeg, dIs, dIsNot, rLenD, rTupOf, rLstOf, rMax2, rMin2, rAbs, rIntOf, rStrOf, rDivmod, startE, Ev.get, Ev.set, Ev.lend, Ev.noSlf, Slot.lend, Slot.noSlf, Slot.isL, Slot.isDK, Slot.isPurse, List.map, List.all, List.length_cons, List.length_nil, List.replicate, List.append, List.cons_append, List.nil_append, Nat.zero_add, Nat.reduceAdd, Nat.reduceSub, Nat.reduceLT, if_true, if_false, Bool.false_eq_true, Bool.not_true, Bool.not_false]
      refine ⟨by omega, wLc_i ?_⟩
      simp only [sSeq, sRet, sRetF, sRetN, sIf, sNext, sSet, sOwn, sOwnP, sPar, sExpr, sFldI, sBreak, sCont, sDPutD, sParFF, sParEF, sParFE, sParEFF, wIsi, wVar, wC, wOp, wUn, wB, wCons, wNil, wTup, wLst, wDct, wTru, wTruth, wNot, wAndT, wOrT, wAndV, wOrV, wNotV, wIfE, wChain, wCall, wCallP, wCallPF, wMake, wMakeE, wM, wSl, wPart, wNoPart, wMeth, wFldC, wFldS, wProp, wBor, wBorT, wAppend, wPopAt, wExtend, wDGet2, wLstRng, wFmt, wJoined, jCons, jNil, gN, gTupW, gCons', gNil', iL, iT, iS, iR1, iR2, iZp, iEn, dAdd, dSub, dMul, dMod, dFdiv, dPow, dLt, dLe, dGt, dGe, dNeg, dIs, dIsNot, rLenD, rTupOf, rLstOf, rMax2, rMin2, rAbs, rIntOf, rStrOf, rDivmod, startE, Ev.get, Ev.set, Ev.lend, Ev.noSlf, Slot.lend, Slot.noSlf, Slot.isL, Slot.isDK, Slot.isPurse, List.map, List.all, List.length_cons, List.length_nil, List.replicate, List.append, List.cons_append, List.nil_append, Nat.zero_add, Nat.reduceAdd, Nat.reduceSub, Nat.reduceLT, if_true, if_false, Bool.false_eq_true, Bool.not_true, Bool.not_false]
      have es : seqI 0 ((m : Int) + 1).toNat = (List.range (m + 1)).map fun j : Nat => D.int (j : Int) := by
        unfold seqI
        rw [show ((m : Int) + 1).toNat = m + 1 by omega]
        congr 1; funext j; rw [Int.zero_add]
      rw [es]
      refine ⟨⟨by omega, by omega⟩, by rw [List.length_map, List.length_range]; omega, ?_⟩
      simp only [Ev.wipe, sSeq, sRet, sRetF, sRetN, sIf, sNext, sSet, sOwn, sOwnP, sPar, sExpr, sFldI, sBreak, sCont, sDPutD, sParFF, sParEF, sParFE, sParEFF, wIsi, wVar, wC, wOp, wUn, wB, wCons, wNil, wTup, wLst, wDct, wTru, wTruth, wNot, wAndT, wOrT, wAndV, wOrV, wNotV, wIfE, wChain, wCall, wCallP, wCallPF, wMake, wMakeE, wM, wSl, wPart, wNoPart, wMeth, wFldC, wFldS, wProp, wBor, wBorT, wAppend, wPopAt, wExtend, wDGet2, wLstRng, wFmt, wJoined, jCons, jNil, gN, gTupW, gCons', gNil', iL, iT, iS, iR1, iR2, iZp, iEn, dAdd, dSub, dMul, dMod, dFdiv, dPow, dLt, dLe, dGt, dGe, dNeg, dIs, dIsNot, rLenD, rTupOf, rLstOf, rMax2, rMin2, rAbs, rIntOf, rStrOf, rDivmod, startE, Ev.get, Ev.set, Ev.lend, Ev.noSlf, Slot.lend, Slot.noSlf, Slot.isL, Slot.isDK, Slot.isPurse, List.map, List.all, List.length_cons, List.length_nil, List.replicate, List.append, List.cons_append, List.nil_append, Nat.zero_add, Nat.reduceAdd, Nat.reduceSub, Nat.reduceLT, if_true, if_false, Bool.false_eq_true, Bool.not_true, Bool.not_false]
      refine lcA (R := fun j y => y = D.str (uS j)) (fun ρ => ρ = [.purse, .val (.int m), .own (namesD zs), .val (.int i), .val (.str z), s5, .un, .un]) _ _ _ rfl (fun j hj ρ hρ kk2 q => ?_) fun ys ρ' hρ hys => ?_
      · subst hρ
        have hj := List.mem_range.mp hj
        simp only [sSeq, sRet, sRetF, sRetN, sIf, sNext, sSet, sOwn, sOwnP, sPar, sExpr, sFldI, sBreak, sCont, sDPutD, sParFF, sParEF, sParFE, sParEFF, wIsi, wVar, wC, wOp, wUn, wB, wCons, wNil, wTup, wLst, wDct, wTru, wTruth, wNot, wAndT, wOrT, wAndV, wOrV, wNotV, wIfE, wChain, wCall, wCallP, wCallPF, wMake, wMakeE, wM, wSl, wPart, wNoPart, wMeth, wFldC, wFldS, wProp, wBor, wBorT, wAppend, wPopAt, wExtend, wDGet2, wLstRng, wFmt, wJoined, jCons, jNil, gN, gTupW, gCons', gNil', iL, iT, iS, iR1, iR2, iZp, iEn, dAdd, dSub, dMul, dMod, dFdiv, dPow, dLt, dLe, dGt, dGe, dNeg, dIs, dIsNot, rLenD, rTupOf, rLstOf, rMax2, rMin2, rAbs, rIntOf, rStrOf, rDivmod, startE, Ev.get, Ev.set, Ev.lend, Ev.noSlf, Slot.lend, Slot.noSlf, Slot.isL, Slot.isDK, Slot.isPurse, List.map, List.all, List.length_cons, List.length_nil, List.replicate, List.append, List.cons_append, List.nil_append, Nat.zero_add, Nat.reduceAdd, Nat.reduceSub, Nat.reduceLT, if_true, if_false, Bool.false_eq_true, Bool.not_true, Bool.not_false]
        have hn := numS_len (n := (j : Int)) (by omega) (by omega)
        have lu : (Str.ofString "u").length = 1 := by decide +kernel
        refine ⟨num_log (by omega) (by omega), ?_, q _ _ rfl rfl⟩
        have hn : (Str.ofString (toString (j : Int))).length ≤ 13 := hn
        rw [lu]; omega
      · subst hρ
        rw [all2_fun hys]
        refine ⟨by rw [List.length_map, List.length_range]; omega, hM4 _ ?_⟩
        simp only [sSeq, sRet, sRetF, sRetN, sIf, sNext, sSet, sOwn, sOwnP, sPar, sExpr, sFldI, sBreak, sCont, sDPutD, sParFF, sParEF, sParFE, sParEFF, wIsi, wVar, wC, wOp, wUn, wB, wCons, wNil, wTup, wLst, wDct, wTru, wTruth, wNot, wAndT, wOrT, wAndV, wOrV, wNotV, wIfE, wChain, wCall, wCallP, wCallPF, wMake, wMakeE, wM, wSl, wPart, wNoPart, wMeth, wFldC, wFldS, wProp, wBor, wBorT, wAppend, wPopAt, wExtend, wDGet2, wLstRng, wFmt, wJoined, jCons, jNil, gN, gTupW, gCons', gNil', iL, iT, iS, iR1, iR2, iZp, iEn, dAdd, dSub, dMul, dMod, dFdiv, dPow, dLt, dLe, dGt, dGe, dNeg, dIs, dIsNot, rLenD, rTupOf, rLstOf, rMax2, rMin2, rAbs, rIntOf, rStrOf, rDivmod, startE, Ev.get, Ev.set, Ev.lend, Ev.noSlf, Slot.lend, Slot.noSlf, Slot.isL, Slot.isDK, Slot.isPurse, List.map, List.all, List.length_cons, List.length_nil, List.replicate, List.append, List.cons_append, List.nil_append, Nat.zero_add, Nat.reduceAdd, Nat.reduceSub, Nat.reduceLT, if_true, if_false, Bool.false_eq_true, Bool.not_true, Bool.not_false, namesD]
        refine ⟨trivial, rfl, wLc_i ?_⟩
        simp only [sSeq, sRet, sRetF, sRetN, sIf, sNext, sSet, sOwn, sOwnP, sPar, sExpr, sFldI, sBreak, sCont, sDPutD, sParFF, sParEF, sParFE, sParEFF, wIsi, wVar, wC, wOp, wUn, wB, wCons, wNil, wTup, wLst, wDct, wTru, wTruth, wNot, wAndT, wOrT, wAndV, wOrV, wNotV, wIfE, wChain, wCall, wCallP, wCallPF, wMake, wMakeE, wM, wSl, wPart, wNoPart, wMeth, wFldC, wFldS, wProp, wBor, wBorT, wAppend, wPopAt, wExtend, wDGet2, wLstRng, wFmt, wJoined, jCons, jNil, gN, gTupW, gCons', gNil', iL, iT, iS, iR1, iR2, iZp, iEn, dAdd, dSub, dMul, dMod, dFdiv, dPow, dLt, dLe, dGt, dGe, dNeg, dIs, dIsNot, rLenD, rTupOf, rLstOf, rMax2, rMin2, rAbs, rIntOf, rStrOf, rDivmod, startE, Ev.get, Ev.set, Ev.lend, Ev.noSlf, Slot.lend, Slot.noSlf, Slot.isL, Slot.isDK, Slot.isPurse, List.map, List.all, List.length_cons, List.length_nil, List.replicate, List.append, List.cons_append, List.nil_append, Nat.zero_add, Nat.reduceAdd, Nat.reduceSub, Nat.reduceLT, if_true, if_false, Bool.false_eq_true, Bool.not_true, Bool.not_false]
        obtain ⟨ws, hws⟩ : ∃ ws, ws = z :: (List.range (m + 1)).map uS := ⟨_, rfl⟩
        have el : D.str z :: (List.range (m + 1)).map (fun j => D.str (uS j)) = ws.map D.str := by rw [hws, List.map_cons, List.map_map]; rfl
        rw [el]
        refine ⟨by rw [List.length_map, List.length_range]; omega, ?_⟩
        simp only [Ev.wipe, sSeq, sRet, sRetF, sRetN, sIf, sNext, sSet, sOwn, sOwnP, sPar, sExpr, sFldI, sBreak, sCont, sDPutD, sParFF, sParEF, sParFE, sParEFF, wIsi, wVar, wC, wOp, wUn, wB, wCons, wNil, wTup, wLst, wDct, wTru, wTruth, wNot, wAndT, wOrT, wAndV, wOrV, wNotV, wIfE, wChain, wCall, wCallP, wCallPF, wMake, wMakeE, wM, wSl, wPart, wNoPart, wMeth, wFldC, wFldS, wProp, wBor, wBorT, wAppend, wPopAt, wExtend, wDGet2, wLstRng, wFmt, wJoined, jCons, jNil, gN, gTupW, gCons', gNil', iL, iT, iS, iR1, iR2, iZp, iEn, dAdd, dSub, dMul, dMod, dFdiv, dPow, dLt, dLe, dGt, dGe, dNeg, dIs, dIsNot, rLenD, rTupOf, rLstOf, rMax2, rMin2, rAbs, rIntOf, rStrOf, rDivmod, startE, Ev.get, Ev.set, Ev.lend, Ev.noSlf, Slot.lend, Slot.noSlf, Slot.isL, Slot.isDK, Slot.isPurse, List.map, List.all, List.length_cons, List.length_nil, List.replicate, List.append, List.cons_append, List.nil_append, Nat.zero_add, Nat.reduceAdd, Nat.reduceSub, Nat.reduceLT, if_true, if_false, Bool.false_eq_true, Bool.not_true, Bool.not_false]
        refine lcG (fun y => !decide (y ∈ zs ++ [("or" : Str)])) (fun ρ => ρ = [.purse, .val (.int m), .val (.lst (zs.map D.str)), .val (.int i), .val (.str z), .val (.lst (ws.map D.str)), .un, .un]) _ _ _ rfl (fun y hy ρ hρ kk2 kf q1 q2 => ?_) fun ρ' hρ => ?_
        · subst hρ
          simp only [sSeq, sRet, sRetF, sRetN, sIf, sNext, sSet, sOwn, sOwnP, sPar, sExpr, sFldI, sBreak, sCont, sDPutD, sParFF, sParEF, sParFE, sParEFF, wIsi, wVar, wC, wOp, wUn, wB, wCons, wNil, wTup, wLst, wDct, wTru, wTruth, wNot, wAndT, wOrT, wAndV, wOrV, wNotV, wIfE, wChain, wCall, wCallP, wCallPF, wMake, wMakeE, wM, wSl, wPart, wNoPart, wMeth, wFldC, wFldS, wProp, wBor, wBorT, wAppend, wPopAt, wExtend, wDGet2, wLstRng, wFmt, wJoined, jCons, jNil, gN, gTupW, gCons', gNil', iL, iT, iS, iR1, iR2, iZp, iEn, dAdd, dSub, dMul, dMod, dFdiv, dPow, dLt, dLe, dGt, dGe, dNeg, dIs, dIsNot, rLenD, rTupOf, rLstOf, rMax2, rMin2, rAbs, rIntOf, rStrOf, rDivmod, startE, Ev.get, Ev.set, Ev.lend, Ev.noSlf, Slot.lend, Slot.noSlf, Slot.isL, Slot.isDK, Slot.isPurse, List.map, List.all, List.length_cons, List.length_nil, List.replicate, List.append, List.cons_append, List.nil_append, Nat.zero_add, Nat.reduceAdd, Nat.reduceSub, Nat.reduceLT, if_true, if_false, Bool.false_eq_true, Bool.not_true, Bool.not_false]
          have eo : zs.map D.str ++ [D.str ("or" : Str)] = (zs ++ [("or" : Str)]).map D.str := by rw [List.map_append]; rfl
          refine ⟨by omega, by rw [List.length_map]; omega, ?_⟩
          simp only [dNotIn, eo, inK_strs]
          by_cases qq : y ∈ zs ++ [("or" : Str)]
          · rw [decide_eq_true qq]
            simp only [sSeq, sRet, sRetF, sRetN, sIf, sNext, sSet, sOwn, sOwnP, sPar, sExpr, sFldI, sBreak, sCont, sDPutD, sParFF, sParEF, sParFE, sParEFF, wIsi, wVar, wC, wOp, wUn, wB, wCons, wNil, wTup, wLst, wDct, wTru, wTruth, wNot, wAndT, wOrT, wAndV, wOrV, wNotV, wIfE, wChain, wCall, wCallP, wCallPF, wMake, wMakeE, wM, wSl, wPart, wNoPart, wMeth, wFldC, wFldS, wProp, wBor, wBorT, wAppend, wPopAt, wExtend, wDGet2, wLstRng, wFmt, wJoined, jCons, jNil, gN, gTupW, gCons', gNil', iL, iT, iS, iR1, iR2, iZp, iEn, dAdd, dSub, dMul, dMod, dFdiv, dPow, dLt, dLe, dGt, dGe, dNeg, dIs, dIsNot, rLenD, rTupOf, rLstOf, rMax2, rMin2, rAbs, rIntOf, rStrOf, rDivmod, startE, Ev.get, Ev.set, Ev.lend, Ev.noSlf, Slot.lend, Slot.noSlf, Slot.isL, Slot.isDK, Slot.isPurse, List.map, List.all, List.length_cons, List.length_nil, List.replicate, List.append, List.cons_append, List.nil_append, Nat.zero_add, Nat.reduceAdd, Nat.reduceSub, Nat.reduceLT, if_true, if_false, Bool.false_eq_true, Bool.not_true, Bool.not_false]
            exact q2 (by rw [decide_eq_true qq]; rfl) _ rfl
          · rw [decide_eq_false qq]
            simp only [sSeq, sRet, sRetF, sRetN, sIf, sNext, sSet, sOwn, sOwnP, sPar, sExpr, sFldI, sBreak, sCont, sDPutD, sParFF, sParEF, sParFE, sParEFF, wIsi, wVar, wC, wOp, wUn, wB, wCons, wNil, wTup, wLst, wDct, wTru, wTruth, wNot, wAndT, wOrT, wAndV, wOrV, wNotV, wIfE, wChain, wCall, wCallP, wCallPF, wMake, wMakeE, wM, wSl, wPart, wNoPart, wMeth, wFldC, wFldS, wProp, wBor, wBorT, wAppend, wPopAt, wExtend, wDGet2, wLstRng, wFmt, wJoined, jCons, jNil, gN, gTupW, gCons', gNil', iL, iT, iS, iR1, iR2, iZp, iEn, dAdd, dSub, dMul, dMod, dFdiv, dPow, dLt, dLe, dGt, dGe, dNeg, dIs, dIsNot, rLenD, rTupOf, rLstOf, rMax2, rMin2, rAbs, rIntOf, rStrOf, rDivmod, startE, Ev.get, Ev.set, Ev.lend, Ev.noSlf, Slot.lend, Slot.noSlf, Slot.isL, Slot.isDK, Slot.isPurse, List.map, List.all, List.length_cons, List.length_nil, List.replicate, List.append, List.cons_append, List.nil_append, Nat.zero_add, Nat.reduceAdd, Nat.reduceSub, Nat.reduceLT, if_true, if_false, Bool.false_eq_true, Bool.not_true, Bool.not_false]
            exact q1 (by rw [decide_eq_false qq]; rfl) _ rfl
        · subst hρ
          obtain ⟨y, l, e⟩ := spare_ne (zs := zs) (z := z) (m := m) (by omega) h6
          rw [← hws] at e
          rw [e]
          have hy : y ∈ ws.filter fun y => !decide (y ∈ zs ++ [("or" : Str)]) := by rw [e]; exact List.mem_cons_self ..
          obtain ⟨hy1, hy2⟩ := List.mem_filter.mp hy
          have hy3 : y ∉ zs ++ [("or" : Str)] := fun q => by rw [decide_eq_true q] at hy2; exact Bool.false_ne_true hy2
          have hlab : labB y = true := by
            rw [hws] at hy1
            rcases List.mem_cons.mp hy1 with q | q
            · rw [q]; exact hz
            · obtain ⟨j, hj, rfl⟩ := List.mem_map.mp q
              exact (uS_lab (by have := List.mem_range.mp hj; omega)).1
          have hyn : nameB y = true := nameB_of hlab fun q => hy3 (List.mem_append.mpr (.inr (by rw [q]; exact List.mem_singleton.mpr rfl)))
          have e00 : atI (List.map D.str (y :: l)) 0 = some (.str y) := atI_nat (j := 0) rfl
          simp only [dIx, e00]
          refine ⟨trivial, rfl, by rw [List.length_map]; omega, hM1 _ ?_⟩
          have ea : zs.map D.str ++ [D.str y] = (zs ++ [y]).map D.str := by rw [List.map_append]; rfl
          rw [ea]
          refine labels_loop h6 n (i + 1) (zs ++ [y]) _ _ _ rfl (by rw [List.length_append, hl]; rfl) (by omega) (fun x hx => ?_) ?_ fun zs' s3 s4 s5 hl h1 h2 => hM zs' s3 s4 s5 (by omega) h1 h2
          · rcases List.mem_append.mp hx with q | q
            · exact h1 x q
            · rw [List.mem_singleton.mp q]; exact hyn
          · rw [List.nodup_append]
            exact ⟨h2, by simp, fun a ha b hb e => hy3 (List.mem_append.mpr (.inl (by rw [← List.mem_singleton.mp hb, ← e]; exact ha)))⟩
    by_cases q : i = 0
    · subst q
      have e0 : decide (((0 : Nat) : Int) > 0) = false := by decide
      simp only [sSeq, sRet, sRetF, sRetN, sIf, sNext, sSet, sOwn, sOwnP, sPar, sExpr, sFldI, sBreak, sCont, sDPutD, sParFF, sParEF, sParFE, sParEFF, wIsi, wVar, wC, wOp, wUn, wB, wCons, wNil, wTup, wLst, wDct, wTru, wTruth, wNot, wAndT, wOrT, wAndV, wOrV, wNotV, wIfE, wChain, wCall, wCallP, wCallPF, wMake, wMakeE, wM, wSl, wPart, wNoPart, wMeth, wFldC, wFldS, wProp, wBor, wBorT, wAppend, wPopAt, wExtend, wDGet2, wLstRng, wFmt, wJoined, jCons, jNil, gN, gTupW, gCons', gNil', iL, iT, iS, iR1, iR2, iZp, iEn, dAdd, dSub, dMul, dMod, dFdiv, dPow, dLt, dLe, dGt, dGe, dNeg, dIs, dIsNot, rLenD, rTupOf, rLstOf, rMax2, rMin2, rAbs, rIntOf, rStrOf, rDivmod, startE, Ev.get, Ev.set, Ev.lend, Ev.noSlf, Slot.lend, Slot.noSlf, Slot.isL, Slot.isDK, Slot.isPurse, List.map, List.all, List.length_cons, List.length_nil, List.replicate, List.append, List.cons_append, List.nil_append, Nat.zero_add, Nat.reduceAdd, Nat.reduceSub, Nat.reduceLT, if_true, if_false, Bool.false_eq_true, Bool.not_true, Bool.not_false, dEq_int, e0]
      exact rest z hz
    · have e0 : decide ((i : Int) > 0) = true := decide_eq_true (by omega)
      simp only [sSeq, sRet, sRetF, sRetN, sIf, sNext, sSet, sOwn, sOwnP, sPar, sExpr, sFldI, sBreak, sCont, sDPutD, sParFF, sParEF, sParFE, sParEFF, wIsi, wVar, wC, wOp, wUn, wB, wCons, wNil, wTup, wLst, wDct, wTru, wTruth, wNot, wAndT, wOrT, wAndV, wOrV, wNotV, wIfE, wChain, wCall, wCallP, wCallPF, wMake, wMakeE, wM, wSl, wPart, wNoPart, wMeth, wFldC, wFldS, wProp, wBor, wBorT, wAppend, wPopAt, wExtend, wDGet2, wLstRng, wFmt, wJoined, jCons, jNil, gN, gTupW, gCons', gNil', iL, iT, iS, iR1, iR2, iZp, iEn, dAdd, dSub, dMul, dMod, dFdiv, dPow, dLt, dLe, dGt, dGe, dNeg, dIs, dIsNot, rLenD, rTupOf, rLstOf, rMax2, rMin2, rAbs, rIntOf, rStrOf, rDivmod, startE, Ev.get, Ev.set, Ev.lend, Ev.noSlf, Slot.lend, Slot.noSlf, Slot.isL, Slot.isDK, Slot.isPurse, List.map, List.all, List.length_cons, List.length_nil, List.replicate, List.append, List.cons_append, List.nil_append, Nat.zero_add, Nat.reduceAdd, Nat.reduceSub, Nat.reduceLT, if_true, if_false, Bool.false_eq_true, Bool.not_true, Bool.not_false, dEq_int, e0]
      refine ⟨trivial, trivial, _, rfl, 4, rfl, by decide, by decide, fun r r0 r1 => ?_⟩
      simp only [dEq_int]
      by_cases qr : r = 0
      · rw [decide_eq_true qr]
        simp only [sSeq, sRet, sRetF, sRetN, sIf, sNext, sSet, sOwn, sOwnP, sPar, sExpr, sFldI, sBreak, sCont, sDPutD, sParFF, sParEF, sParFE, sParEFF, wIsi, wVar, wC, wOp, wUn, wB, wCons, wNil, wTup, wLst, wDct, wTru, wTruth, wNot, wAndT, wOrT, wAndV, wOrV, wNotV, wIfE, wChain, wCall, wCallP, wCallPF, wMake, wMakeE, wM, wSl, wPart, wNoPart, wMeth, wFldC, wFldS, wProp, wBor, wBorT, wAppend, wPopAt, wExtend, wDGet2, wLstRng, wFmt, wJoined, jCons, jNil, gN, gTupW, gCons', gNil', iL, iT, iS, iR1, iR2, iZp, iEn, dAdd, dSub, dMul, dMod, dFdiv, dPow, dLt, dLe, dGt, dGe, dNeg, dIs, dIsNot, rLenD, rTupOf, rLstOf, rMax2, rMin2, rAbs, rIntOf, rStrOf, rDivmod, startE, Ev.get, Ev.set, Ev.lend, Ev.noSlf, Slot.lend, Slot.noSlf, Slot.isL, Slot.isDK, Slot.isPurse, List.map, List.all, List.length_cons, List.length_nil, List.replicate, List.append, List.cons_append, List.nil_append, Nat.zero_add, Nat.reduceAdd, Nat.reduceSub, Nat.reduceLT, if_true, if_false, Bool.false_eq_true, Bool.not_true, Bool.not_false]
        have hne : zs.map D.str ≠ [] := by
          intro e
          have := congrArg List.length e
          rw [List.length_map] at this
          simp at this; subst this; simp at hl; omega
        refine ⟨by first | exact hs | (cases s5 <;> first | rfl | exact hs), trivial, trivial, _, rfl, _, rfl, hne, by rw [List.length_map]; omega, fun d hd => ⟨trivial, ?_⟩⟩
        obtain ⟨z1, hz1, rfl⟩ := List.mem_map.mp hd
        refine ⟨rfl, trivial, by omega, trivial, _, rfl, _, rfl, by simp, by decide, fun d2 hd2 => ?_⟩
        have hd3 : d2 ∈ ([("x" : Str), "0", "r", "9z"] : List Str).map D.str := hd2
        obtain ⟨y, hy, rfl⟩ := List.mem_map.mp hd3
        have hy2 : ∀ y ∈ ([("x" : Str), "0", "r", "9z"] : List Str), y.length ≤ 2 ∧ ∀ c ∈ y.cps.toList, (inLet c || inDig c) = true := by decide +kernel
        have hz2 := labB_name (h1 z1 hz1)
        have hl2 := (labB_gd hz2).2.1
        refine ⟨by have := (hy2 y hy).1; omega, ?_⟩
        refine ⟨by rw [len_app]; have := (hy2 y hy).1; omega, rest _ (labB_cut hz2 (hy2 y hy).2)⟩
      · rw [decide_eq_false qr]
        simp only [sSeq, sRet, sRetF, sRetN, sIf, sNext, sSet, sOwn, sOwnP, sPar, sExpr, sFldI, sBreak, sCont, sDPutD, sParFF, sParEF, sParFE, sParEFF, wIsi, wVar, wC, wOp, wUn, wB, wCons, wNil, wTup, wLst, wDct, wTru, wTruth, wNot, wAndT, wOrT, wAndV, wOrV, wNotV, wIfE, wChain, wCall, wCallP, wCallPF, wMake, wMakeE, wM, wSl, wPart, wNoPart, wMeth, wFldC, wFldS, wProp, wBor, wBorT, wAppend, wPopAt, wExtend, wDGet2, wLstRng, wFmt, wJoined, jCons, jNil, gN, gTupW, gCons', gNil', iL, iT, iS, iR1, iR2, iZp, iEn, dAdd, dSub, dMul, dMod, dFdiv, dPow, dLt, dLe, dGt, dGe, dNeg, dIs, dIsNot, rLenD, rTupOf, rLstOf, rMax2, rMin2, rAbs, rIntOf, rStrOf, rDivmod, startE, Ev.get, Ev.set, Ev.lend, Ev.noSlf, Slot.lend, Slot.noSlf, Slot.isL, Slot.isDK, Slot.isPurse, List.map, List.all, List.length_cons, List.length_nil, List.replicate, List.append, List.cons_append, List.nil_append, Nat.zero_add, Nat.reduceAdd, Nat.reduceSub, Nat.reduceLT, if_true, if_false, Bool.false_eq_true, Bool.not_true, Bool.not_false]
        exact rest z hz
theorem p__law_labels (ds : List D) (kk : D → Prop) (h : c__law_labels ds kk no) : w__law_labels { nx := fun ρ => ρ.get 0 = .purse ∧ kk .non, rt := fun d ρ => ρ.get 0 = .purse ∧ kk d } (.purse :: startE 7 ds) := by
  obtain ⟨a, rfl, m, rfl, h6, h⟩ := h
  unfold w__law_labels
  refine sSeq_gen fun M hM => ?_
  simp only [sSeq, sRet, sRetF, sRetN, sIf, sNext, sSet, sOwn, sOwnP, sPar, sExpr, sFldI, sBreak, sCont, sDPutD, sParFF, sParEF, sParFE, sParEFF, wIsi, wVar, wC, wOp, wUn, wB, wCons, wNil, wTup, wLst, wDct, wTru, wTruth, wNot, wAndT, wOrT, wAndV, wOrV, wNotV, wIfE, wChain, wCall, wCallP, wCallPF, wMake, wMakeE, wM, wSl, wPart, wNoPart, wMeth, wFldC, wFldS, wProp, wBor, wBorT, wAppend, wPopAt, wExtend, wDGet2, wLstRng, wFmt, wJoined, jCons, jNil, gN, gTupW, gCons', gNil', iL, iT, iS, iR1, iR2, iZp, iEn, dAdd, dSub, dMul, dMod, dFdiv, dPow, dLt, dLe, dGt, dGe, dNeg, dIs, dIsNot, rLenD, rTupOf, rLstOf, rMax2, rMin2, rAbs, rIntOf, rStrOf, rDivmod, startE, Ev.get, Ev.set, Ev.lend, Ev.noSlf, Slot.lend, Slot.noSlf, Slot.isL, Slot.isDK, Slot.isPurse, List.map, List.all, List.length_cons, List.length_nil, List.replicate, List.append, List.cons_append, List.nil_append, Nat.zero_add, Nat.reduceAdd, Nat.reduceSub, Nat.reduceLT, if_true, if_false, Bool.false_eq_true, Bool.not_true, Bool.not_false]
  refine ⟨by decide, by decide, hM _ (sSeq_gen fun M1 hM1 => ?_)⟩
  simp only [sFor, sSeq, sRet, sRetF, sRetN, sIf, sNext, sSet, sOwn, sOwnP, sPar, sExpr, sFldI, sBreak, sCont, sDPutD, sParFF, sParEF, sParFE, sParEFF, wIsi, wVar, wC, wOp, wUn, wB, wCons, wNil, wTup, wLst, wDct, wTru, wTruth, wNot, wAndT, wOrT, wAndV, wOrV, wNotV, wIfE, wChain, wCall, wCallP, wCallPF, wMake, wMakeE, wM, wSl, wPart, wNoPart, wMeth, wFldC, wFldS, wProp, wBor, wBorT, wAppend, wPopAt, wExtend, wDGet2, wLstRng, wFmt, wJoined, jCons, jNil, gN, gTupW, gCons', gNil', iL, iT, iS, iR1, iR2, iZp, iEn, dAdd, dSub, dMul, dMod, dFdiv, dPow, dLt, dLe, dGt, dGe, dNeg, dIs, dIsNot, rLenD, rTupOf, rLstOf, rMax2, rMin2, rAbs, rIntOf, rStrOf, rDivmod, startE, Ev.get, Ev.set, Ev.lend, Ev.noSlf, Slot.lend, Slot.noSlf, Slot.isL, Slot.isDK, Slot.isPurse, List.map, List.all, List.length_cons, List.length_nil, List.replicate, List.append, List.cons_append, List.nil_append, Nat.zero_add, Nat.reduceAdd, Nat.reduceSub, Nat.reduceLT, if_true, if_false, Bool.false_eq_true, Bool.not_true, Bool.not_false]
  refine ⟨⟨by omega, by omega⟩, ?_⟩
  rw [Int.toNat_natCast, seqF_eq]
  refine labels_loop (m := m) h6 m 0 [] .un .un .un rfl rfl (by omega) (fun z hz => by cases hz) .nil fun zs s3 s4 s5 hl h1 h2 => hM1 _ ?_
  simp only [sSeq, sRet, sRetF, sRetN, sIf, sNext, sSet, sOwn, sOwnP, sPar, sExpr, sFldI, sBreak, sCont, sDPutD, sParFF, sParEF, sParFE, sParEFF, wIsi, wVar, wC, wOp, wUn, wB, wCons, wNil, wTup, wLst, wDct, wTru, wTruth, wNot, wAndT, wOrT, wAndV, wOrV, wNotV, wIfE, wChain, wCall, wCallP, wCallPF, wMake, wMakeE, wM, wSl, wPart, wNoPart, wMeth, wFldC, wFldS, wProp, wBor, wBorT, wAppend, wPopAt, wExtend, wDGet2, wLstRng, wFmt, wJoined, jCons, jNil, gN, gTupW, gCons', gNil', iL, iT, iS, iR1, iR2, iZp, iEn, dAdd, dSub, dMul, dMod, dFdiv, dPow, dLt, dLe, dGt, dGe, dNeg, dIs, dIsNot, rLenD, rTupOf, rLstOf, rMax2, rMin2, rAbs, rIntOf, rStrOf, rDivmod, startE, Ev.get, Ev.set, Ev.lend, Ev.noSlf, Slot.lend, Slot.noSlf, Slot.isL, Slot.isDK, Slot.isPurse, List.map, List.all, List.length_cons, List.length_nil, List.replicate, List.append, List.cons_append, List.nil_append, Nat.zero_add, Nat.reduceAdd, Nat.reduceSub, Nat.reduceLT, if_true, if_false, Bool.false_eq_true, Bool.not_true, Bool.not_false, namesD]
  exact ⟨trivial, h zs (by omega) h1 h2⟩
end W
set_option Elab.async false
set_option linter.all false
set_option maxRecDepth 100000
set_option maxHeartbeats 4000000
namespace W
open PySem PySem.Spec PyProof.Rows L2 Q
/-! a drawn option, read back -/
theorem numL_head : ∀ (n : Nat), 1 ≤ n → (TL.numL n).headD 0 ≠ 48 := by
  intro n
  induction n using Nat.strongRecOn with
  | _ n ih =>
    intro h
    by_cases q : n < 10
    · rw [TL.numL_lt q]
      show 48 + n ≠ 48
      omega
    · rw [TL.numL_step (by omega)]
      have := ih (n / 10) (by omega) (by omega)
      cases e : TL.numL (n / 10) with
      | nil => exact absurd e (TL.numL_ne _)
      | cons c r => rw [e] at this; exact this
theorem inDig_of {c : Nat} (h : 48 ≤ c ∧ c ≤ 57) : inDig c = true := by
  have key : ∀ c ∈ (List.range 10).map (48 + ·), inDig c = true := by decide +kernel
  exact key c (List.mem_map.mpr ⟨c - 48, List.mem_range.mpr (by omega), by omega⟩)
theorem written_num {n : Int} (h : 1 ≤ n) (h1 : n ≤ 1000000000000) : writtenN (numS n) = some n := by
  have hl := numS_len (n := n) (by omega) h1
  have et := numS_tl (n := n) (by omega)
  have hv := TL.numL_val n.toNat
  unfold writtenN
  have hne := TL.numL_ne n.toNat
  have c1 : 1 ≤ (numS n).length := by
    rw [← len_tl, et]
    exact List.length_pos_iff.mpr hne
  have c3 : digB (numS n) = true := by
    unfold digB
    rw [et]
    exact List.all_eq_true.mpr fun c hc => inDig_of (TL.numL_digits n.toNat c hc)
  have c4 : (numS n).cps.toList.headD 0 ≠ 48 := by rw [et]; exact numL_head _ (by omega)
  rw [if_pos ⟨c1, hl, c3, c4⟩, et, hv]
  rw [if_pos (by omega)]
  congr 1
  omega
theorem pWord_text {w : Wd} (h : wOk w) : pWord (wtext w) = some w := by
  have u3 : ("all" : Str) ++ ("-" : Str) = "all-" := by decide +kernel
  have u5 : ("most" : Str) ++ ("+" : Str) = "most+" := by decide +kernel
  have u6 : ("most" : Str) ++ ("-" : Str) = "most-" := by decide +kernel
  have t1 : (Str.ofString "all").cps.toList = [97, 108, 108] := by decide +kernel
  have t2 : (Str.ofString "most").cps.toList = [109, 111, 115, 116] := by decide +kernel
  have t3 : (Str.ofString "all-").cps.toList = [97, 108, 108, 45] := by decide +kernel
  have t4 : (Str.ofString "most-").cps.toList = [109, 111, 115, 116, 45] := by decide +kernel
  have t5 : (Str.ofString "most+").cps.toList = [109, 111, 115, 116, 43] := by decide +kernel
  have app : ∀ x y : Str, (x ++ y).cps.toList = x.cps.toList ++ y.cps.toList := fun x y => TL.tl_append x y
  unfold pWord
  rw [u3, u5, u6]
  rcases wform h with ⟨n, h0, h1, rfl, e⟩ | ⟨rfl, e⟩ | ⟨n, h0, h1, rfl, e⟩ | ⟨rfl, e⟩ | ⟨n, h0, h1, rfl, e⟩ | ⟨n, h0, h1, rfl, e⟩
  · rw [e]
    obtain ⟨c, r, ec, b0, b1⟩ := numS_head (n := n) (by omega)
    rw [if_neg, if_neg, if_neg, if_neg, written_num h0 h1]
    · rfl
    · rw [starts_ne]; · exact Bool.false_ne_true
      rw [ec, hl6, t5]; simp; omega
    · rw [starts_ne]; · exact Bool.false_ne_true
      rw [ec, hl5, t4]; simp; omega
    · rw [starts_ne]; · exact Bool.false_ne_true
      rw [ec, hl4, t3]; simp; omega
    · rintro (q | q)
      · have := congrArg (fun z : Str => z.cps.toList) q
        simp only [ec, t1] at this; simp at this; omega
      · have := congrArg (fun z : Str => z.cps.toList) q
        simp only [ec, t2] at this; simp at this; omega
  · rw [e, if_pos (.inl rfl)]
  · rw [e, if_neg, if_pos (starts_app _ _), show (some (4 : Int)) = some (((Str.ofString "all-").length : Nat) : Int) by rw [hl4]; rfl, cut_rest, written_num h0 h1]
    · rfl
    · rintro (q | q)
      · have := congrArg (fun z : Str => z.cps.toList) q
        simp only [app, t3, t1] at this; simp at this
      · have := congrArg (fun z : Str => z.cps.toList) q
        simp only [app, t3, t2] at this; simp at this
  · rw [e, if_pos (.inr rfl)]
  · rw [e, if_neg, if_neg, if_neg, if_pos (starts_app _ _), show (some (5 : Int)) = some (((Str.ofString "most+").length : Nat) : Int) by rw [hl6]; rfl, cut_rest, written_num h0 h1]
    · rfl
    · rw [starts_ne]; · exact Bool.false_ne_true
      rw [app, t5, hl5, t4]; simp
    · rw [starts_ne]; · exact Bool.false_ne_true
      rw [app, t5, hl4, t3]; simp
    · rintro (q | q)
      · have := congrArg (fun z : Str => z.cps.toList) q
        simp only [app, t5, t1] at this; simp at this
      · have := congrArg (fun z : Str => z.cps.toList) q
        simp only [app, t5, t2] at this; simp at this
  · rw [e, if_neg, if_neg, if_pos (starts_app _ _), show (some (5 : Int)) = some (((Str.ofString "most-").length : Nat) : Int) by rw [hl5]; rfl, cut_rest, written_num h0 h1]
    · rfl
    · rw [starts_ne]; · exact Bool.false_ne_true
      rw [app, t4, hl4, t3]; simp
    · rintro (q | q)
      · have := congrArg (fun z : Str => z.cps.toList) q
        simp only [app, t4, t1] at this; simp at this
      · have := congrArg (fun z : Str => z.cps.toList) q
        simp only [app, t4, t2] at this; simp at this
/-- neither a blank nor a comma -/
def freeS (z : Str) : Prop := 32 ∉ z.cps.toList ∧ 44 ∉ z.cps.toList
theorem wtext_free {w : Wd} (h : wOk w) : freeS (wtext w) := by
  have app : ∀ x y : Str, (x ++ y).cps.toList = x.cps.toList ++ y.cps.toList := fun x y => TL.tl_append x y
  have hn : ∀ n : Int, 1 ≤ n → freeS (numS n) := fun n h0 => by
    unfold freeS
    rw [numS_tl (by omega)]
    exact ⟨TL.numL_free (by omega), TL.numL_free (by omega)⟩
  have ha : ∀ x ∈ ([Str.ofString "all", Str.ofString "most", Str.ofString "all-", Str.ofString "most-", Str.ofString "most+"] : List Str), 32 ∉ x.cps.toList ∧ 44 ∉ x.cps.toList := by decide +kernel
  have cat : ∀ x y : Str, freeS x → freeS y → freeS (x ++ y) := fun x y hx hy => by
    unfold freeS
    rw [app]
    exact ⟨fun q => (List.mem_append.mp q).elim hx.1 hy.1, fun q => (List.mem_append.mp q).elim hx.2 hy.2⟩
  rcases wform h with ⟨n, h0, h1, _, e⟩ | ⟨_, e⟩ | ⟨n, h0, h1, _, e⟩ | ⟨_, e⟩ | ⟨n, h0, h1, _, e⟩ | ⟨n, h0, h1, _, e⟩
  · rw [e]; exact hn n h0
  · rw [e]; exact ha _ (by simp)
  · rw [e]; exact cat _ _ (ha _ (by simp)) (hn n h0)
  · rw [e]; exact ha _ (by simp)
  · rw [e]; exact cat _ _ (ha _ (by simp)) (hn n h0)
  · rw [e]; exact cat _ _ (ha _ (by simp)) (hn n h0)
theorem name_free {z : Str} (h : nameB z = true) : freeS z := by
  have hg := (labB_gd (labB_name h)).1.2
  exact ⟨fun q => absurd (hg 32 q) (by decide +kernel), fun q => absurd (hg 44 q) (by decide +kernel)⟩
def demS (w : Wd) (z : Str) : Str := (wtext w ++ (" " : Str)) ++ z
theorem dem_split {w : Wd} {z : Str} (h : wOk w) (hz : nameB z = true) : Txt.split (demS w z) (Str.ofString " ") = [wtext w, z] := by
  have e1 : demS w z = Txt.join (Str.ofString " ") [wtext w, z] := by
    rw [TL.join_eq]
    refine str_ext ?_
    rw [show (Str.join (Str.ofString " ") [wtext w, z]).cps.toList = TL.joinL (Str.ofString " ").cps.toList ([wtext w, z].map fun x => x.cps.toList) from TL.tl_join _ _]
    show ((wtext w ++ (" " : Str)) ++ z).cps.toList = (wtext w).cps.toList ++ ((Str.ofString " ").cps.toList ++ z.cps.toList)
    rw [show ((wtext w ++ (" " : Str)) ++ z).cps.toList = (wtext w ++ (" " : Str)).cps.toList ++ z.cps.toList from TL.tl_append _ _, show (wtext w ++ (" " : Str)).cps.toList = (wtext w).cps.toList ++ (Str.ofString " ").cps.toList from TL.tl_append _ _, List.append_assoc]
  rw [e1]
  refine TL.split_join (s := 32) (S := []) (by decide +kernel) (by decide +kernel) (by simp) fun p hp => ?_
  rcases List.mem_cons.mp hp with rfl | hp
  · exact (wtext_free h).1
  · rw [List.mem_singleton.mp hp]; exact (name_free hz).1
theorem dem_free {w : Wd} {z : Str} (h : wOk w) (hz : nameB z = true) : 44 ∉ (demS w z).cps.toList := by
  have e : (demS w z).cps.toList = ((wtext w).cps.toList ++ (Str.ofString " ").cps.toList) ++ z.cps.toList := by
    unfold demS
    rw [show ((wtext w ++ (" " : Str)) ++ z).cps.toList = (wtext w ++ (" " : Str)).cps.toList ++ z.cps.toList from TL.tl_append _ _, show (wtext w ++ (" " : Str)).cps.toList = (wtext w).cps.toList ++ (Str.ofString " ").cps.toList from TL.tl_append _ _]
  rw [e]
  have hb : 44 ∉ (Str.ofString " ").cps.toList := by decide +kernel
  intro q
  rcases List.mem_append.mp q with q | q
  · rcases List.mem_append.mp q with q | q
    · exact (wtext_free h).2 q
    · exact hb q
  · exact (name_free hz).2 q
theorem pDems_ok {names : List Str} (hn : ∀ z ∈ names, nameB z = true) : ∀ (ps : List (Str × Wd)) (found : Fd), (∀ p ∈ ps, p.1 ∈ names ∧ wOk p.2) → (ps.map (·.1)).Nodup → (∀ p ∈ ps, p.1 ∉ found.map (·.1)) → pDems names found (ps.map fun p => demS p.2 p.1) = some (found ++ ps)
  | [], found, _, _, _ => by simp [pDems]
  | p :: ps, found, h, hd, hf => by
    obtain ⟨h1, h2⟩ := h p (List.mem_cons_self ..)
    have hd' := List.nodup_cons.mp hd
    have e : pDem names found (demS p.2 p.1) = some (found ++ [(p.1, p.2)]) := by
      unfold pDem
      rw [dem_split h2 (hn _ h1)]
      simp only [pWord_text h2]
      rw [if_pos ⟨h1, hf p (List.mem_cons_self ..)⟩]
    rw [List.map_cons]
    unfold pDems
    rw [e]
    have := pDems_ok hn ps (found ++ [(p.1, p.2)]) (fun q hq => h q (List.mem_cons_of_mem _ hq)) hd'.2 fun q hq => by
      rw [List.map_append, List.mem_append]
      rintro (k | k)
      · exact hf q (List.mem_cons_of_mem _ hq) k
      · have k : q.1 = p.1 := by simpa using k
        exact hd'.1 (List.mem_map.mpr ⟨q, hq, k⟩)
    simp only
    rw [this, List.append_assoc]
    rfl
end W
set_option Elab.async false
set_option linter.all false
set_option maxRecDepth 100000
set_option maxHeartbeats 4000000
namespace W
open PySem PySem.Spec PyProof.Rows L2 Q
def nm (names : List Str) (i : Nat) : Str := names.getD i Str.empty
def pairsOf (names : List Str) (r : Row) : List (Str × Wd) := r.map fun p => (nm names p.1, p.2)
def optOf (names : List Str) (r : Row) : List Wd := fill names (pairsOf names r)
def txtOf (names : List Str) (r : Row) : Str := Txt.join (Str.ofString ", ") (r.map fun p => demS p.2 (nm names p.1))
theorem nm_get {names : List Str} {i : Nat} (h : i < names.length) : nm names i = names[i] := by
  unfold nm; simp [List.getD, List.getElem?_eq_getElem h]
theorem nm_mem {names : List Str} {i : Nat} (h : i < names.length) : nm names i ∈ names := by
  rw [nm_get h]; exact List.getElem_mem h
theorem nodup_inj {α : Type} {l : List α} (hd : l.Nodup) {i j : Nat} (hi : i < l.length) (hj : j < l.length) (e : l[i] = l[j]) : i = j := by
  rcases Nat.lt_trichotomy i j with q | q | q
  · exact absurd e (List.pairwise_iff_getElem.mp hd i j hi hj q)
  · exact q
  · exact absurd e.symm (List.pairwise_iff_getElem.mp hd j i hj hi q)
theorem pairs_nodup {names : List Str} (hd : names.Nodup) : ∀ {r : Row}, (∀ p ∈ r, p.1 < names.length) → (r.map (·.1)).Nodup → ((pairsOf names r).map (·.1)).Nodup
  | [], _, _ => .nil
  | p :: r, h, hr => by
    have hr' := List.nodup_cons.mp hr
    refine List.nodup_cons.mpr ⟨fun q => ?_, pairs_nodup hd (fun x hx => h x (List.mem_cons_of_mem _ hx)) hr'.2⟩
    obtain ⟨y, hy, e⟩ := List.mem_map.mp q
    obtain ⟨x, hx, rfl⟩ := List.mem_map.mp hy
    have h1 := h p (List.mem_cons_self ..)
    have h2 := h x (List.mem_cons_of_mem _ hx)
    have e : nm names x.1 = nm names p.1 := e
    rw [nm_get h1, nm_get h2] at e
    have := nodup_inj hd h2 h1 e
    exact hr'.1 (List.mem_map.mpr ⟨x, hx, this⟩)
theorem pOpt_row {names : List Str} (hn : ∀ z ∈ names, nameB z = true) (hd : names.Nodup) {r : Row} (h : rowOk names.length r) : pOpt names (txtOf names r) = some (optOf names r) := by
  obtain ⟨h1, h2, h3, h4⟩ := h
  unfold pOpt txtOf
  have e : Txt.split (Txt.join (Str.ofString ", ") (r.map fun p => demS p.2 (nm names p.1))) (Str.ofString ", ") = r.map fun p => demS p.2 (nm names p.1) := by
    refine TL.split_join (s := 44) (S := [32]) (by decide +kernel) (by decide +kernel) (by simpa using h1) fun p hp => ?_
    obtain ⟨q, hq, rfl⟩ := List.mem_map.mp hp
    exact dem_free (h3 q hq).2 (hn _ (nm_mem (h3 q hq).1))
  rw [e]
  have e2 : (r.map fun p => demS p.2 (nm names p.1)) = (pairsOf names r).map fun p => demS p.2 p.1 := by unfold pairsOf; rw [List.map_map]; rfl
  rw [e2, pDems_ok hn (pairsOf names r) [] (fun p hp => ?_) (pairs_nodup hd (fun p hp => (h3 p hp).1) h4) fun p _ hp => by cases hp]
  · rfl
  · obtain ⟨q, hq, rfl⟩ := List.mem_map.mp hp
    exact ⟨nm_mem (h3 q hq).1, (h3 q hq).2⟩
theorem mapM_rows {names : List Str} (hn : ∀ z ∈ names, nameB z = true) (hd : names.Nodup) : ∀ (rows : List Row), (∀ r ∈ rows, rowOk names.length r) → (rows.map fun r => D.str (txtOf names r)).mapM (pOptD names) = some (rows.map (optOf names))
  | [], _ => rfl
  | r :: rows, h => by
    rw [List.map_cons, List.mapM_cons, mapM_rows hn hd rows fun x hx => h x (List.mem_cons_of_mem _ hx)]
    have : pOptD names (.str (txtOf names r)) = some (optOf names r) := pOpt_row hn hd (h r (List.mem_cons_self ..))
    rw [this]
    rfl
theorem pRules_ok {names : List Str} (hn : ∀ z ∈ names, nameB z = true) (hd : names.Nodup) {rows : List Row} (h : ∀ r ∈ rows, rowOk names.length r) (h1 : 1 ≤ rows.length) (h6 : rows.length ≤ 6) :
    pRulesL names [] [.tup [.str (Str.ofString "r"), .tup (rows.map fun r => D.str (txtOf names r))]] = some [(Str.ofString "r", rows.map (optOf names))] := by
  have e1 : pOpts names (.tup (rows.map fun r => D.str (txtOf names r))) = some (rows.map (optOf names)) := by
    show (if 1 ≤ (rows.map fun r => D.str (txtOf names r)).length ∧ (rows.map fun r => D.str (txtOf names r)).length ≤ 6 then (rows.map fun r => D.str (txtOf names r)).mapM (pOptD names) else none) = _
    rw [if_pos (by rw [List.length_map]; exact ⟨h1, h6⟩), mapM_rows hn hd rows h]
  have hr : nameB (Str.ofString "r") = true := by decide +kernel
  have e2 : pRule names [] (.tup [.str (Str.ofString "r"), .tup (rows.map fun r => D.str (txtOf names r))]) = some [(Str.ofString "r", rows.map (optOf names))] := by
    unfold pRule
    simp only [hr, if_true, e1]
    rw [if_pos (by simp)]
    rfl
  unfold pRulesL
  rw [e2]
  rfl
theorem lookup_mem {α β : Type} [BEq α] [LawfulBEq α] : ∀ {l : List (α × β)} {a : α} {b : β}, l.lookup a = some b → (a, b) ∈ l
  | [], _, _, h => by cases h
  | (x, y) :: l, a, b, h => by
    rw [List.lookup_cons] at h
    by_cases q : (a == x) = true
    · rw [q] at h
      have := eq_of_beq q
      subst this
      injection h with h
      subst h
      exact List.mem_cons_self ..
    · rw [Bool.eq_false_iff.mpr q] at h
      exact List.mem_cons_of_mem _ (lookup_mem h)
theorem lookup_of {α β : Type} [BEq α] [LawfulBEq α] : ∀ {l : List (α × β)} {a : α} {b : β}, (l.map (·.1)).Nodup → (a, b) ∈ l → l.lookup a = some b
  | (x, y) :: l, a, b, hd, h => by
    have hd' := List.nodup_cons.mp hd
    rw [List.lookup_cons]
    by_cases q : (a == x) = true
    · rw [q]
      have := eq_of_beq q
      subst this
      rcases List.mem_cons.mp h with e | e
      · injection e with _ e; rw [e]
      · exact absurd (List.mem_map.mpr ⟨_, e, rfl⟩) hd'.1
    · rw [Bool.eq_false_iff.mpr q]
      rcases List.mem_cons.mp h with e | e
      · injection e with e1 e2; subst e1; exact absurd (beq_self_eq_true _) q
      · exact lookup_of hd'.2 e
/-- what is asked of the i-th lot -/
theorem above_iff : ∀ {ws : List Wd} {zs cs : List Int}, ws.length = zs.length → zs.length = cs.length → (aboveB (numbersW ws zs) cs = false ↔ ∀ i (h : i < ws.length), numW ws[i] (zs.getD i 0) ≤ cs.getD i 0)
  | [], [], [], _, _ => ⟨fun _ i h => by simp at h, fun _ => rfl⟩
  | w :: ws, z :: zs, c :: cs, h1, h2 => by
    have ih := above_iff (ws := ws) (zs := zs) (cs := cs) (by simpa using h1) (by simpa using h2)
    have e : aboveB (numbersW (w :: ws) (z :: zs)) (c :: cs) = (decide (c < numW w z) || aboveB (numbersW ws zs) cs) := rfl
    rw [e, Bool.or_eq_false_iff, ih, decide_eq_false_iff_not]
    constructor
    · rintro ⟨q1, q2⟩ i hi
      cases i with
      | zero => show numW w z ≤ c; omega
      | succ i => exact q2 i (by simpa using hi)
    · intro q
      refine ⟨by have := q 0 (by simp); have : numW w z ≤ c := this; omega, fun i hi => q (i + 1) (by simpa using hi)⟩
  | [], _ :: _, _, h, _ => by simp at h
  | _ :: _, [], _, h, _ => by simp at h
  | _, [], _ :: _, _, h => by simp at h
  | _, _ :: _, [], _, h => by simp at h
theorem row_due {names : List Str} (hd : names.Nodup) {r : Row} (h : rowOk names.length r) {zs cs : List Int} (hz : zs.length = names.length) (hc : cs.length = names.length) (hcs : ∀ c ∈ cs, 0 ≤ c) :
    (!aboveB (numbersW (optOf names r) zs) cs) = r.all fun p => decide (numW p.2 (zs.getD p.1 0) ≤ cs.getD p.1 0) := by
  obtain ⟨_, _, h3, h4⟩ := h
  have hpd := pairs_nodup hd (fun p hp => (h3 p hp).1) h4
  have hl : (optOf names r).length = names.length := by unfold optOf fill; rw [List.length_map]
  have key := above_iff (ws := optOf names r) (zs := zs) (cs := cs) (by omega) (by omega)
  have get : ∀ i (hi : i < (optOf names r).length), (optOf names r)[i] = ((pairsOf names r).lookup (nm names i)).getD ("number", 0) := fun i hi => by
    refine (List.getElem_of_eq (show optOf names r = names.map fun n => ((pairsOf names r).lookup n).getD ("number", 0) from rfl) hi).trans ?_
    rw [List.getElem_map, nm_get (by omega)]
  rw [Bool.eq_iff_iff, Bool.not_eq_true', key, List.all_eq_true]
  constructor
  · intro q p hp
    have hi := (h3 p hp).1
    have := q p.1 (by omega)
    rw [get, lookup_of hpd (List.mem_map.mpr ⟨p, hp, rfl⟩)] at this
    exact decide_eq_true this
  · intro q i hi
    rw [get]
    cases e : (pairsOf names r).lookup (nm names i) with
    | none =>
      have hc0 : 0 ≤ cs.getD i 0 := hcs _ (getD_mem (by omega))
      have : numW ((Option.getD none ("number", 0)) : Wd) (zs.getD i 0) = 0 := rfl
      rw [this]; exact hc0
    | some w =>
      obtain ⟨p, hp, ep⟩ := List.mem_map.mp (lookup_mem e)
      injection ep with e1 e2
      have hpi := (h3 p hp).1
      rw [nm_get hpi, nm_get (by omega)] at e1
      have := nodup_inj hd hpi (by omega) e1
      have hq := of_decide_eq_true (q p hp)
      rw [this, e2] at hq
      exact hq
theorem quor_due {names : List Str} (hd : names.Nodup) {zs cs : List Int} (hz : zs.length = names.length) (hc : cs.length = names.length) (hcs : ∀ c ∈ cs, 0 ≤ c) : ∀ {rows : List Row}, (∀ r ∈ rows, rowOk names.length r) → quorB (rows.map (optOf names)) zs cs = dueB rows zs cs
  | [], _ => rfl
  | r :: rows, h => by
    have ih := quor_due hd hz hc hcs (rows := rows) fun x hx => h x (List.mem_cons_of_mem _ hx)
    show ((!aboveB (numbersW (optOf names r) zs) cs) || quorB (rows.map (optOf names)) zs cs) = _
    rw [ih, row_due hd (h r (List.mem_cons_self ..)) hz hc hcs]
    rfl
theorem numW_mono {w : Wd} (h : wOk w) {z c z' c' : Int} (h1 : numW w z ≤ c) (h2 : c ≤ c') (h3 : z' - c' ≤ z - c) (h0 : 0 ≤ c') : numW w z' ≤ c' := by
  have z1 : ¬ ("all" : Str) = "number" := by decide +kernel
  have z2 : ¬ ("most" : Str) = "number" := by decide +kernel
  have z3 : ¬ ("most" : Str) = "all" := by decide +kernel
  obtain ⟨a, n⟩ := w
  rcases h with ⟨q, q1, q2⟩ | ⟨q, q1, q2⟩ | ⟨q, q1, q2⟩
  · have q : a = "number" := q
    subst q
    have e : ∀ z, numW ("number", n) z = n := fun z => if_pos rfl
    rw [e] at h1 ⊢; omega
  · have q : a = "all" := q
    subst q
    have q2 : n ≤ 0 := q2
    have e : ∀ z, numW ("all", n) z = if z + n > 0 then z + n else 0 := fun z => by
      unfold numW; rw [if_neg z1, if_pos rfl]
    rw [e] at h1 ⊢
    split at h1 <;> split <;> omega
  · have q : a = "most" := q
    subst q
    have e : ∀ z, numW ("most", n) z = if (z / 2 + 1) + n > 0 then (z / 2 + 1) + n else 0 := fun z => by
      unfold numW; rw [if_neg z2, if_neg z3]
    rw [e] at h1 ⊢
    split at h1 <;> split <;> omega
theorem moved_at : ∀ {zs cs zs' cs' : List Int} {b : Bool}, Moved b zs cs zs' cs' → (zs.length = cs.length ∧ zs'.length = zs.length ∧ cs'.length = zs.length) ∧ ∀ i, i < zs.length → Mv b (zs.getD i 0) (cs.getD i 0) (zs'.getD i 0) (cs'.getD i 0)
  | [], [], [], [], b, _ => ⟨⟨rfl, rfl, rfl⟩, fun i h => by simp at h⟩
  | z :: zs, c :: cs, z' :: zs', c' :: cs', b, h => by
    obtain ⟨h1, h2⟩ := h
    obtain ⟨⟨a1, a2, a3⟩, ih⟩ := moved_at h2
    refine ⟨⟨by simp [a1], by simp [a2], by simp [a3]⟩, fun i hi => ?_⟩
    cases i with
    | zero => exact h1
    | succ i => exact ih i (by simpa using hi)
theorem due_moved {rows : List Row} {n : Nat} {zs cs zs' cs' : List Int} (hr : ∀ r ∈ rows, rowOk n r) (hz : zs.length = n) (hcs : ∀ c ∈ cs, 0 ≤ c) (h : Moved (dueB rows zs cs) zs cs zs' cs') : dueB rows zs' cs' = dueB rows zs cs := by
  obtain ⟨⟨a1, a2, a3⟩, hm⟩ := moved_at h
  cases e : dueB rows zs cs with
  | true =>
    rw [e] at hm
    unfold dueB at e ⊢
    rw [List.any_eq_true] at e ⊢
    obtain ⟨r, hr1, hr2⟩ := e
    refine ⟨r, hr1, ?_⟩
    rw [List.all_eq_true] at hr2 ⊢
    intro p hp
    have hi := (hr r hr1).2.2.1 p hp
    obtain ⟨m1, m2, m3, m4⟩ := hm p.1 (by omega)
    rw [if_pos rfl] at m4
    exact decide_eq_true (numW_mono hi.2 (of_decide_eq_true (hr2 p hp)) m4.1 m4.2 m2)
  | false =>
    rw [e] at hm
    cases e' : dueB rows zs' cs' with
    | false => rfl
    | true =>
      exfalso
      have : dueB rows zs cs = true := by
        unfold dueB at e' ⊢
        rw [List.any_eq_true] at e' ⊢
        obtain ⟨r, hr1, hr2⟩ := e'
        refine ⟨r, hr1, ?_⟩
        rw [List.all_eq_true] at hr2 ⊢
        intro p hp
        have hi := (hr r hr1).2.2.1 p hp
        obtain ⟨m1, m2, m3, m4⟩ := hm p.1 (by omega)
        rw [if_neg Bool.false_ne_true] at m4
        refine decide_eq_true (numW_mono hi.2 (of_decide_eq_true (hr2 p hp)) m4.1 m4.2 (hcs _ (getD_mem (by omega))))
      rw [this] at e
      exact Bool.noConfusion e
def lot0 (l : Str) : D := .tup [.str l, .int 1, .non]
theorem lot0_names (names : List Str) : (names.map lot0).map lotName = names := by
  rw [List.map_map]
  exact (List.map_congr_left fun _ _ => rfl).trans (List.map_id _)
theorem lots_ok : ∀ (names taken : List Str), (∀ z ∈ names, nameB z = true) → names.Nodup → (∀ z ∈ names, z ∉ taken) → lotsL taken (names.map lot0) = true
  | [], _, _, _, _ => rfl
  | n :: names, taken, h, hd, ht => by
    have hd' := List.nodup_cons.mp hd
    have e1 : lotB taken (lot0 n) = true := by
      show (nameB n && !decide (n ∈ taken) && intIn 1 1000000000000 (.int 1) && endOk (.int 1) .non) = true
      rw [h n (List.mem_cons_self ..), decide_eq_false (ht n (List.mem_cons_self ..))]
      rfl
    show (lotB taken (lot0 n) && lotsL (taken ++ [n]) (names.map lot0)) = true
    rw [e1, lots_ok names (taken ++ [n]) (fun z hz => h z (List.mem_cons_of_mem _ hz)) hd'.2 fun z hz q => ?_]
    · rfl
    · rcases List.mem_append.mp q with q | q
      · exact ht z (List.mem_cons_of_mem _ hz) q
      · rw [List.mem_singleton.mp q] at hz; exact hd'.1 hz
end W
set_option Elab.async false
set_option linter.all false
set_option maxRecDepth 100000
set_option maxHeartbeats 4000000
namespace W
open PySem PySem.Spec PyProof.Rows L2 Q
theorem n__law_right {ds : List D} {kk : D → Prop} {kx : XC} (h : c__law_right ds kk kx) : ds.length + 1 = 1 := by
  obtain ⟨rfl, _⟩ := h; rfl
theorem all2_ex {α : Type} {P : α → Prop} {G : α → D} : ∀ {β : Type} {l : List β} {ys : List D}, All2 (fun _ y => ∃ r, P r ∧ y = G r) l ys → ∃ rs : List α, ys = rs.map G ∧ rs.length = l.length ∧ ∀ r ∈ rs, P r
  | _, [], [], _ => ⟨[], rfl, rfl, fun _ h => by cases h⟩
  | _, _ :: l, _ :: ys, h => by
    obtain ⟨⟨r, hr, rfl⟩, h2⟩ := h
    obtain ⟨zs, rfl, e, hz⟩ := all2_ex h2
    exact ⟨r :: zs, rfl, by simp [e], fun z hz' => by
      rcases List.mem_cons.mp hz' with rfl | h
      · exact hr
      · exact hz z h⟩
  | _, [], _ :: _, h => h.elim
  | _, _ :: _, [], h => h.elim
theorem demS_len {w : Wd} {z : Str} (h : wOk w) (hz : nameB z = true) : (demS w z).length ≤ 27 := by
  have h1 := wtext_len h
  have h2 := (labB_gd (labB_name hz)).2.1
  have h3 : (Str.ofString " ").length = 1 := by decide +kernel
  unfold demS
  rw [len_app, len_app, h3]
  omega
theorem sum_le {c : Nat} : ∀ (ys : List Str), (∀ y ∈ ys, y.length ≤ c) → (ys.map (·.length)).sum ≤ ys.length * c
  | [], _ => by simp
  | y :: ys, h => by
    have ih := sum_le ys fun x hx => h x (List.mem_cons_of_mem _ hx)
    have h1 := h y (List.mem_cons_self ..)
    simp only [List.map_cons, List.sum_cons, List.length_cons, Nat.succ_mul]
    omega
theorem txt_len {names : List Str} {r : Row} (h : rowOk names.length r) (hn : ∀ z ∈ names, nameB z = true) (hl : names.length ≤ 6 := by omega) : (txtOf names r).length ≤ 200 := by
  have key : ∀ (S : List Nat) (ps : List (List Nat)), (∀ p ∈ ps, p.length ≤ 27) → (TL.joinL S ps).length ≤ ps.length * (27 + S.length) := by
    intro S ps
    induction ps with
    | nil => intro _; simp [TL.joinL]
    | cons p ps ih =>
      intro h
      have h1 := h p (List.mem_cons_self ..)
      have ih := ih fun x hx => h x (List.mem_cons_of_mem _ hx)
      cases ps with
      | nil => simp only [TL.joinL, List.length_cons, List.length_nil]; omega
      | cons q ps =>
        simp only [TL.joinL, List.length_append, List.length_cons, Nat.succ_mul] at ih ⊢
        omega
  have l2 : (Str.ofString ", ").cps.toList.length = 2 := by decide +kernel
  have k := key (Str.ofString ", ").cps.toList ((r.map fun p => demS p.2 (nm names p.1)).map fun x => x.cps.toList) fun p hp => by
    obtain ⟨x, hx, rfl⟩ := List.mem_map.mp hp
    obtain ⟨q, hq, rfl⟩ := List.mem_map.mp hx
    have := demS_len (h.2.2.1 q hq).2 (hn _ (nm_mem (h.2.2.1 q hq).1))
    rw [← len_tl] at this
    exact this
  rw [List.length_map, List.length_map, l2] at k
  have e : (txtOf names r).cps.toList = TL.joinL (Str.ofString ", ").cps.toList ((r.map fun p => demS p.2 (nm names p.1)).map fun x => x.cps.toList) := by
    unfold txtOf
    rw [TL.join_eq]
    exact TL.tl_join _ _
  rw [← len_tl, e]
  have := h.2.1
  omega
theorem look_isq {lots rules lies : D} {names : List Str} {rs : Rl} {ls : List (List Wd)} : (planF lots rules lies names rs ls).lookup (Str.ofString "is_quorum") = none := by
  have e1 : (Str.ofString "is_quorum" == Str.ofString "lot_names") = false := by decide +kernel
  have e2 : (Str.ofString "is_quorum" == Str.ofString "options") = false := by decide +kernel
  have e3 : (Str.ofString "is_quorum" == Str.ofString "lie_words") = false := by decide +kernel
  have e4 : (Str.ofString "is_quorum" == Str.ofString "held_lots") = false := by decide +kernel
  have e5 : (Str.ofString "is_quorum" == Str.ofString "held_rules") = false := by decide +kernel
  have e6 : (Str.ofString "is_quorum" == Str.ofString "held_lies") = false := by decide +kernel
  unfold planF
  simp only [List.lookup_cons, e1, e2, e3, e4, e5, e6, List.lookup_nil]
def ltOf (names : List Str) : List Lt := names.map fun z => (z, 1, none)
theorem ltOf_eq (names : List Str) : (ltOf names).map lotD = names.map lot0 := by
  unfold ltOf; rw [List.map_map]; rfl
theorem sizes_ok : ∀ (names : List Str) (zs : List Int), zs.length = names.length → (∀ z ∈ zs, 1 ≤ z) → sizesB (ltOf names) (tupI zs) = true := fun names zs hl hz => by
  have key : ∀ (names : List Str) (zs : List Int), (∀ z ∈ zs, 1 ≤ z) → (((ltOf names).zip (zs.map D.int)).all fun p => sizeB p.1.2.1 p.1.2.2 p.2) = true := by
    intro names
    induction names with
    | nil => intro zs _; rfl
    | cons n names ih =>
      intro zs hz
      cases zs with
      | nil => rfl
      | cons z zs =>
        have h1 := hz z (List.mem_cons_self ..)
        show ((decide (1 ≤ z) && true) && _) = true
        rw [decide_eq_true h1]
        exact ih zs fun x hx => hz x (List.mem_cons_of_mem _ hx)
  show (decide ((zs.map D.int).length = (ltOf names).length) && _) = true
  rw [decide_eq_true (by unfold ltOf; rw [List.length_map, List.length_map]; exact hl)]
  exact key names zs hz
/-- counts from 0 to the sizes -/
def cntOk (zs cs : List Int) : Prop := zs.length = cs.length ∧ ∀ i, i < zs.length → 0 ≤ cs.getD i 0 ∧ cs.getD i 0 ≤ zs.getD i 0
theorem cnt_cons {z c : Int} {zs cs : List Int} (h : cntOk (z :: zs) (c :: cs)) : (0 ≤ c ∧ c ≤ z) ∧ cntOk zs cs :=
  ⟨h.2 0 (by simp), by simpa using h.1, fun i hi => h.2 (i + 1) (by simpa using hi)⟩
theorem counts_ok : ∀ (zs cs : List Int), cntOk zs cs → countsB zs (tupI cs) = true := fun zs cs h => by
  have key : ∀ (zs cs : List Int), cntOk zs cs → (((cs.map D.int).zip zs).all fun p => intIn 0 p.2 p.1) = true := by
    intro zs
    induction zs with
    | nil => intro cs h; cases cs <;> rfl
    | cons z zs ih =>
      intro cs h
      cases cs with
      | nil => rfl
      | cons c cs =>
        obtain ⟨⟨h1, h2⟩, h3⟩ := cnt_cons h
        show ((decide (0 ≤ c) && decide (c ≤ z)) && _) = true
        rw [decide_eq_true h1, decide_eq_true h2]
        exact ih cs h3
  show (decide ((cs.map D.int).length = zs.length) && _) = true
  rw [decide_eq_true (by rw [List.length_map]; exact h.1.symm)]
  exact key zs cs h
theorem cnt_pos {zs cs : List Int} (h : cntOk zs cs) : ∀ c ∈ cs, 0 ≤ c := fun c hc => by
  obtain ⟨i, hi, rfl⟩ := List.mem_iff_getElem.mp hc
  have := (h.2 i (by rw [h.1]; exact hi)).1
  simpa [List.getD, List.getElem?_eq_getElem hi] using this
/-- what is known of the drawn plan -/
structure PL (names : List Str) (rows : List Row) (F : List (Str × D)) : Prop where
  nl : names.length ≤ 5
  nb : ∀ z ∈ names, nameB z = true
  nd : names.Nodup
  rl : 1 ≤ rows.length ∧ rows.length ≤ 6
  ro : ∀ r ∈ rows, rowOk names.length r
  nm : F.lookup (Str.ofString "is_quorum") = none
  pl : PlanD (.ins "Plan" F) (names.map lot0) [(Str.ofString "r", rows.map (optOf names))]
theorem PL.ask {names : List Str} {rows : List Row} {F : List (Str × D)} (P : PL names rows F) {zs cs : List Int} {kk : D → Prop} {kx : XC} (hz : zs.length = names.length) (h1 : ∀ z ∈ zs, 1 ≤ z) (hc : cntOk zs cs) (h : kk (.bl (dueB rows zs cs))) :
    c_Plan_is_quorum [.ins "Plan" F, .str (Str.ofString "r"), tupI zs, tupI cs] kk kx := by
  have big : (1000 : Nat) ≤ sizeLine := by rw [sizeLine_eq]; decide
  have ha := P.nl
  have hb := P.rl.2
  have ok : D.ok (.str (Str.ofString "r")) = true := by
    have l1 : (Str.ofString "r").length = 1 := by decide +kernel
    show decide ((Str.ofString "r").length + 2 ≤ sizeLine) = true
    rw [l1]
    exact decide_eq_true (by omega)
  have lk : ([(Str.ofString "r", rows.map (optOf names))] : Rl).lookup (Str.ofString "r") = some (rows.map (optOf names)) := by
    rw [List.lookup_cons, show (Str.ofString "r" == Str.ofString "r") = true from beq_self_eq_true _]
  refine ⟨_, _, _, _, rfl, ltOf names, [(Str.ofString "r", rows.map (optOf names))], Str.ofString "r", rows.map (optOf names), zs, cs, by rw [ltOf_eq]; exact P.pl, rfl, ok, lk, rfl, rfl, by unfold ltOf; rw [List.length_map]; omega, by omega, by rw [List.length_map]; omega, fun ws hws => ?_, sizes_ok names zs hz h1, counts_ok zs cs hc, ?_⟩
  · obtain ⟨r, _, rfl⟩ := List.mem_map.mp hws
    unfold optOf fill
    rw [List.length_map]
    omega
  · rw [quor_due P.nd hz (by rw [← hc.1]; exact hz) (cnt_pos hc) P.ro]
    exact h
theorem mv_ok {b : Bool} {zs cs zs' cs' : List Int} (h : Moved b zs cs zs' cs') : (∀ z ∈ zs', 1 ≤ z) ∧ cntOk zs' cs' ∧ zs'.length = zs.length := by
  obtain ⟨⟨a1, a2, a3⟩, hm⟩ := moved_at h
  refine ⟨fun z hz => ?_, ⟨by omega, fun i hi => ?_⟩, a2⟩
  · obtain ⟨i, hi, rfl⟩ := List.mem_iff_getElem.mp hz
    have := (hm i (by omega)).1
    simpa [List.getD, List.getElem?_eq_getElem hi] using this
  · have := hm i (by omega)
    exact ⟨this.2.1, this.2.2.1⟩
theorem zip_ok {zs cs : List Int} (h1 : ∀ z ∈ zs, 1 ≤ z) (hc : cntOk zs cs) : ∀ p ∈ zs.zip cs, 1 ≤ p.1 ∧ 0 ≤ p.2 ∧ p.2 ≤ p.1 := fun p hp => by
  obtain ⟨i, hi, rfl⟩ := List.mem_iff_getElem.mp hp
  have hi1 : i < zs.length := by simp at hi; omega
  have hi2 : i < cs.length := by simp at hi; omega
  have := hc.2 i hi1
  simp only [List.getD, List.getElem?_eq_getElem hi1, List.getElem?_eq_getElem hi2, Option.getD_some] at this
  rw [List.getElem_zip]
  exact ⟨h1 _ (List.getElem_mem hi1), this.1, this.2⟩
def shB (b : Bool) : Str := (PyData.bool b).shown
theorem repr_bl {b : Bool} {k : D → Prop} (h : k (.str (shB b))) : rRepr [.bl b] k := by
  have key : ∀ b : Bool, (PyData.bool b).showable = true ∧ (PyData.bool b).shown.length ≤ 5 ∧ (PyData.bool b).depth ≤ 60 := by decide +kernel
  have big : (1000 : Nat) ≤ sizeLine := by rw [sizeLine_eq]; decide
  exact ⟨_, _, rfl, rfl, (key b).1, by have := (key b).2.1; omega, (key b).2.2, h⟩
theorem moves_loop {names : List Str} {rows : List Row} {F : List (Str × D)} (P : PL names rows F) {zs cs : List Int} (hz : zs.length = names.length) (h1 : ∀ z ∈ zs, 1 ≤ z) (hc : cntOk zs cs) {a1 a2 a3 a4 : D} {s6 s7 s10 s11 : Slot} {M bk ct : Ev → Prop} {rt : D → Ev → Prop} {rf : D → Ev → Prop} : ∀ (ds : List D) (s13 s14 : Slot),
    (∀ s13 s14, M [.purse, .val a1, .val a2, .val a3, .val a4, .val (.ins "Plan" F), s6, s7, .val (tupI zs), .val (lstI cs), s10, s11, .val (.bl (dueB rows zs cs)), s13, s14, .un, .un, .un]) →
    forL (gN 13) (sSeq (sSet (wCallP 0 c__law_moved (wCons (wVar 8) (wCons (wVar 9) (wCons (wVar 12) wNil)))) (gN 14))
    (sIf (wTru (wOp dNe (wB rRepr (wCons (wMeth "Plan" "is_quorum" c_Plan_is_quorum no (wVar 5) (wCons (wC (.str "r")) (wCons (wOp dIx (wVar 14) (wC (.int 0))) (wCons (wOp dIx (wVar 14) (wC (.int 1))) wNil)))) wNil)) (wB rRepr (wCons (wVar 12) wNil)))) (sRet (wC (.bl false))) sNext)) ⟨M, rt, bk, ct, rf⟩ ds
      [.purse, .val a1, .val a2, .val a3, .val a4, .val (.ins "Plan" F), s6, s7, .val (tupI zs), .val (lstI cs), s10, s11, .val (.bl (dueB rows zs cs)), s13, s14, .un, .un, .un]
  | [], s13, s14, hM => hM s13 s14
  | d :: ds, s13, s14, hM => by
    refine forL_gen fun M1 hM1 => ?_
    refine sSeq_gen fun M2 hM2 => ?_
    simp only [sSeq, sRet, sRetF, sRetN, sIf, sNext, sSet, sOwn, sOwnP, sPar, sExpr, sFldI, sBreak, sCont, sDPutD, sParFF, sParEF, sParFE, sParEFF, wIsi, wVar, wC, wOp, wUn, wB, wCons, wNil, wTup, wLst, wDct, wTru, wTruth, wNot, wAndT, wOrT, wAndV, wOrV, wNotV, wIfE, wChain, wCall, wCallP, wCallPF, wMake, wMakeE, wM, wSl, wPart, wNoPart, wMeth, wFldC, wFldS, wProp, wBor, wBorT, wAppend, wPopAt, wExtend, wDGet2, wLstRng, wFmt, wJoined, jCons, jNil, gN, gTupW, gCons', gNil', iL, iT, iS, iR1, iR2, iZp, iEn, dAdd, dSub, dMul, dMod, dFdiv, dPow, dLt, dLe, dGt, dGe, dNeg, dIs, dIsNot, rLenD, rTupOf, rLstOf, rMax2, rMin2, rAbs, rIntOf, rStrOf, rDivmod, startE, Ev.get, Ev.set, Ev.lend, Ev.noSlf, Slot.lend, Slot.noSlf, Slot.isL, Slot.isDK, Slot.isPurse, List.map, List.all, List.length_cons, List.length_nil, List.replicate, List.append, List.cons_append, List.nil_append, Nat.zero_add, Nat.reduceAdd, Nat.reduceSub, Nat.reduceLT, if_true, if_false, Bool.false_eq_true, Bool.not_true, Bool.not_false]
    have nl := P.nl
    refine ⟨trivial, trivial, _, _, _, rfl, zs, cs, _, rfl, rfl, rfl, hc.1, by omega, zip_ok h1 hc, fun zs' cs' mv => hM2 _ ?_⟩
    obtain ⟨m1, m2, m3⟩ := mv_ok mv
    have e0 : atI ([tupI zs', tupI cs'] : List D) 0 = some (tupI zs') := atI_nat (j := 0) rfl
    have e1 : atI ([tupI zs', tupI cs'] : List D) 1 = some (tupI cs') := atI_nat (j := 1) rfl
    simp only [sSeq, sRet, sRetF, sRetN, sIf, sNext, sSet, sOwn, sOwnP, sPar, sExpr, sFldI, sBreak, sCont, sDPutD, sParFF, sParEF, sParFE, sParEFF, wIsi, wVar, wC, wOp, wUn, wB, wCons, wNil, wTup, wLst, wDct, wTru, wTruth, wNot, wAndT, wOrT, wAndV, wOrV, wNotV, wIfE, wChain, wCall, wCallP, wCallPF, wMake, wMakeE, wM, wSl, wPart, wNoPart, wMeth, wFldC, wFldS, wProp, wBor, wBorT, wAppend, wPopAt, wExtend, wDGet2, wLstRng, wFmt, wJoined, jCons, jNil, gN, gTupW, gCons', gNil', iL, iT, iS, iR1, iR2, iZp, iEn, dAdd, dSub, dMul, dMod, dFdiv, dPow, dLt, dLe, dGt, dGe, dNeg, dIs, dIsNot, rLenD, rTupOf, rLstOf, rMax2, rMin2, rAbs, rIntOf, rStrOf, rDivmod, startE, Ev.get, Ev.set, Ev.lend, Ev.noSlf, Slot.lend, Slot.noSlf, Slot.isL, Slot.isDK, Slot.isPurse, List.map, List.all, List.length_cons, List.length_nil, List.replicate, List.append, List.cons_append, List.nil_append, Nat.zero_add, Nat.reduceAdd, Nat.reduceSub, Nat.reduceLT, if_true, if_false, Bool.false_eq_true, Bool.not_true, Bool.not_false, dIx, e0, e1]
    refine ⟨trivial, P.nm, P.ask (by omega) m1 m2 (repr_bl (repr_bl ?_))⟩
    rw [due_moved P.ro hz (cnt_pos hc) mv]
    simp only [dNe_str, decide_true, sSeq, sRet, sRetF, sRetN, sIf, sNext, sSet, sOwn, sOwnP, sPar, sExpr, sFldI, sBreak, sCont, sDPutD, sParFF, sParEF, sParFE, sParEFF, wIsi, wVar, wC, wOp, wUn, wB, wCons, wNil, wTup, wLst, wDct, wTru, wTruth, wNot, wAndT, wOrT, wAndV, wOrV, wNotV, wIfE, wChain, wCall, wCallP, wCallPF, wMake, wMakeE, wM, wSl, wPart, wNoPart, wMeth, wFldC, wFldS, wProp, wBor, wBorT, wAppend, wPopAt, wExtend, wDGet2, wLstRng, wFmt, wJoined, jCons, jNil, gN, gTupW, gCons', gNil', iL, iT, iS, iR1, iR2, iZp, iEn, dAdd, dSub, dMul, dMod, dFdiv, dPow, dLt, dLe, dGt, dGe, dNeg, dIs, dIsNot, rLenD, rTupOf, rLstOf, rMax2, rMin2, rAbs, rIntOf, rStrOf, rDivmod, startE, Ev.get, Ev.set, Ev.lend, Ev.noSlf, Slot.lend, Slot.noSlf, Slot.isL, Slot.isDK, Slot.isPurse, List.map, List.all, List.length_cons, List.length_nil, List.replicate, List.append, List.cons_append, List.nil_append, Nat.zero_add, Nat.reduceAdd, Nat.reduceSub, Nat.reduceLT, if_true, if_false, Bool.false_eq_true, Bool.not_true, Bool.not_false]
    exact hM1 _ (moves_loop P hz h1 hc ds _ _ hM)
theorem cnt_set {zs cs : List Int} (h : cntOk zs cs) {i : Nat} {c : Int} (hi : i < zs.length) (h0 : 0 ≤ c) (h1 : c ≤ zs.getD i 0) : cntOk zs (cs.set i c) := by
  refine ⟨by rw [List.length_set]; exact h.1, fun j hj => ?_⟩
  by_cases q : i = j
  · subst q
    have : (cs.set i c).getD i 0 = c := by simp [List.getD, List.getElem?_set, h.1 ▸ hi]
    rw [this]; exact ⟨h0, h1⟩
  · have : (cs.set i c).getD j 0 = cs.getD j 0 := by simp [List.getD, List.getElem?_set, q]
    rw [this]; exact h.2 j hj
theorem counts_loop {zs : List Int} (h6 : zs.length ≤ 6) (h1 : ∀ z ∈ zs, 1 ≤ z) {a1 a2 a3 a4 a5 a7 : D} {s6 s12 s13 s14 : Slot} {M bk ct : Ev → Prop} {rt : D → Ev → Prop} {rf : D → Ev → Prop} : ∀ (r : Row) (cs : List Int) (s10 s11 : Slot), (∀ p ∈ r, p.1 < zs.length ∧ wOk p.2) → cntOk zs cs →
    (∀ (cs : List Int) (s10 s11 : Slot), cntOk zs cs → M [.purse, .val a1, .val a2, .val a3, .val a4, .val a5, s6, .val a7, .val (tupI zs), .own (lstI cs), s10, s11, s12, s13, s14, .un, .un, .un]) →
    forL (gTupW 2 (gCons' (gN 10) (gCons' (gN 11) gNil'))) (sSet (wB rMin2 (wCons (wOp dIx (wVar 8) (wVar 10)) (wCons (wB rMax2 (wCons (wC (.int 0)) (wCons (wOp dSub (wCall c__law_number no (wCons (wVar 11) (wCons (wOp dIx (wVar 8) (wVar 10)) wNil))) (wCallP 0 c__law_pick (wCons (wLst (wCons (wC (.int 0)) (wCons (wC (.int 0)) (wCons (wC (.int 1)) wNil)))) wNil))) wNil))) wNil))) (gOwnIx 9 (wVar 10))) ⟨M, rt, bk, ct, rf⟩ (r.map itemD)
      [.purse, .val a1, .val a2, .val a3, .val a4, .val a5, s6, .val a7, .val (tupI zs), .own (lstI cs), s10, s11, s12, s13, s14, .un, .un, .un]
  | [], cs, s10, s11, _, hc, hM => hM cs s10 s11 hc
  | p :: r, cs, s10, s11, hp, hc, hM => by
    refine forL_gen fun M1 hM1 => ?_
    obtain ⟨hi, hw⟩ := hp p (List.mem_cons_self ..)
    have six : (6 : Nat) ≤ sizeLine := by have := small5; omega
    have ez : atI (zs.map D.int) (p.1 : Int) = some (.int (zs.getD p.1 0)) := at_getD hi
    have hz1 : 1 ≤ zs.getD p.1 0 := h1 _ (getD_mem hi)
    refine ⟨rfl, rfl, ?_⟩
    simp only [sSeq, sRet, sRetF, sRetN, sIf, sNext, sSet, sOwn, sOwnP, sPar, sExpr, sFldI, sBreak, sCont, sDPutD, sParFF, sParEF, sParFE, sParEFF, wIsi, wVar, wC, wOp, wUn, wB, wCons, wNil, wTup, wLst, wDct, wTru, wTruth, wNot, wAndT, wOrT, wAndV, wOrV, wNotV, wIfE, wChain, wCall, wCallP, wCallPF, wMake, wMakeE, wM, wSl, wPart, wNoPart, wMeth, wFldC, wFldS, wProp, wBor, wBorT, wAppend, wPopAt, wExtend, wDGet2, wLstRng, wFmt, wJoined, jCons, jNil, gN, gTupW, gCons', gNil', iL, iT, iS, iR1, iR2, iZp, iEn, dAdd, dSub, dMul, dMod, dFdiv, dPow, dLt, dLe, dGt, dGe, dNeg, dIs, dIsNot, rLenD, rTupOf, rLstOf, rMax2, rMin2, rAbs, rIntOf, rStrOf, rDivmod, startE, Ev.get, Ev.set, Ev.lend, Ev.noSlf, Slot.lend, Slot.noSlf, Slot.isL, Slot.isDK, Slot.isPurse, List.map, List.all, List.length_cons, List.length_nil, List.replicate, List.append, List.cons_append, List.nil_append, Nat.zero_add, Nat.reduceAdd, Nat.reduceSub, Nat.reduceLT, if_true, if_false, Bool.false_eq_true, Bool.not_true, Bool.not_false, gOwnIx, dIx, tupI, lstI, ez]
    refine ⟨_, _, rfl, p.2, _, rfl, hw, rfl, by omega, trivial, by omega, trivial, _, rfl, _, rfl, by simp, by decide, fun d hd => ?_⟩
    have hd' : d ∈ ([0, 0, 1] : List Int).map D.int := hd
    obtain ⟨n, hn, rfl⟩ := List.mem_map.mp hd'
    rw [List.length_map, ixN_nat (by have := hc.1; omega)]
    simp only [sSeq, sRet, sRetF, sRetN, sIf, sNext, sSet, sOwn, sOwnP, sPar, sExpr, sFldI, sBreak, sCont, sDPutD, sParFF, sParEF, sParFE, sParEFF, wIsi, wVar, wC, wOp, wUn, wB, wCons, wNil, wTup, wLst, wDct, wTru, wTruth, wNot, wAndT, wOrT, wAndV, wOrV, wNotV, wIfE, wChain, wCall, wCallP, wCallPF, wMake, wMakeE, wM, wSl, wPart, wNoPart, wMeth, wFldC, wFldS, wProp, wBor, wBorT, wAppend, wPopAt, wExtend, wDGet2, wLstRng, wFmt, wJoined, jCons, jNil, gN, gTupW, gCons', gNil', iL, iT, iS, iR1, iR2, iZp, iEn, dAdd, dSub, dMul, dMod, dFdiv, dPow, dLt, dLe, dGt, dGe, dNeg, dIs, dIsNot, rLenD, rTupOf, rLstOf, rMax2, rMin2, rAbs, rIntOf, rStrOf, rDivmod, startE, Ev.get, Ev.set, Ev.lend, Ev.noSlf, Slot.lend, Slot.noSlf, Slot.isL, Slot.isDK, Slot.isPurse, List.map, List.all, List.length_cons, List.length_nil, List.replicate, List.append, List.cons_append, List.nil_append, Nat.zero_add, Nat.reduceAdd, Nat.reduceSub, Nat.reduceLT, if_true, if_false, Bool.false_eq_true, Bool.not_true, Bool.not_false]
    have ea : ∀ x : Int, (cs.map D.int).set p.1 (D.int x) = (cs.set p.1 x).map D.int := fun x => by rw [List.map_set]
    rw [ea]
    refine hM1 _ (counts_loop h6 h1 r _ _ _ (fun q hq => hp q (List.mem_cons_of_mem _ hq)) (cnt_set hc hi ?_ ?_) hM)
    · split <;> split <;> omega
    · split <;> split <;> omega
theorem cnt_all2 : ∀ {zs : List Int} {ys : List D}, All2 (fun z y => ∃ c : Int, (0 ≤ c ∧ c ≤ z) ∧ y = .int c) zs ys → ∃ cs : List Int, ys = cs.map D.int ∧ cntOk zs cs
  | [], [], _ => ⟨[], rfl, rfl, fun i h => by simp at h⟩
  | z :: zs, _ :: ys, h => by
    obtain ⟨⟨c, hc, rfl⟩, h2⟩ := h
    obtain ⟨cs, rfl, h3⟩ := cnt_all2 h2
    refine ⟨c :: cs, rfl, by simpa using h3.1, fun i hi => ?_⟩
    cases i with
    | zero => exact hc
    | succ i => exact h3.2 i (by simpa using hi)
  | [], _ :: _, h => h.elim
  | _ :: _, [], h => h.elim
theorem plan_loop {names : List Str} {rows : List Row} {F : List (Str × D)} (P : PL names rows F) {a1 a3 : D} {M bk ct : Ev → Prop} {rt : D → Ev → Prop} {rf : D → Ev → Prop} : ∀ (ds : List D) (s6 s7 s8 s9 s10 s11 s12 s13 s14 : Slot),
    (∀ s6 s7 s8 s9 s10 s11 s12 s13 s14, M [.purse, .val a1, .val (.lst (rows.map rowD)), .val a3, .val (.tup (names.map lot0)), .val (.ins "Plan" F), s6, s7, s8, s9, s10, s11, s12, s13, s14, .un, .un, .un]) →
    forL (gN 6) (sSeq (sSet (wCallP 0 c__law_pick (wCons (wVar 2) wNil)) (gN 7))
    (sSeq (sSet (wCallP 0 c__law_sizes (wCons (wVar 4) (wCons (wVar 7) wNil))) (gN 8))
    (sSeq (sOwn (wLc [17] (iT (wVar 8)) (gN 17) wYes (wCallP 0 c__law_pick (wCons (wLst (wCons (wC (.int 0)) (wCons (wC (.int 0)) (wCons (wVar 17) (wCons (wB rMin2 (wCons (wVar 17) (wCons (wOp dAdd (wC (.int 1)) (wCallP 0 c__law_draw (wCons (wC (.int 9)) wNil))) wNil))) wNil))))) wNil))) 9)
    (sSeq (sFor (iL (wVar 7)) (gTupW 2 (gCons' (gN 10) (gCons' (gN 11) gNil'))) (sSet (wB rMin2 (wCons (wOp dIx (wVar 8) (wVar 10)) (wCons (wB rMax2 (wCons (wC (.int 0)) (wCons (wOp dSub (wCall c__law_number no (wCons (wVar 11) (wCons (wOp dIx (wVar 8) (wVar 10)) wNil))) (wCallP 0 c__law_pick (wCons (wLst (wCons (wC (.int 0)) (wCons (wC (.int 0)) (wCons (wC (.int 1)) wNil)))) wNil))) wNil))) wNil))) (gOwnIx 9 (wVar 10))))
    (sSeq (sSet (wCall c__law_due no (wCons (wVar 2) (wCons (wVar 8) (wCons (wVar 9) wNil)))) (gN 12))
    (sSeq (sIf (wTru (wOp dNe (wB rRepr (wCons (wMeth "Plan" "is_quorum" c_Plan_is_quorum no (wVar 5) (wCons (wC (.str "r")) (wCons (wVar 8) (wCons (wB rTupOf (wCons (wVar 9) wNil)) wNil)))) wNil)) (wB rRepr (wCons (wVar 12) wNil)))) (sRet (wC (.bl false))) sNext)
    (sFor (iR1 (wCons (wC (.int 3)) wNil)) (gN 13) (sSeq (sSet (wCallP 0 c__law_moved (wCons (wVar 8) (wCons (wVar 9) (wCons (wVar 12) wNil)))) (gN 14))
    (sIf (wTru (wOp dNe (wB rRepr (wCons (wMeth "Plan" "is_quorum" c_Plan_is_quorum no (wVar 5) (wCons (wC (.str "r")) (wCons (wOp dIx (wVar 14) (wC (.int 0))) (wCons (wOp dIx (wVar 14) (wC (.int 1))) wNil)))) wNil)) (wB rRepr (wCons (wVar 12) wNil)))) (sRet (wC (.bl false))) sNext))))))))) ⟨M, rt, bk, ct, rf⟩ ds
      [.purse, .val a1, .val (.lst (rows.map rowD)), .val a3, .val (.tup (names.map lot0)), .val (.ins "Plan" F), s6, s7, s8, s9, s10, s11, s12, s13, s14, .un, .un, .un]
  | [], s6, s7, s8, s9, s10, s11, s12, s13, s14, hM => hM s6 s7 s8 s9 s10 s11 s12 s13 s14
  | d :: ds, s6, s7, s8, s9, s10, s11, s12, s13, s14, hM => by
    have six : (6 : Nat) ≤ sizeLine := by have := small5; omega
    have nl := P.nl
    have rl := P.rl
    refine forL_gen fun M1 hM1 => ?_
    refine sSeq_gen fun M2 hM2 => ?_
    have hne : rows.map rowD ≠ [] := fun e => by
      have := congrArg List.length e
      rw [List.length_map] at this
      simp at this
      subst this
      simp at rl
    simp only [sSeq, sRet, sRetF, sRetN, sIf, sNext, sSet, sOwn, sOwnP, sPar, sExpr, sFldI, sBreak, sCont, sDPutD, sParFF, sParEF, sParFE, sParEFF, wIsi, wVar, wC, wOp, wUn, wB, wCons, wNil, wTup, wLst, wDct, wTru, wTruth, wNot, wAndT, wOrT, wAndV, wOrV, wNotV, wIfE, wChain, wCall, wCallP, wCallPF, wMake, wMakeE, wM, wSl, wPart, wNoPart, wMeth, wFldC, wFldS, wProp, wBor, wBorT, wAppend, wPopAt, wExtend, wDGet2, wLstRng, wFmt, wJoined, jCons, jNil, gN, gTupW, gCons', gNil', iL, iT, iS, iR1, iR2, iZp, iEn, dAdd, dSub, dMul, dMod, dFdiv, dPow, dLt, dLe, dGt, dGe, dNeg, dIs, dIsNot, rLenD, rTupOf, rLstOf, rMax2, rMin2, rAbs, rIntOf, rStrOf, rDivmod, startE, Ev.get, Ev.set, Ev.lend, Ev.noSlf, Slot.lend, Slot.noSlf, Slot.isL, Slot.isDK, Slot.isPurse, List.map, List.all, List.length_cons, List.length_nil, List.replicate, List.append, List.cons_append, List.nil_append, Nat.zero_add, Nat.reduceAdd, Nat.reduceSub, Nat.reduceLT, if_true, if_false, Bool.false_eq_true, Bool.not_true, Bool.not_false]
    refine ⟨trivial, trivial, _, rfl, _, rfl, hne, by rw [List.length_map]; omega, fun d hd => hM2 _ (sSeq_gen fun M3 hM3 => ?_)⟩
    obtain ⟨r, hr, rfl⟩ := List.mem_map.mp hd
    have hro := P.ro r hr
    simp only [sSeq, sRet, sRetF, sRetN, sIf, sNext, sSet, sOwn, sOwnP, sPar, sExpr, sFldI, sBreak, sCont, sDPutD, sParFF, sParEF, sParFE, sParEFF, wIsi, wVar, wC, wOp, wUn, wB, wCons, wNil, wTup, wLst, wDct, wTru, wTruth, wNot, wAndT, wOrT, wAndV, wOrV, wNotV, wIfE, wChain, wCall, wCallP, wCallPF, wMake, wMakeE, wM, wSl, wPart, wNoPart, wMeth, wFldC, wFldS, wProp, wBor, wBorT, wAppend, wPopAt, wExtend, wDGet2, wLstRng, wFmt, wJoined, jCons, jNil, gN, gTupW, gCons', gNil', iL, iT, iS, iR1, iR2, iZp, iEn, dAdd, dSub, dMul, dMod, dFdiv, dPow, dLt, dLe, dGt, dGe, dNeg, dIs, dIsNot, rLenD, rTupOf, rLstOf, rMax2, rMin2, rAbs, rIntOf, rStrOf, rDivmod, startE, Ev.get, Ev.set, Ev.lend, Ev.noSlf, Slot.lend, Slot.noSlf, Slot.isL, Slot.isDK, Slot.isPurse, List.map, List.all, List.length_cons, List.length_nil, List.replicate, List.append, List.cons_append, List.nil_append, Nat.zero_add, Nat.reduceAdd, Nat.reduceSub, Nat.reduceLT, if_true, if_false, Bool.false_eq_true, Bool.not_true, Bool.not_false]
    refine ⟨trivial, trivial, _, _, rfl, names, r, rfl, rfl, by omega, hro, fun zs hz h1 => hM3 _ (sSeq_gen fun M4 hM4 => ?_)⟩
    simp only [sSeq, sRet, sRetF, sRetN, sIf, sNext, sSet, sOwn, sOwnP, sPar, sExpr, sFldI, sBreak, sCont, sDPutD, sParFF, sParEF, sParFE, sParEFF, wIsi, wVar, wC, wOp, wUn, wB, wCons, wNil, wTup, wLst, wDct, wTru, wTruth, wNot, wAndT, wOrT, wAndV, wOrV, wNotV, wIfE, wChain, wCall, wCallP, wCallPF, wMake, wMakeE, wM, wSl, wPart, wNoPart, wMeth, wFldC, wFldS, wProp, wBor, wBorT, wAppend, wPopAt, wExtend, wDGet2, wLstRng, wFmt, wJoined, jCons, jNil, gN, gTupW, gCons', gNil', iL, iT, iS, iR1, iR2, iZp, iEn, dAdd, dSub, dMul, dMod, dFdiv, dPow, dLt, dLe, dGt, dGe, dNeg, dIs, dIsNot, rLenD, rTupOf, rLstOf, rMax2, rMin2, rAbs, rIntOf, rStrOf, rDivmod, startE, Ev.get, Ev.set, Ev.lend, Ev.noSlf, Slot.lend, Slot.noSlf, Slot.isL, Slot.isDK, Slot.isPurse, List.map, List.all, List.length_cons, List.length_nil, List.replicate, List.append, List.cons_append, List.nil_append, Nat.zero_add, Nat.reduceAdd, Nat.reduceSub, Nat.reduceLT, if_true, if_false, Bool.false_eq_true, Bool.not_true, Bool.not_false, tupI]
    refine ⟨by decide, wLc_i ?_⟩
    simp only [sSeq, sRet, sRetF, sRetN, sIf, sNext, sSet, sOwn, sOwnP, sPar, sExpr, sFldI, sBreak, sCont, sDPutD, sParFF, sParEF, sParFE, sParEFF, wIsi, wVar, wC, wOp, wUn, wB, wCons, wNil, wTup, wLst, wDct, wTru, wTruth, wNot, wAndT, wOrT, wAndV, wOrV, wNotV, wIfE, wChain, wCall, wCallP, wCallPF, wMake, wMakeE, wM, wSl, wPart, wNoPart, wMeth, wFldC, wFldS, wProp, wBor, wBorT, wAppend, wPopAt, wExtend, wDGet2, wLstRng, wFmt, wJoined, jCons, jNil, gN, gTupW, gCons', gNil', iL, iT, iS, iR1, iR2, iZp, iEn, dAdd, dSub, dMul, dMod, dFdiv, dPow, dLt, dLe, dGt, dGe, dNeg, dIs, dIsNot, rLenD, rTupOf, rLstOf, rMax2, rMin2, rAbs, rIntOf, rStrOf, rDivmod, startE, Ev.get, Ev.set, Ev.lend, Ev.noSlf, Slot.lend, Slot.noSlf, Slot.isL, Slot.isDK, Slot.isPurse, List.map, List.all, List.length_cons, List.length_nil, List.replicate, List.append, List.cons_append, List.nil_append, Nat.zero_add, Nat.reduceAdd, Nat.reduceSub, Nat.reduceLT, if_true, if_false, Bool.false_eq_true, Bool.not_true, Bool.not_false]
    refine ⟨by rw [List.length_map]; omega, ?_⟩
    simp only [Ev.wipe, sSeq, sRet, sRetF, sRetN, sIf, sNext, sSet, sOwn, sOwnP, sPar, sExpr, sFldI, sBreak, sCont, sDPutD, sParFF, sParEF, sParFE, sParEFF, wIsi, wVar, wC, wOp, wUn, wB, wCons, wNil, wTup, wLst, wDct, wTru, wTruth, wNot, wAndT, wOrT, wAndV, wOrV, wNotV, wIfE, wChain, wCall, wCallP, wCallPF, wMake, wMakeE, wM, wSl, wPart, wNoPart, wMeth, wFldC, wFldS, wProp, wBor, wBorT, wAppend, wPopAt, wExtend, wDGet2, wLstRng, wFmt, wJoined, jCons, jNil, gN, gTupW, gCons', gNil', iL, iT, iS, iR1, iR2, iZp, iEn, dAdd, dSub, dMul, dMod, dFdiv, dPow, dLt, dLe, dGt, dGe, dNeg, dIs, dIsNot, rLenD, rTupOf, rLstOf, rMax2, rMin2, rAbs, rIntOf, rStrOf, rDivmod, startE, Ev.get, Ev.set, Ev.lend, Ev.noSlf, Slot.lend, Slot.noSlf, Slot.isL, Slot.isDK, Slot.isPurse, List.map, List.all, List.length_cons, List.length_nil, List.replicate, List.append, List.cons_append, List.nil_append, Nat.zero_add, Nat.reduceAdd, Nat.reduceSub, Nat.reduceLT, if_true, if_false, Bool.false_eq_true, Bool.not_true, Bool.not_false]
    refine lcA (R := fun z y => ∃ c : Int, (0 ≤ c ∧ c ≤ z) ∧ y = .int c) (fun ρ => ρ = [.purse, .val a1, .val (.lst (rows.map rowD)), .val a3, .val (.tup (names.map lot0)), .val (.ins "Plan" F), .val d, .val (rowD r), .val (.tup (zs.map D.int)), s9, s10, s11, s12, s13, s14, .un, .un, .un]) zs _ _ rfl (fun z hz2 ρ hρ kk2 q => ?_) fun ys ρ' hρ hys => ?_
    · subst hρ
      have hz1 := h1 z hz2
      simp only [sSeq, sRet, sRetF, sRetN, sIf, sNext, sSet, sOwn, sOwnP, sPar, sExpr, sFldI, sBreak, sCont, sDPutD, sParFF, sParEF, sParFE, sParEFF, wIsi, wVar, wC, wOp, wUn, wB, wCons, wNil, wTup, wLst, wDct, wTru, wTruth, wNot, wAndT, wOrT, wAndV, wOrV, wNotV, wIfE, wChain, wCall, wCallP, wCallPF, wMake, wMakeE, wM, wSl, wPart, wNoPart, wMeth, wFldC, wFldS, wProp, wBor, wBorT, wAppend, wPopAt, wExtend, wDGet2, wLstRng, wFmt, wJoined, jCons, jNil, gN, gTupW, gCons', gNil', iL, iT, iS, iR1, iR2, iZp, iEn, dAdd, dSub, dMul, dMod, dFdiv, dPow, dLt, dLe, dGt, dGe, dNeg, dIs, dIsNot, rLenD, rTupOf, rLstOf, rMax2, rMin2, rAbs, rIntOf, rStrOf, rDivmod, startE, Ev.get, Ev.set, Ev.lend, Ev.noSlf, Slot.lend, Slot.noSlf, Slot.isL, Slot.isDK, Slot.isPurse, List.map, List.all, List.length_cons, List.length_nil, List.replicate, List.append, List.cons_append, List.nil_append, Nat.zero_add, Nat.reduceAdd, Nat.reduceSub, Nat.reduceLT, if_true, if_false, Bool.false_eq_true, Bool.not_true, Bool.not_false]
      refine ⟨trivial, trivial, trivial, _, rfl, 9, rfl, by decide, by decide, fun t t0 t1 => ?_⟩
      simp only [sSeq, sRet, sRetF, sRetN, sIf, sNext, sSet, sOwn, sOwnP, sPar, sExpr, sFldI, sBreak, sCont, sDPutD, sParFF, sParEF, sParFE, sParEFF, wIsi, wVar, wC, wOp, wUn, wB, wCons, wNil, wTup, wLst, wDct, wTru, wTruth, wNot, wAndT, wOrT, wAndV, wOrV, wNotV, wIfE, wChain, wCall, wCallP, wCallPF, wMake, wMakeE, wM, wSl, wPart, wNoPart, wMeth, wFldC, wFldS, wProp, wBor, wBorT, wAppend, wPopAt, wExtend, wDGet2, wLstRng, wFmt, wJoined, jCons, jNil, gN, gTupW, gCons', gNil', iL, iT, iS, iR1, iR2, iZp, iEn, dAdd, dSub, dMul, dMod, dFdiv, dPow, dLt, dLe, dGt, dGe, dNeg, dIs, dIsNot, rLenD, rTupOf, rLstOf, rMax2, rMin2, rAbs, rIntOf, rStrOf, rDivmod, startE, Ev.get, Ev.set, Ev.lend, Ev.noSlf, Slot.lend, Slot.noSlf, Slot.isL, Slot.isDK, Slot.isPurse, List.map, List.all, List.length_cons, List.length_nil, List.replicate, List.append, List.cons_append, List.nil_append, Nat.zero_add, Nat.reduceAdd, Nat.reduceSub, Nat.reduceLT, if_true, if_false, Bool.false_eq_true, Bool.not_true, Bool.not_false]
      refine ⟨by omega, trivial, _, rfl, _, rfl, by simp, by show (4 : Nat) < 1073741824; decide, fun y hy => ?_⟩
      have hy' : y ∈ ([0, 0, z, (if 1 + t < z then 1 + t else z)] : List Int).map D.int := hy
      obtain ⟨c, hc, rfl⟩ := List.mem_map.mp hy'
      refine q _ _ ⟨c, ?_, rfl⟩ rfl
      simp only [List.mem_cons, List.not_mem_nil, or_false] at hc
      rcases hc with rfl | rfl | rfl | rfl
      · omega
      · omega
      · omega
      · split <;> omega
    · subst hρ
      obtain ⟨cs, rfl, hc⟩ := cnt_all2 hys
      refine hM4 _ (sSeq_gen fun M5 hM5 => ?_)
      simp only [sFor, sSeq, sRet, sRetF, sRetN, sIf, sNext, sSet, sOwn, sOwnP, sPar, sExpr, sFldI, sBreak, sCont, sDPutD, sParFF, sParEF, sParFE, sParEFF, wIsi, wVar, wC, wOp, wUn, wB, wCons, wNil, wTup, wLst, wDct, wTru, wTruth, wNot, wAndT, wOrT, wAndV, wOrV, wNotV, wIfE, wChain, wCall, wCallP, wCallPF, wMake, wMakeE, wM, wSl, wPart, wNoPart, wMeth, wFldC, wFldS, wProp, wBor, wBorT, wAppend, wPopAt, wExtend, wDGet2, wLstRng, wFmt, wJoined, jCons, jNil, gN, gTupW, gCons', gNil', iL, iT, iS, iR1, iR2, iZp, iEn, dAdd, dSub, dMul, dMod, dFdiv, dPow, dLt, dLe, dGt, dGe, dNeg, dIs, dIsNot, rLenD, rTupOf, rLstOf, rMax2, rMin2, rAbs, rIntOf, rStrOf, rDivmod, startE, Ev.get, Ev.set, Ev.lend, Ev.noSlf, Slot.lend, Slot.noSlf, Slot.isL, Slot.isDK, Slot.isPurse, List.map, List.all, List.length_cons, List.length_nil, List.replicate, List.append, List.cons_append, List.nil_append, Nat.zero_add, Nat.reduceAdd, Nat.reduceSub, Nat.reduceLT, if_true, if_false, Bool.false_eq_true, Bool.not_true, Bool.not_false, rowD]
      refine counts_loop (by omega) h1 r cs s10 s11 (fun p hp => ⟨by have := (hro.2.2.1 p hp).1; omega, (hro.2.2.1 p hp).2⟩) hc fun cs s10 s11 hc => hM5 _ (sSeq_gen fun M6 hM6 => ?_)
      simp only [sSeq, sRet, sRetF, sRetN, sIf, sNext, sSet, sOwn, sOwnP, sPar, sExpr, sFldI, sBreak, sCont, sDPutD, sParFF, sParEF, sParFE, sParEFF, wIsi, wVar, wC, wOp, wUn, wB, wCons, wNil, wTup, wLst, wDct, wTru, wTruth, wNot, wAndT, wOrT, wAndV, wOrV, wNotV, wIfE, wChain, wCall, wCallP, wCallPF, wMake, wMakeE, wM, wSl, wPart, wNoPart, wMeth, wFldC, wFldS, wProp, wBor, wBorT, wAppend, wPopAt, wExtend, wDGet2, wLstRng, wFmt, wJoined, jCons, jNil, gN, gTupW, gCons', gNil', iL, iT, iS, iR1, iR2, iZp, iEn, dAdd, dSub, dMul, dMod, dFdiv, dPow, dLt, dLe, dGt, dGe, dNeg, dIs, dIsNot, rLenD, rTupOf, rLstOf, rMax2, rMin2, rAbs, rIntOf, rStrOf, rDivmod, startE, Ev.get, Ev.set, Ev.lend, Ev.noSlf, Slot.lend, Slot.noSlf, Slot.isL, Slot.isDK, Slot.isPurse, List.map, List.all, List.length_cons, List.length_nil, List.replicate, List.append, List.cons_append, List.nil_append, Nat.zero_add, Nat.reduceAdd, Nat.reduceSub, Nat.reduceLT, if_true, if_false, Bool.false_eq_true, Bool.not_true, Bool.not_false]
      refine ⟨_, _, _, rfl, rows, zs, cs, rfl, rfl, rfl, hc.1, by omega, fun x hx => by rw [hz]; exact P.ro x hx, fun z hz => by have := h1 z hz; omega, hM6 _ (sSeq_gen fun M7 hM7 => ?_)⟩
      simp only [sSeq, sRet, sRetF, sRetN, sIf, sNext, sSet, sOwn, sOwnP, sPar, sExpr, sFldI, sBreak, sCont, sDPutD, sParFF, sParEF, sParFE, sParEFF, wIsi, wVar, wC, wOp, wUn, wB, wCons, wNil, wTup, wLst, wDct, wTru, wTruth, wNot, wAndT, wOrT, wAndV, wOrV, wNotV, wIfE, wChain, wCall, wCallP, wCallPF, wMake, wMakeE, wM, wSl, wPart, wNoPart, wMeth, wFldC, wFldS, wProp, wBor, wBorT, wAppend, wPopAt, wExtend, wDGet2, wLstRng, wFmt, wJoined, jCons, jNil, gN, gTupW, gCons', gNil', iL, iT, iS, iR1, iR2, iZp, iEn, dAdd, dSub, dMul, dMod, dFdiv, dPow, dLt, dLe, dGt, dGe, dNeg, dIs, dIsNot, rLenD, rTupOf, rLstOf, rMax2, rMin2, rAbs, rIntOf, rStrOf, rDivmod, startE, Ev.get, Ev.set, Ev.lend, Ev.noSlf, Slot.lend, Slot.noSlf, Slot.isL, Slot.isDK, Slot.isPurse, List.map, List.all, List.length_cons, List.length_nil, List.replicate, List.append, List.cons_append, List.nil_append, Nat.zero_add, Nat.reduceAdd, Nat.reduceSub, Nat.reduceLT, if_true, if_false, Bool.false_eq_true, Bool.not_true, Bool.not_false, lstI]
      refine ⟨trivial, P.nm, P.ask hz h1 hc (repr_bl (repr_bl ?_))⟩
      simp only [dNe_str, decide_true, sSeq, sRet, sRetF, sRetN, sIf, sNext, sSet, sOwn, sOwnP, sPar, sExpr, sFldI, sBreak, sCont, sDPutD, sParFF, sParEF, sParFE, sParEFF, wIsi, wVar, wC, wOp, wUn, wB, wCons, wNil, wTup, wLst, wDct, wTru, wTruth, wNot, wAndT, wOrT, wAndV, wOrV, wNotV, wIfE, wChain, wCall, wCallP, wCallPF, wMake, wMakeE, wM, wSl, wPart, wNoPart, wMeth, wFldC, wFldS, wProp, wBor, wBorT, wAppend, wPopAt, wExtend, wDGet2, wLstRng, wFmt, wJoined, jCons, jNil, gN, gTupW, gCons', gNil', iL, iT, iS, iR1, iR2, iZp, iEn, dAdd, dSub, dMul, dMod, dFdiv, dPow, dLt, dLe, dGt, dGe, dNeg, dIs, dIsNot, rLenD, rTupOf, rLstOf, rMax2, rMin2, rAbs, rIntOf, rStrOf, rDivmod, startE, Ev.get, Ev.set, Ev.lend, Ev.noSlf, Slot.lend, Slot.noSlf, Slot.isL, Slot.isDK, Slot.isPurse, List.map, List.all, List.length_cons, List.length_nil, List.replicate, List.append, List.cons_append, List.nil_append, Nat.zero_add, Nat.reduceAdd, Nat.reduceSub, Nat.reduceLT, if_true, if_false, Bool.false_eq_true, Bool.not_true, Bool.not_false]
      refine hM7 _ ?_
      simp only [sFor, sSeq, sRet, sRetF, sRetN, sIf, sNext, sSet, sOwn, sOwnP, sPar, sExpr, sFldI, sBreak, sCont, sDPutD, sParFF, sParEF, sParFE, sParEFF, wIsi, wVar, wC, wOp, wUn, wB, wCons, wNil, wTup, wLst, wDct, wTru, wTruth, wNot, wAndT, wOrT, wAndV, wOrV, wNotV, wIfE, wChain, wCall, wCallP, wCallPF, wMake, wMakeE, wM, wSl, wPart, wNoPart, wMeth, wFldC, wFldS, wProp, wBor, wBorT, wAppend, wPopAt, wExtend, wDGet2, wLstRng, wFmt, wJoined, jCons, jNil, gN, gTupW, gCons', gNil', iL, iT, iS, iR1, iR2, iZp, iEn, dAdd, dSub, dMul, dMod, dFdiv, dPow, dLt, dLe, dGt, dGe, dNeg, dIs, dIsNot, rLenD, rTupOf, rLstOf, rMax2, rMin2, rAbs, rIntOf, rStrOf, rDivmod, startE, Ev.get, Ev.set, Ev.lend, Ev.noSlf, Slot.lend, Slot.noSlf, Slot.isL, Slot.isDK, Slot.isPurse, List.map, List.all, List.length_cons, List.length_nil, List.replicate, List.append, List.cons_append, List.nil_append, Nat.zero_add, Nat.reduceAdd, Nat.reduceSub, Nat.reduceLT, if_true, if_false, Bool.false_eq_true, Bool.not_true, Bool.not_false]
      refine ⟨⟨by omega, by omega⟩, ?_⟩
      exact moves_loop P hz h1 hc _ _ _ fun s13 s14 => hM1 _ (plan_loop P ds _ _ _ _ _ _ _ _ _ hM)
theorem p__law_right (ds : List D) (kk : D → Prop) (h : c__law_right ds kk no) : w__law_right { nx := fun ρ => ρ.get 0 = .purse ∧ kk .non, rt := fun d ρ => ρ.get 0 = .purse ∧ kk d } (.purse :: startE 17 ds) := by
  obtain ⟨rfl, h⟩ := h
  have six : (6 : Nat) ≤ sizeLine := by have := small5; omega
  have big : (1000 : Nat) ≤ sizeLine := by rw [sizeLine_eq]; decide
  unfold w__law_right
  refine sSeq_gen fun M1 hM1 => ?_
  simp only [sSeq, sRet, sRetF, sRetN, sIf, sNext, sSet, sOwn, sOwnP, sPar, sExpr, sFldI, sBreak, sCont, sDPutD, sParFF, sParEF, sParFE, sParEFF, wIsi, wVar, wC, wOp, wUn, wB, wCons, wNil, wTup, wLst, wDct, wTru, wTruth, wNot, wAndT, wOrT, wAndV, wOrV, wNotV, wIfE, wChain, wCall, wCallP, wCallPF, wMake, wMakeE, wM, wSl, wPart, wNoPart, wMeth, wFldC, wFldS, wProp, wBor, wBorT, wAppend, wPopAt, wExtend, wDGet2, wLstRng, wFmt, wJoined, jCons, jNil, gN, gTupW, gCons', gNil', iL, iT, iS, iR1, iR2, iZp, iEn, dAdd, dSub, dMul, dMod, dFdiv, dPow, dLt, dLe, dGt, dGe, dNeg, dIs, dIsNot, rLenD, rTupOf, rLstOf, rMax2, rMin2, rAbs, rIntOf, rStrOf, rDivmod, startE, Ev.get, Ev.set, Ev.lend, Ev.noSlf, Slot.lend, Slot.noSlf, Slot.isL, Slot.isDK, Slot.isPurse, List.map, List.all, List.length_cons, List.length_nil, List.replicate, List.append, List.cons_append, List.nil_append, Nat.zero_add, Nat.reduceAdd, Nat.reduceSub, Nat.reduceLT, if_true, if_false, Bool.false_eq_true, Bool.not_true, Bool.not_false]
  refine ⟨trivial, trivial, trivial, _, rfl, 5, rfl, by decide, by decide, fun t t0 t1 => ⟨trivial, _, rfl, (1 + t).toNat, by rw [Int.toNat_of_nonneg (by omega)], by omega, fun names nl nb nd => hM1 _ (sSeq_gen fun M2 hM2 => ?_)⟩⟩
  simp only [sSeq, sRet, sRetF, sRetN, sIf, sNext, sSet, sOwn, sOwnP, sPar, sExpr, sFldI, sBreak, sCont, sDPutD, sParFF, sParEF, sParFE, sParEFF, wIsi, wVar, wC, wOp, wUn, wB, wCons, wNil, wTup, wLst, wDct, wTru, wTruth, wNot, wAndT, wOrT, wAndV, wOrV, wNotV, wIfE, wChain, wCall, wCallP, wCallPF, wMake, wMakeE, wM, wSl, wPart, wNoPart, wMeth, wFldC, wFldS, wProp, wBor, wBorT, wAppend, wPopAt, wExtend, wDGet2, wLstRng, wFmt, wJoined, jCons, jNil, gN, gTupW, gCons', gNil', iL, iT, iS, iR1, iR2, iZp, iEn, dAdd, dSub, dMul, dMod, dFdiv, dPow, dLt, dLe, dGt, dGe, dNeg, dIs, dIsNot, rLenD, rTupOf, rLstOf, rMax2, rMin2, rAbs, rIntOf, rStrOf, rDivmod, startE, Ev.get, Ev.set, Ev.lend, Ev.noSlf, Slot.lend, Slot.noSlf, Slot.isL, Slot.isDK, Slot.isPurse, List.map, List.all, List.length_cons, List.length_nil, List.replicate, List.append, List.cons_append, List.nil_append, Nat.zero_add, Nat.reduceAdd, Nat.reduceSub, Nat.reduceLT, if_true, if_false, Bool.false_eq_true, Bool.not_true, Bool.not_false]
  refine wLc_i ?_
  simp only [sSeq, sRet, sRetF, sRetN, sIf, sNext, sSet, sOwn, sOwnP, sPar, sExpr, sFldI, sBreak, sCont, sDPutD, sParFF, sParEF, sParFE, sParEFF, wIsi, wVar, wC, wOp, wUn, wB, wCons, wNil, wTup, wLst, wDct, wTru, wTruth, wNot, wAndT, wOrT, wAndV, wOrV, wNotV, wIfE, wChain, wCall, wCallP, wCallPF, wMake, wMakeE, wM, wSl, wPart, wNoPart, wMeth, wFldC, wFldS, wProp, wBor, wBorT, wAppend, wPopAt, wExtend, wDGet2, wLstRng, wFmt, wJoined, jCons, jNil, gN, gTupW, gCons', gNil', iL, iT, iS, iR1, iR2, iZp, iEn, dAdd, dSub, dMul, dMod, dFdiv, dPow, dLt, dLe, dGt, dGe, dNeg, dIs, dIsNot, rLenD, rTupOf, rLstOf, rMax2, rMin2, rAbs, rIntOf, rStrOf, rDivmod, startE, Ev.get, Ev.set, Ev.lend, Ev.noSlf, Slot.lend, Slot.noSlf, Slot.isL, Slot.isDK, Slot.isPurse, List.map, List.all, List.length_cons, List.length_nil, List.replicate, List.append, List.cons_append, List.nil_append, Nat.zero_add, Nat.reduceAdd, Nat.reduceSub, Nat.reduceLT, if_true, if_false, Bool.false_eq_true, Bool.not_true, Bool.not_false]
  refine ⟨trivial, trivial, _, rfl, 6, rfl, by decide, by decide, fun u u0 u1 => ?_⟩
  simp only [sSeq, sRet, sRetF, sRetN, sIf, sNext, sSet, sOwn, sOwnP, sPar, sExpr, sFldI, sBreak, sCont, sDPutD, sParFF, sParEF, sParFE, sParEFF, wIsi, wVar, wC, wOp, wUn, wB, wCons, wNil, wTup, wLst, wDct, wTru, wTruth, wNot, wAndT, wOrT, wAndV, wOrV, wNotV, wIfE, wChain, wCall, wCallP, wCallPF, wMake, wMakeE, wM, wSl, wPart, wNoPart, wMeth, wFldC, wFldS, wProp, wBor, wBorT, wAppend, wPopAt, wExtend, wDGet2, wLstRng, wFmt, wJoined, jCons, jNil, gN, gTupW, gCons', gNil', iL, iT, iS, iR1, iR2, iZp, iEn, dAdd, dSub, dMul, dMod, dFdiv, dPow, dLt, dLe, dGt, dGe, dNeg, dIs, dIsNot, rLenD, rTupOf, rLstOf, rMax2, rMin2, rAbs, rIntOf, rStrOf, rDivmod, startE, Ev.get, Ev.set, Ev.lend, Ev.noSlf, Slot.lend, Slot.noSlf, Slot.isL, Slot.isDK, Slot.isPurse, List.map, List.all, List.length_cons, List.length_nil, List.replicate, List.append, List.cons_append, List.nil_append, Nat.zero_add, Nat.reduceAdd, Nat.reduceSub, Nat.reduceLT, if_true, if_false, Bool.false_eq_true, Bool.not_true, Bool.not_false]
  have lr : (seqI 0 (1 + u).toNat).length = (1 + u).toNat := by unfold seqI; simp
  refine ⟨⟨by omega, by omega⟩, by rw [lr]; omega, ?_⟩
  simp only [Ev.wipe, sSeq, sRet, sRetF, sRetN, sIf, sNext, sSet, sOwn, sOwnP, sPar, sExpr, sFldI, sBreak, sCont, sDPutD, sParFF, sParEF, sParFE, sParEFF, wIsi, wVar, wC, wOp, wUn, wB, wCons, wNil, wTup, wLst, wDct, wTru, wTruth, wNot, wAndT, wOrT, wAndV, wOrV, wNotV, wIfE, wChain, wCall, wCallP, wCallPF, wMake, wMakeE, wM, wSl, wPart, wNoPart, wMeth, wFldC, wFldS, wProp, wBor, wBorT, wAppend, wPopAt, wExtend, wDGet2, wLstRng, wFmt, wJoined, jCons, jNil, gN, gTupW, gCons', gNil', iL, iT, iS, iR1, iR2, iZp, iEn, dAdd, dSub, dMul, dMod, dFdiv, dPow, dLt, dLe, dGt, dGe, dNeg, dIs, dIsNot, rLenD, rTupOf, rLstOf, rMax2, rMin2, rAbs, rIntOf, rStrOf, rDivmod, startE, Ev.get, Ev.set, Ev.lend, Ev.noSlf, Slot.lend, Slot.noSlf, Slot.isL, Slot.isDK, Slot.isPurse, List.map, List.all, List.length_cons, List.length_nil, List.replicate, List.append, List.cons_append, List.nil_append, Nat.zero_add, Nat.reduceAdd, Nat.reduceSub, Nat.reduceLT, if_true, if_false, Bool.false_eq_true, Bool.not_true, Bool.not_false]
  refine lcI (R := fun _ y => ∃ r, rowOk names.length r ∧ y = rowD r) (fun ρ => ρ = [.purse, .val (namesD names), .un, .un, .un, .un, .un, .un, .un, .un, .un, .un, .un, .un, .un, .un, .un, .un]) _ _ _ rfl (fun d hd ρ hρ kk2 q => ?_) fun ys ρ' hρ hys => ?_
  · subst hρ
    simp only [sSeq, sRet, sRetF, sRetN, sIf, sNext, sSet, sOwn, sOwnP, sPar, sExpr, sFldI, sBreak, sCont, sDPutD, sParFF, sParEF, sParFE, sParEFF, wIsi, wVar, wC, wOp, wUn, wB, wCons, wNil, wTup, wLst, wDct, wTru, wTruth, wNot, wAndT, wOrT, wAndV, wOrV, wNotV, wIfE, wChain, wCall, wCallP, wCallPF, wMake, wMakeE, wM, wSl, wPart, wNoPart, wMeth, wFldC, wFldS, wProp, wBor, wBorT, wAppend, wPopAt, wExtend, wDGet2, wLstRng, wFmt, wJoined, jCons, jNil, gN, gTupW, gCons', gNil', iL, iT, iS, iR1, iR2, iZp, iEn, dAdd, dSub, dMul, dMod, dFdiv, dPow, dLt, dLe, dGt, dGe, dNeg, dIs, dIsNot, rLenD, rTupOf, rLstOf, rMax2, rMin2, rAbs, rIntOf, rStrOf, rDivmod, startE, Ev.get, Ev.set, Ev.lend, Ev.noSlf, Slot.lend, Slot.noSlf, Slot.isL, Slot.isDK, Slot.isPurse, List.map, List.all, List.length_cons, List.length_nil, List.replicate, List.append, List.cons_append, List.nil_append, Nat.zero_add, Nat.reduceAdd, Nat.reduceSub, Nat.reduceLT, if_true, if_false, Bool.false_eq_true, Bool.not_true, Bool.not_false, namesD]
    refine ⟨trivial, trivial, _, _, rfl, names.length, 2, by rw [List.length_map], rfl, by omega, by omega, by decide, by decide, fun r hr => q _ _ ⟨r, hr, rfl⟩ rfl⟩
  · subst hρ
    obtain ⟨rows, rfl, el, hr⟩ := all2_ex hys
    rw [lr] at el
    refine hM2 _ (sSeq_gen fun M3 hM3 => ?_)
    simp only [sSeq, sRet, sRetF, sRetN, sIf, sNext, sSet, sOwn, sOwnP, sPar, sExpr, sFldI, sBreak, sCont, sDPutD, sParFF, sParEF, sParFE, sParEFF, wIsi, wVar, wC, wOp, wUn, wB, wCons, wNil, wTup, wLst, wDct, wTru, wTruth, wNot, wAndT, wOrT, wAndV, wOrV, wNotV, wIfE, wChain, wCall, wCallP, wCallPF, wMake, wMakeE, wM, wSl, wPart, wNoPart, wMeth, wFldC, wFldS, wProp, wBor, wBorT, wAppend, wPopAt, wExtend, wDGet2, wLstRng, wFmt, wJoined, jCons, jNil, gN, gTupW, gCons', gNil', iL, iT, iS, iR1, iR2, iZp, iEn, dAdd, dSub, dMul, dMod, dFdiv, dPow, dLt, dLe, dGt, dGe, dNeg, dIs, dIsNot, rLenD, rTupOf, rLstOf, rMax2, rMin2, rAbs, rIntOf, rStrOf, rDivmod, startE, Ev.get, Ev.set, Ev.lend, Ev.noSlf, Slot.lend, Slot.noSlf, Slot.isL, Slot.isDK, Slot.isPurse, List.map, List.all, List.length_cons, List.length_nil, List.replicate, List.append, List.cons_append, List.nil_append, Nat.zero_add, Nat.reduceAdd, Nat.reduceSub, Nat.reduceLT, if_true, if_false, Bool.false_eq_true, Bool.not_true, Bool.not_false, namesD]
    refine wLc_i ?_
    simp only [sSeq, sRet, sRetF, sRetN, sIf, sNext, sSet, sOwn, sOwnP, sPar, sExpr, sFldI, sBreak, sCont, sDPutD, sParFF, sParEF, sParFE, sParEFF, wIsi, wVar, wC, wOp, wUn, wB, wCons, wNil, wTup, wLst, wDct, wTru, wTruth, wNot, wAndT, wOrT, wAndV, wOrV, wNotV, wIfE, wChain, wCall, wCallP, wCallPF, wMake, wMakeE, wM, wSl, wPart, wNoPart, wMeth, wFldC, wFldS, wProp, wBor, wBorT, wAppend, wPopAt, wExtend, wDGet2, wLstRng, wFmt, wJoined, jCons, jNil, gN, gTupW, gCons', gNil', iL, iT, iS, iR1, iR2, iZp, iEn, dAdd, dSub, dMul, dMod, dFdiv, dPow, dLt, dLe, dGt, dGe, dNeg, dIs, dIsNot, rLenD, rTupOf, rLstOf, rMax2, rMin2, rAbs, rIntOf, rStrOf, rDivmod, startE, Ev.get, Ev.set, Ev.lend, Ev.noSlf, Slot.lend, Slot.noSlf, Slot.isL, Slot.isDK, Slot.isPurse, List.map, List.all, List.length_cons, List.length_nil, List.replicate, List.append, List.cons_append, List.nil_append, Nat.zero_add, Nat.reduceAdd, Nat.reduceSub, Nat.reduceLT, if_true, if_false, Bool.false_eq_true, Bool.not_true, Bool.not_false]
    refine ⟨by rw [List.length_map]; omega, ?_⟩
    simp only [Ev.wipe, sSeq, sRet, sRetF, sRetN, sIf, sNext, sSet, sOwn, sOwnP, sPar, sExpr, sFldI, sBreak, sCont, sDPutD, sParFF, sParEF, sParFE, sParEFF, wIsi, wVar, wC, wOp, wUn, wB, wCons, wNil, wTup, wLst, wDct, wTru, wTruth, wNot, wAndT, wOrT, wAndV, wOrV, wNotV, wIfE, wChain, wCall, wCallP, wCallPF, wMake, wMakeE, wM, wSl, wPart, wNoPart, wMeth, wFldC, wFldS, wProp, wBor, wBorT, wAppend, wPopAt, wExtend, wDGet2, wLstRng, wFmt, wJoined, jCons, jNil, gN, gTupW, gCons', gNil', iL, iT, iS, iR1, iR2, iZp, iEn, dAdd, dSub, dMul, dMod, dFdiv, dPow, dLt, dLe, dGt, dGe, dNeg, dIs, dIsNot, rLenD, rTupOf, rLstOf, rMax2, rMin2, rAbs, rIntOf, rStrOf, rDivmod, startE, Ev.get, Ev.set, Ev.lend, Ev.noSlf, Slot.lend, Slot.noSlf, Slot.isL, Slot.isDK, Slot.isPurse, List.map, List.all, List.length_cons, List.length_nil, List.replicate, List.append, List.cons_append, List.nil_append, Nat.zero_add, Nat.reduceAdd, Nat.reduceSub, Nat.reduceLT, if_true, if_false, Bool.false_eq_true, Bool.not_true, Bool.not_false]
    refine lcA (R := fun r y => y = .str (txtOf names r)) (fun ρ => ρ = [.purse, .val (.lst (names.map D.str)), .val (.lst (rows.map rowD)), .un, .un, .un, .un, .un, .un, .un, .un, .un, .un, .un, .un, .un, .un, .un]) _ _ _ rfl (fun r hr1 ρ hρ kk2 q => ?_) fun ys ρ' hρ hys => ?_
    · subst hρ
      have hro := hr r hr1
      simp only [sSeq, sRet, sRetF, sRetN, sIf, sNext, sSet, sOwn, sOwnP, sPar, sExpr, sFldI, sBreak, sCont, sDPutD, sParFF, sParEF, sParFE, sParEFF, wIsi, wVar, wC, wOp, wUn, wB, wCons, wNil, wTup, wLst, wDct, wTru, wTruth, wNot, wAndT, wOrT, wAndV, wOrV, wNotV, wIfE, wChain, wCall, wCallP, wCallPF, wMake, wMakeE, wM, wSl, wPart, wNoPart, wMeth, wFldC, wFldS, wProp, wBor, wBorT, wAppend, wPopAt, wExtend, wDGet2, wLstRng, wFmt, wJoined, jCons, jNil, gN, gTupW, gCons', gNil', iL, iT, iS, iR1, iR2, iZp, iEn, dAdd, dSub, dMul, dMod, dFdiv, dPow, dLt, dLe, dGt, dGe, dNeg, dIs, dIsNot, rLenD, rTupOf, rLstOf, rMax2, rMin2, rAbs, rIntOf, rStrOf, rDivmod, startE, Ev.get, Ev.set, Ev.lend, Ev.noSlf, Slot.lend, Slot.noSlf, Slot.isL, Slot.isDK, Slot.isPurse, List.map, List.all, List.length_cons, List.length_nil, List.replicate, List.append, List.cons_append, List.nil_append, Nat.zero_add, Nat.reduceAdd, Nat.reduceSub, Nat.reduceLT, if_true, if_false, Bool.false_eq_true, Bool.not_true, Bool.not_false, rowD]
      refine ⟨by decide +kernel, wLc_i ?_⟩
      simp only [sSeq, sRet, sRetF, sRetN, sIf, sNext, sSet, sOwn, sOwnP, sPar, sExpr, sFldI, sBreak, sCont, sDPutD, sParFF, sParEF, sParFE, sParEFF, wIsi, wVar, wC, wOp, wUn, wB, wCons, wNil, wTup, wLst, wDct, wTru, wTruth, wNot, wAndT, wOrT, wAndV, wOrV, wNotV, wIfE, wChain, wCall, wCallP, wCallPF, wMake, wMakeE, wM, wSl, wPart, wNoPart, wMeth, wFldC, wFldS, wProp, wBor, wBorT, wAppend, wPopAt, wExtend, wDGet2, wLstRng, wFmt, wJoined, jCons, jNil, gN, gTupW, gCons', gNil', iL, iT, iS, iR1, iR2, iZp, iEn, dAdd, dSub, dMul, dMod, dFdiv, dPow, dLt, dLe, dGt, dGe, dNeg, dIs, dIsNot, rLenD, rTupOf, rLstOf, rMax2, rMin2, rAbs, rIntOf, rStrOf, rDivmod, startE, Ev.get, Ev.set, Ev.lend, Ev.noSlf, Slot.lend, Slot.noSlf, Slot.isL, Slot.isDK, Slot.isPurse, List.map, List.all, List.length_cons, List.length_nil, List.replicate, List.append, List.cons_append, List.nil_append, Nat.zero_add, Nat.reduceAdd, Nat.reduceSub, Nat.reduceLT, if_true, if_false, Bool.false_eq_true, Bool.not_true, Bool.not_false]
      refine ⟨by rw [List.length_map]; have := hro.2.1; omega, ?_⟩
      simp only [Ev.wipe, sSeq, sRet, sRetF, sRetN, sIf, sNext, sSet, sOwn, sOwnP, sPar, sExpr, sFldI, sBreak, sCont, sDPutD, sParFF, sParEF, sParFE, sParEFF, wIsi, wVar, wC, wOp, wUn, wB, wCons, wNil, wTup, wLst, wDct, wTru, wTruth, wNot, wAndT, wOrT, wAndV, wOrV, wNotV, wIfE, wChain, wCall, wCallP, wCallPF, wMake, wMakeE, wM, wSl, wPart, wNoPart, wMeth, wFldC, wFldS, wProp, wBor, wBorT, wAppend, wPopAt, wExtend, wDGet2, wLstRng, wFmt, wJoined, jCons, jNil, gN, gTupW, gCons', gNil', iL, iT, iS, iR1, iR2, iZp, iEn, dAdd, dSub, dMul, dMod, dFdiv, dPow, dLt, dLe, dGt, dGe, dNeg, dIs, dIsNot, rLenD, rTupOf, rLstOf, rMax2, rMin2, rAbs, rIntOf, rStrOf, rDivmod, startE, Ev.get, Ev.set, Ev.lend, Ev.noSlf, Slot.lend, Slot.noSlf, Slot.isL, Slot.isDK, Slot.isPurse, List.map, List.all, List.length_cons, List.length_nil, List.replicate, List.append, List.cons_append, List.nil_append, Nat.zero_add, Nat.reduceAdd, Nat.reduceSub, Nat.reduceLT, if_true, if_false, Bool.false_eq_true, Bool.not_true, Bool.not_false]
      refine lcA (R := fun p y => y = .str (demS p.2 (nm names p.1))) (fun ρ => ρ = [.purse, .val (.lst (names.map D.str)), .val (.lst (rows.map rowD)), .un, .un, .un, .un, .val (.lst (r.map itemD)), .un, .un, .un, .un, .un, .un, .un, .un, .un, .un]) _ _ _ rfl (fun p hp ρ hρ kk3 q3 => ?_) fun ys ρ' hρ hys => ?_
      · subst hρ
        obtain ⟨hi, hw⟩ := hro.2.2.1 p hp
        have ei : atI (names.map D.str) (p.1 : Int) = some (.str (nm names p.1)) := atI_nat (by rw [List.getElem?_map, List.getElem?_eq_getElem hi, nm_get hi]; rfl)
        have l1 := wtext_len hw
        have l2 := (labB_gd (labB_name (nb _ (nm_mem hi)))).2.1
        have l3 : (Str.ofString " ").length = 1 := by decide +kernel
        refine ⟨rfl, rfl, ?_⟩
        simp only [sSeq, sRet, sRetF, sRetN, sIf, sNext, sSet, sOwn, sOwnP, sPar, sExpr, sFldI, sBreak, sCont, sDPutD, sParFF, sParEF, sParFE, sParEFF, wIsi, wVar, wC, wOp, wUn, wB, wCons, wNil, wTup, wLst, wDct, wTru, wTruth, wNot, wAndT, wOrT, wAndV, wOrV, wNotV, wIfE, wChain, wCall, wCallP, wCallPF, wMake, wMakeE, wM, wSl, wPart, wNoPart, wMeth, wFldC, wFldS, wProp, wBor, wBorT, wAppend, wPopAt, wExtend, wDGet2, wLstRng, wFmt, wJoined, jCons, jNil, gN, gTupW, gCons', gNil', iL, iT, iS, iR1, iR2, iZp, iEn, dAdd, dSub, dMul, dMod, dFdiv, dPow, dLt, dLe, dGt, dGe, dNeg, dIs, dIsNot, rLenD, rTupOf, rLstOf, rMax2, rMin2, rAbs, rIntOf, rStrOf, rDivmod, startE, Ev.get, Ev.set, Ev.lend, Ev.noSlf, Slot.lend, Slot.noSlf, Slot.isL, Slot.isDK, Slot.isPurse, List.map, List.all, List.length_cons, List.length_nil, List.replicate, List.append, List.cons_append, List.nil_append, Nat.zero_add, Nat.reduceAdd, Nat.reduceSub, Nat.reduceLT, if_true, if_false, Bool.false_eq_true, Bool.not_true, Bool.not_false, dIx, ei]
        refine ⟨by rw [l3]; omega, by rw [len_app, l3]; omega, q3 _ _ rfl rfl⟩
      · subst hρ
        rw [all2_fun hys]
        refine ⟨Str.ofString ", ", r.map fun p => demS p.2 (nm names p.1), rfl, .inl (by rw [List.map_map]; rfl), ?_, ?_⟩
        · have hs := sum_le (c := 27) (r.map fun p => demS p.2 (nm names p.1)) fun y hy => by
            obtain ⟨p, hp, rfl⟩ := List.mem_map.mp hy
            exact demS_len (hro.2.2.1 p hp).2 (nb _ (nm_mem (hro.2.2.1 p hp).1))
          rw [List.length_map] at hs ⊢
          have l2 : (Str.ofString ", ").length = 2 := by decide +kernel
          have := hro.2.1
          rw [l2]
          omega
        · exact q _ _ rfl rfl
    · subst hρ
      rw [all2_fun hys]
      simp only [sSeq, sRet, sRetF, sRetN, sIf, sNext, sSet, sOwn, sOwnP, sPar, sExpr, sFldI, sBreak, sCont, sDPutD, sParFF, sParEF, sParFE, sParEFF, wIsi, wVar, wC, wOp, wUn, wB, wCons, wNil, wTup, wLst, wDct, wTru, wTruth, wNot, wAndT, wOrT, wAndV, wOrV, wNotV, wIfE, wChain, wCall, wCallP, wCallPF, wMake, wMakeE, wM, wSl, wPart, wNoPart, wMeth, wFldC, wFldS, wProp, wBor, wBorT, wAppend, wPopAt, wExtend, wDGet2, wLstRng, wFmt, wJoined, jCons, jNil, gN, gTupW, gCons', gNil', iL, iT, iS, iR1, iR2, iZp, iEn, dAdd, dSub, dMul, dMod, dFdiv, dPow, dLt, dLe, dGt, dGe, dNeg, dIs, dIsNot, rLenD, rTupOf, rLstOf, rMax2, rMin2, rAbs, rIntOf, rStrOf, rDivmod, startE, Ev.get, Ev.set, Ev.lend, Ev.noSlf, Slot.lend, Slot.noSlf, Slot.isL, Slot.isDK, Slot.isPurse, List.map, List.all, List.length_cons, List.length_nil, List.replicate, List.append, List.cons_append, List.nil_append, Nat.zero_add, Nat.reduceAdd, Nat.reduceSub, Nat.reduceLT, if_true, if_false, Bool.false_eq_true, Bool.not_true, Bool.not_false]
      refine hM3 _ (sSeq_gen fun M4 hM4 => ?_)
      simp only [sSeq, sRet, sRetF, sRetN, sIf, sNext, sSet, sOwn, sOwnP, sPar, sExpr, sFldI, sBreak, sCont, sDPutD, sParFF, sParEF, sParFE, sParEFF, wIsi, wVar, wC, wOp, wUn, wB, wCons, wNil, wTup, wLst, wDct, wTru, wTruth, wNot, wAndT, wOrT, wAndV, wOrV, wNotV, wIfE, wChain, wCall, wCallP, wCallPF, wMake, wMakeE, wM, wSl, wPart, wNoPart, wMeth, wFldC, wFldS, wProp, wBor, wBorT, wAppend, wPopAt, wExtend, wDGet2, wLstRng, wFmt, wJoined, jCons, jNil, gN, gTupW, gCons', gNil', iL, iT, iS, iR1, iR2, iZp, iEn, dAdd, dSub, dMul, dMod, dFdiv, dPow, dLt, dLe, dGt, dGe, dNeg, dIs, dIsNot, rLenD, rTupOf, rLstOf, rMax2, rMin2, rAbs, rIntOf, rStrOf, rDivmod, startE, Ev.get, Ev.set, Ev.lend, Ev.noSlf, Slot.lend, Slot.noSlf, Slot.isL, Slot.isDK, Slot.isPurse, List.map, List.all, List.length_cons, List.length_nil, List.replicate, List.append, List.cons_append, List.nil_append, Nat.zero_add, Nat.reduceAdd, Nat.reduceSub, Nat.reduceLT, if_true, if_false, Bool.false_eq_true, Bool.not_true, Bool.not_false]
      refine wLc_i ?_
      simp only [sSeq, sRet, sRetF, sRetN, sIf, sNext, sSet, sOwn, sOwnP, sPar, sExpr, sFldI, sBreak, sCont, sDPutD, sParFF, sParEF, sParFE, sParEFF, wIsi, wVar, wC, wOp, wUn, wB, wCons, wNil, wTup, wLst, wDct, wTru, wTruth, wNot, wAndT, wOrT, wAndV, wOrV, wNotV, wIfE, wChain, wCall, wCallP, wCallPF, wMake, wMakeE, wM, wSl, wPart, wNoPart, wMeth, wFldC, wFldS, wProp, wBor, wBorT, wAppend, wPopAt, wExtend, wDGet2, wLstRng, wFmt, wJoined, jCons, jNil, gN, gTupW, gCons', gNil', iL, iT, iS, iR1, iR2, iZp, iEn, dAdd, dSub, dMul, dMod, dFdiv, dPow, dLt, dLe, dGt, dGe, dNeg, dIs, dIsNot, rLenD, rTupOf, rLstOf, rMax2, rMin2, rAbs, rIntOf, rStrOf, rDivmod, startE, Ev.get, Ev.set, Ev.lend, Ev.noSlf, Slot.lend, Slot.noSlf, Slot.isL, Slot.isDK, Slot.isPurse, List.map, List.all, List.length_cons, List.length_nil, List.replicate, List.append, List.cons_append, List.nil_append, Nat.zero_add, Nat.reduceAdd, Nat.reduceSub, Nat.reduceLT, if_true, if_false, Bool.false_eq_true, Bool.not_true, Bool.not_false]
      refine ⟨by rw [List.length_map]; omega, ?_⟩
      simp only [Ev.wipe, sSeq, sRet, sRetF, sRetN, sIf, sNext, sSet, sOwn, sOwnP, sPar, sExpr, sFldI, sBreak, sCont, sDPutD, sParFF, sParEF, sParFE, sParEFF, wIsi, wVar, wC, wOp, wUn, wB, wCons, wNil, wTup, wLst, wDct, wTru, wTruth, wNot, wAndT, wOrT, wAndV, wOrV, wNotV, wIfE, wChain, wCall, wCallP, wCallPF, wMake, wMakeE, wM, wSl, wPart, wNoPart, wMeth, wFldC, wFldS, wProp, wBor, wBorT, wAppend, wPopAt, wExtend, wDGet2, wLstRng, wFmt, wJoined, jCons, jNil, gN, gTupW, gCons', gNil', iL, iT, iS, iR1, iR2, iZp, iEn, dAdd, dSub, dMul, dMod, dFdiv, dPow, dLt, dLe, dGt, dGe, dNeg, dIs, dIsNot, rLenD, rTupOf, rLstOf, rMax2, rMin2, rAbs, rIntOf, rStrOf, rDivmod, startE, Ev.get, Ev.set, Ev.lend, Ev.noSlf, Slot.lend, Slot.noSlf, Slot.isL, Slot.isDK, Slot.isPurse, List.map, List.all, List.length_cons, List.length_nil, List.replicate, List.append, List.cons_append, List.nil_append, Nat.zero_add, Nat.reduceAdd, Nat.reduceSub, Nat.reduceLT, if_true, if_false, Bool.false_eq_true, Bool.not_true, Bool.not_false]
      refine lcA (R := fun z y => y = lot0 z) (fun ρ => ρ = [.purse, .val (.lst (names.map D.str)), .val (.lst (rows.map rowD)), .val (.tup (rows.map fun r => D.str (txtOf names r))), .un, .un, .un, .un, .un, .un, .un, .un, .un, .un, .un, .un, .un, .un]) _ _ _ rfl (fun z hz ρ hρ kk2 q => ?_) fun ys ρ' hρ hys => ?_
      · subst hρ
        simp only [sSeq, sRet, sRetF, sRetN, sIf, sNext, sSet, sOwn, sOwnP, sPar, sExpr, sFldI, sBreak, sCont, sDPutD, sParFF, sParEF, sParFE, sParEFF, wIsi, wVar, wC, wOp, wUn, wB, wCons, wNil, wTup, wLst, wDct, wTru, wTruth, wNot, wAndT, wOrT, wAndV, wOrV, wNotV, wIfE, wChain, wCall, wCallP, wCallPF, wMake, wMakeE, wM, wSl, wPart, wNoPart, wMeth, wFldC, wFldS, wProp, wBor, wBorT, wAppend, wPopAt, wExtend, wDGet2, wLstRng, wFmt, wJoined, jCons, jNil, gN, gTupW, gCons', gNil', iL, iT, iS, iR1, iR2, iZp, iEn, dAdd, dSub, dMul, dMod, dFdiv, dPow, dLt, dLe, dGt, dGe, dNeg, dIs, dIsNot, rLenD, rTupOf, rLstOf, rMax2, rMin2, rAbs, rIntOf, rStrOf, rDivmod, startE, Ev.get, Ev.set, Ev.lend, Ev.noSlf, Slot.lend, Slot.noSlf, Slot.isL, Slot.isDK, Slot.isPurse, List.map, List.all, List.length_cons, List.length_nil, List.replicate, List.append, List.cons_append, List.nil_append, Nat.zero_add, Nat.reduceAdd, Nat.reduceSub, Nat.reduceLT, if_true, if_false, Bool.false_eq_true, Bool.not_true, Bool.not_false]
        exact ⟨by omega, q _ _ rfl rfl⟩
      · subst hρ
        rw [all2_fun hys]
        refine hM4 _ (sSeq_gen fun M5 hM5 => ?_)
        simp only [sSeq, sRet, sRetF, sRetN, sIf, sNext, sSet, sOwn, sOwnP, sPar, sExpr, sFldI, sBreak, sCont, sDPutD, sParFF, sParEF, sParFE, sParEFF, wIsi, wVar, wC, wOp, wUn, wB, wCons, wNil, wTup, wLst, wDct, wTru, wTruth, wNot, wAndT, wOrT, wAndV, wOrV, wNotV, wIfE, wChain, wCall, wCallP, wCallPF, wMake, wMakeE, wM, wSl, wPart, wNoPart, wMeth, wFldC, wFldS, wProp, wBor, wBorT, wAppend, wPopAt, wExtend, wDGet2, wLstRng, wFmt, wJoined, jCons, jNil, gN, gTupW, gCons', gNil', iL, iT, iS, iR1, iR2, iZp, iEn, dAdd, dSub, dMul, dMod, dFdiv, dPow, dLt, dLe, dGt, dGe, dNeg, dIs, dIsNot, rLenD, rTupOf, rLstOf, rMax2, rMin2, rAbs, rIntOf, rStrOf, rDivmod, startE, Ev.get, Ev.set, Ev.lend, Ev.noSlf, Slot.lend, Slot.noSlf, Slot.isL, Slot.isDK, Slot.isPurse, List.map, List.all, List.length_cons, List.length_nil, List.replicate, List.append, List.cons_append, List.nil_append, Nat.zero_add, Nat.reduceAdd, Nat.reduceSub, Nat.reduceLT, if_true, if_false, Bool.false_eq_true, Bool.not_true, Bool.not_false]
        have okr : ∀ r ∈ rows, D.ok (.str (txtOf names r)) = true := fun r hr1 => by
          have hro := hr r hr1
          refine decide_eq_true ?_
          have := txt_len hro nb
          omega
        have okl : ∀ z ∈ names, D.ok (lot0 z) = true := fun z hz => by
          have l2 := (labB_gd (labB_name (nb z hz))).2.1
          show (decide (z.length + 2 ≤ sizeLine) && true) = true
          rw [decide_eq_true (by omega)]; rfl
        have okm : ∀ {α : Type} (f : α → D) (l : List α), (∀ a ∈ l, D.ok (f a) = true) → D.okL (l.map f) = true := fun f l h => okL_of fun x hx => by
          obtain ⟨a, ha, rfl⟩ := List.mem_map.mp hx
          exact h a ha
        have okR : D.okL [D.tup [D.str (Str.ofString "r"), D.tup (rows.map fun r => D.str (txtOf names r))]] = true := by
          have l1 : (Str.ofString "r").length = 1 := by decide +kernel
          show ((decide ((Str.ofString "r").length + 2 ≤ sizeLine) && (D.okL (rows.map fun r => D.str (txtOf names r)) && true)) && true) = true
          rw [l1, decide_eq_true (by omega), okm _ rows okr]; rfl
        have hne : names.map lot0 ≠ [] := by
          intro e
          have := congrArg List.length e
          rw [List.length_map] at this
          simp at this
          rw [this] at nl
          simp at nl
          omega
        have hr1 : 1 ≤ rows.length ∧ rows.length ≤ 6 := by omega
        have prs := pRules_ok nb nd hr hr1.1 hr1.2
        refine ⟨by omega, by omega, names.map lot0, _, [], [(Str.ofString "r", rows.map (optOf names))], [], rfl, okm _ names okl, okR, rfl, hne, by rw [List.length_map]; omega, lots_ok names [] nb nd (fun z _ q => by cases q), by simp, by simp, by rw [lot0_names]; exact prs, by simp, rfl, ?_⟩
        rw [lot0_names]
        obtain ⟨F, hF⟩ : ∃ F, F = planF (.tup (names.map lot0)) (.tup [D.tup [D.str (Str.ofString "r"), D.tup (rows.map fun r => D.str (txtOf names r))]]) (.tup []) names [(Str.ofString "r", rows.map (optOf names))] [] := ⟨_, rfl⟩
        have P : PL names rows F := ⟨by omega, nb, nd, hr1, hr, by rw [hF]; exact look_isq, ⟨_, _, _, _, by rw [hF]⟩⟩
        rw [← hF]
        refine hM5 _ (sSeq_gen fun M6 hM6 => ?_)
        simp only [sFor, sSeq, sRet, sRetF, sRetN, sIf, sNext, sSet, sOwn, sOwnP, sPar, sExpr, sFldI, sBreak, sCont, sDPutD, sParFF, sParEF, sParFE, sParEFF, wIsi, wVar, wC, wOp, wUn, wB, wCons, wNil, wTup, wLst, wDct, wTru, wTruth, wNot, wAndT, wOrT, wAndV, wOrV, wNotV, wIfE, wChain, wCall, wCallP, wCallPF, wMake, wMakeE, wM, wSl, wPart, wNoPart, wMeth, wFldC, wFldS, wProp, wBor, wBorT, wAppend, wPopAt, wExtend, wDGet2, wLstRng, wFmt, wJoined, jCons, jNil, gN, gTupW, gCons', gNil', iL, iT, iS, iR1, iR2, iZp, iEn, dAdd, dSub, dMul, dMod, dFdiv, dPow, dLt, dLe, dGt, dGe, dNeg, dIs, dIsNot, rLenD, rTupOf, rLstOf, rMax2, rMin2, rAbs, rIntOf, rStrOf, rDivmod, startE, Ev.get, Ev.set, Ev.lend, Ev.noSlf, Slot.lend, Slot.noSlf, Slot.isL, Slot.isDK, Slot.isPurse, List.map, List.all, List.length_cons, List.length_nil, List.replicate, List.append, List.cons_append, List.nil_append, Nat.zero_add, Nat.reduceAdd, Nat.reduceSub, Nat.reduceLT, if_true, if_false, Bool.false_eq_true, Bool.not_true, Bool.not_false]
        refine ⟨⟨by omega, by omega⟩, ?_⟩
        refine plan_loop P _ _ _ _ _ _ _ _ _ _ fun s6 s7 s8 s9 s10 s11 s12 s13 s14 => hM6 _ ?_
        simp only [sSeq, sRet, sRetF, sRetN, sIf, sNext, sSet, sOwn, sOwnP, sPar, sExpr, sFldI, sBreak, sCont, sDPutD, sParFF, sParEF, sParFE, sParEFF, wIsi, wVar, wC, wOp, wUn, wB, wCons, wNil, wTup, wLst, wDct, wTru, wTruth, wNot, wAndT, wOrT, wAndV, wOrV, wNotV, wIfE, wChain, wCall, wCallP, wCallPF, wMake, wMakeE, wM, wSl, wPart, wNoPart, wMeth, wFldC, wFldS, wProp, wBor, wBorT, wAppend, wPopAt, wExtend, wDGet2, wLstRng, wFmt, wJoined, jCons, jNil, gN, gTupW, gCons', gNil', iL, iT, iS, iR1, iR2, iZp, iEn, dAdd, dSub, dMul, dMod, dFdiv, dPow, dLt, dLe, dGt, dGe, dNeg, dIs, dIsNot, rLenD, rTupOf, rLstOf, rMax2, rMin2, rAbs, rIntOf, rStrOf, rDivmod, startE, Ev.get, Ev.set, Ev.lend, Ev.noSlf, Slot.lend, Slot.noSlf, Slot.isL, Slot.isDK, Slot.isPurse, List.map, List.all, List.length_cons, List.length_nil, List.replicate, List.append, List.cons_append, List.nil_append, Nat.zero_add, Nat.reduceAdd, Nat.reduceSub, Nat.reduceLT, if_true, if_false, Bool.false_eq_true, Bool.not_true, Bool.not_false]
        exact ⟨trivial, h⟩
end W
set_option Elab.async false
set_option linter.all false
set_option maxRecDepth 100000
set_option maxHeartbeats 4000000
namespace W
open PySem PySem.Spec PyProof.Rows L2 Q
theorem n_law {ds : List D} {kk : D → Prop} {kx : XC} (h : c_law ds kk kx) : ds.length = 1 := by
  obtain ⟨a, rfl, _⟩ := h; rfl
theorem law_loop {ns : List Int} {M bk ct : Ev → Prop} {rt : D → Ev → Prop} {rf : D → Ev → Prop} : ∀ (n i : Nat) (s1 : Slot), i + n ≤ 100 → (∀ s1, M [.val (lstI ns), s1]) →
    forL (gN 1) (sIf (wNot (wTruth (wCallPF c__law_right (wCall c__law_purse no (wCons (wVar 0) (wCons (wVar 1) wNil))) wNil))) (sRet (wC (.bl false))) sNext) ⟨M, rt, bk, ct, rf⟩ (seqF i n) [.val (lstI ns), s1]
  | 0, i, s1, _, hM => hM s1
  | n + 1, i, s1, h, hM => by
    refine forL_gen fun M1 hM1 => ?_
    simp only [sSeq, sRet, sRetF, sRetN, sIf, sNext, sSet, sOwn, sOwnP, sPar, sExpr, sFldI, sBreak, sCont, sDPutD, sParFF, sParEF, sParFE, sParEFF, wIsi, wVar, wC, wOp, wUn, wB, wCons, wNil, wTup, wLst, wDct, wTru, wTruth, wNot, wAndT, wOrT, wAndV, wOrV, wNotV, wIfE, wChain, wCall, wCallP, wCallPF, wMake, wMakeE, wM, wSl, wPart, wNoPart, wMeth, wFldC, wFldS, wProp, wBor, wBorT, wAppend, wPopAt, wExtend, wDGet2, wLstRng, wFmt, wJoined, jCons, jNil, gN, gTupW, gCons', gNil', iL, iT, iS, iR1, iR2, iZp, iEn, dAdd, dSub, dMul, dMod, dFdiv, dPow, dLt, dLe, dGt, dGe, dNeg, dIs, dIsNot, rLenD, rTupOf, rLstOf, rMax2, rMin2, rAbs, rIntOf, rStrOf, rDivmod, startE, Ev.get, Ev.set, Ev.lend, Ev.noSlf, Slot.lend, Slot.noSlf, Slot.isL, Slot.isDK, Slot.isPurse, List.map, List.all, List.length_cons, List.length_nil, List.replicate, List.append, List.cons_append, List.nil_append, Nat.zero_add, Nat.reduceAdd, Nat.reduceSub, Nat.reduceLT, if_true, if_false, Bool.false_eq_true, Bool.not_true, Bool.not_false]
    refine ⟨_, _, rfl, ns, i, rfl, rfl, by omega, fun x y z x0 y0 y1 => ⟨⟨x0, y0, y1⟩, rfl, ?_⟩⟩
    simp only [sSeq, sRet, sRetF, sRetN, sIf, sNext, sSet, sOwn, sOwnP, sPar, sExpr, sFldI, sBreak, sCont, sDPutD, sParFF, sParEF, sParFE, sParEFF, wIsi, wVar, wC, wOp, wUn, wB, wCons, wNil, wTup, wLst, wDct, wTru, wTruth, wNot, wAndT, wOrT, wAndV, wOrV, wNotV, wIfE, wChain, wCall, wCallP, wCallPF, wMake, wMakeE, wM, wSl, wPart, wNoPart, wMeth, wFldC, wFldS, wProp, wBor, wBorT, wAppend, wPopAt, wExtend, wDGet2, wLstRng, wFmt, wJoined, jCons, jNil, gN, gTupW, gCons', gNil', iL, iT, iS, iR1, iR2, iZp, iEn, dAdd, dSub, dMul, dMod, dFdiv, dPow, dLt, dLe, dGt, dGe, dNeg, dIs, dIsNot, rLenD, rTupOf, rLstOf, rMax2, rMin2, rAbs, rIntOf, rStrOf, rDivmod, startE, Ev.get, Ev.set, Ev.lend, Ev.noSlf, Slot.lend, Slot.noSlf, Slot.isL, Slot.isDK, Slot.isPurse, List.map, List.all, List.length_cons, List.length_nil, List.replicate, List.append, List.cons_append, List.nil_append, Nat.zero_add, Nat.reduceAdd, Nat.reduceSub, Nat.reduceLT, if_true, if_false, Bool.false_eq_true, Bool.not_true, Bool.not_false]
    exact hM1 _ (law_loop n (i + 1) _ (by omega) hM)
theorem p_law (ds : List D) (kk : D → Prop) (kx : XC) (h : c_law ds kk kx) : (w_law kx) { nx := fun _ => kk .non, rt := fun d _ => kk d } (startE 2 ds) := by
  obtain ⟨a, rfl, ns, rfl, hl, h⟩ := h
  unfold w_law
  refine sSeq_gen fun M hM => ?_
  simp only [sFor, sSeq, sRet, sRetF, sRetN, sIf, sNext, sSet, sOwn, sOwnP, sPar, sExpr, sFldI, sBreak, sCont, sDPutD, sParFF, sParEF, sParFE, sParEFF, wIsi, wVar, wC, wOp, wUn, wB, wCons, wNil, wTup, wLst, wDct, wTru, wTruth, wNot, wAndT, wOrT, wAndV, wOrV, wNotV, wIfE, wChain, wCall, wCallP, wCallPF, wMake, wMakeE, wM, wSl, wPart, wNoPart, wMeth, wFldC, wFldS, wProp, wBor, wBorT, wAppend, wPopAt, wExtend, wDGet2, wLstRng, wFmt, wJoined, jCons, jNil, gN, gTupW, gCons', gNil', iL, iT, iS, iR1, iR2, iZp, iEn, dAdd, dSub, dMul, dMod, dFdiv, dPow, dLt, dLe, dGt, dGe, dNeg, dIs, dIsNot, rLenD, rTupOf, rLstOf, rMax2, rMin2, rAbs, rIntOf, rStrOf, rDivmod, startE, Ev.get, Ev.set, Ev.lend, Ev.noSlf, Slot.lend, Slot.noSlf, Slot.isL, Slot.isDK, Slot.isPurse, List.map, List.all, List.length_cons, List.length_nil, List.replicate, List.append, List.cons_append, List.nil_append, Nat.zero_add, Nat.reduceAdd, Nat.reduceSub, Nat.reduceLT, if_true, if_false, Bool.false_eq_true, Bool.not_true, Bool.not_false, lstI]
  obtain ⟨n, hn, h5⟩ : ∃ n : Nat, (if (if (5 : Int) < ((ns.map D.int).length : Int) then (5 : Int) else ((ns.map D.int).length : Int)) > 2 then (if (5 : Int) < ((ns.map D.int).length : Int) then (5 : Int) else ((ns.map D.int).length : Int)) else 2) = (n : Int) ∧ n ≤ 5 := by
    refine ⟨(if (if (5 : Int) < ((ns.map D.int).length : Int) then (5 : Int) else ((ns.map D.int).length : Int)) > 2 then (if (5 : Int) < ((ns.map D.int).length : Int) then (5 : Int) else ((ns.map D.int).length : Int)) else 2).toNat, ?_, ?_⟩
    · rw [Int.toNat_of_nonneg]; split <;> (try split) <;> omega
    · split <;> (try split) <;> omega
  rw [hn]
  refine ⟨⟨by omega, by omega⟩, ?_⟩
  rw [Int.toNat_natCast, seqF_eq]
  refine law_loop n 0 .un (by omega) fun s1 => hM _ ?_
  simp only [sSeq, sRet, sRetF, sRetN, sIf, sNext, sSet, sOwn, sOwnP, sPar, sExpr, sFldI, sBreak, sCont, sDPutD, sParFF, sParEF, sParFE, sParEFF, wIsi, wVar, wC, wOp, wUn, wB, wCons, wNil, wTup, wLst, wDct, wTru, wTruth, wNot, wAndT, wOrT, wAndV, wOrV, wNotV, wIfE, wChain, wCall, wCallP, wCallPF, wMake, wMakeE, wM, wSl, wPart, wNoPart, wMeth, wFldC, wFldS, wProp, wBor, wBorT, wAppend, wPopAt, wExtend, wDGet2, wLstRng, wFmt, wJoined, jCons, jNil, gN, gTupW, gCons', gNil', iL, iT, iS, iR1, iR2, iZp, iEn, dAdd, dSub, dMul, dMod, dFdiv, dPow, dLt, dLe, dGt, dGe, dNeg, dIs, dIsNot, rLenD, rTupOf, rLstOf, rMax2, rMin2, rAbs, rIntOf, rStrOf, rDivmod, startE, Ev.get, Ev.set, Ev.lend, Ev.noSlf, Slot.lend, Slot.noSlf, Slot.isL, Slot.isDK, Slot.isPurse, List.map, List.all, List.length_cons, List.length_nil, List.replicate, List.append, List.cons_append, List.nil_append, Nat.zero_add, Nat.reduceAdd, Nat.reduceSub, Nat.reduceLT, if_true, if_false, Bool.false_eq_true, Bool.not_true, Bool.not_false]
  exact h
end W
set_option Elab.async false
set_option linter.all false
set_option maxRecDepth 100000
set_option maxHeartbeats 4000000
namespace W
open PySem PySem.Spec PyProof.Rows L2 Q
def top (i : Nat) : Stmt := PySem.Challenge.pw_quorumlots_k18_whole_quorums_that_stay.main.body.getD i (.Pass ⟨0, 0, 0, 0⟩)
structure Fx (K : PySem.W.Frag) (mg : Str → Option Value) : Prop where
  abs : mg "abs" = none
  all : mg "all" = none
  any : mg "any" = none
  bool : mg "bool" = none
  divmod : mg "divmod" = none
  enumerate : mg "enumerate" = none
  f_Plan_held_lies : FldOk K mg "Plan" "held_lies"
  f_Plan_held_lots : FldOk K mg "Plan" "held_lots"
  f_Plan_held_rules : FldOk K mg "Plan" "held_rules"
  f_Plan_lie_words : FldOk K mg "Plan" "lie_words"
  f_Plan_lot_names : FldOk K mg "Plan" "lot_names"
  f_Plan_options : FldOk K mg "Plan" "options"
  f_Word_head : FldOk K mg "Word" "head"
  f_Word_shift : FldOk K mg "Word" "shift"
  g_DIGITS : ∃ t, mg "DIGITS" = some (.str "0123456789" t)
  g_LETTERS : ∃ t, mg "LETTERS" = some (.str "abcdefghijklmnopqrstuvwxyz" t)
  g_LONGEST_NAME : ∃ t, mg "LONGEST_NAME" = some (.int 8 t)
  g_LONGEST_WRITTEN : ∃ t, mg "LONGEST_WRITTEN" = some (.int 13 t)
  g_MOST_LOTS : ∃ t, mg "MOST_LOTS" = some (.int 5 t)
  g_MOST_OPTIONS : ∃ t, mg "MOST_OPTIONS" = some (.int 6 t)
  g_MOST_RULES : ∃ t, mg "MOST_RULES" = some (.int 6 t)
  g_MOST_SIZE : ∃ t, mg "MOST_SIZE" = some (.int 1000000000000 t)
  int : mg "int" = none
  isinstance : mg "isinstance" = none
  len : mg "len" = none
  list : mg "list" = none
  max : mg "max" = none
  min : mg "min" = none
  range : mg "range" = none
  repr : mg "repr" = none
  str : mg "str" = none
  tuple : mg "tuple" = none
  zip : mg "zip" = none
abbrev s_is_integer : Stmt := top 19
theorem sc_is_integer : FnScope ["value"] ["value"] (defScope s_is_integer) := ⟨rfl, rfl, rfl, by decide +kernel, rfl, by decide +kernel, by decide +kernel⟩
abbrev s_is_name : Stmt := top 20
theorem sc_is_name : FnScope ["value", "sign"] ["value"] (defScope s_is_name) := ⟨rfl, rfl, rfl, by decide +kernel, rfl, by decide +kernel, by decide +kernel⟩
abbrev s_Word___init__ : Stmt := mth (top 23) 0
theorem sc_Word___init__ : FnScope ["self", "head", "shift"] ["self", "head", "shift"] (defScope s_Word___init__) := ⟨rfl, rfl, rfl, by decide +kernel, rfl, by decide +kernel, by decide +kernel⟩
abbrev s_Word_number : Stmt := mth (top 23) 1
theorem sc_Word_number : FnScope ["self", "size", "base"] ["self", "size"] (defScope s_Word_number) := ⟨rfl, rfl, rfl, by decide +kernel, rfl, by decide +kernel, by decide +kernel⟩
abbrev s_written : Stmt := top 24
theorem sc_written : FnScope ["text", "sign"] ["text"] (defScope s_written) := ⟨rfl, rfl, rfl, by decide +kernel, rfl, by decide +kernel, by decide +kernel⟩
abbrev s_parsed_word : Stmt := top 25
theorem sc_parsed_word : FnScope ["text", "head", "sign", "shift", "number"] ["text"] (defScope s_parsed_word) := ⟨rfl, rfl, rfl, by decide +kernel, rfl, by decide +kernel, by decide +kernel⟩
abbrev s_parsed_option : Stmt := top 26
theorem sc_parsed_option : FnScope ["text", "names", "found", "demand", "parts", "word", "name"] ["text", "names"] (defScope s_parsed_option) := ⟨rfl, rfl, rfl, by decide +kernel, rfl, by decide +kernel, by decide +kernel⟩
abbrev s_is_lot : Stmt := top 28
theorem sc_is_lot : FnScope ["value", "taken"] ["value", "taken"] (defScope s_is_lot) := ⟨rfl, rfl, rfl, by decide +kernel, rfl, by decide +kernel, by decide +kernel⟩
abbrev s_check_lots : Stmt := top 29
theorem sc_check_lots : FnScope ["value", "taken", "index", "lot"] ["value"] (defScope s_check_lots) := ⟨rfl, rfl, rfl, by decide +kernel, rfl, by decide +kernel, by decide +kernel⟩
abbrev s_parsed_options : Stmt := top 30
theorem sc_parsed_options : FnScope ["value", "names", "found", "text"] ["value", "names"] (defScope s_parsed_options) := ⟨rfl, rfl, rfl, by decide +kernel, rfl, by decide +kernel, by decide +kernel⟩
abbrev s_check_rules : Stmt := top 31
theorem sc_check_rules : FnScope ["names", "value", "found", "index", "rule", "options"] ["names", "value"] (defScope s_check_rules) := ⟨rfl, rfl, rfl, by decide +kernel, rfl, by decide +kernel, by decide +kernel⟩
abbrev s_check_lies : Stmt := top 32
theorem sc_check_lies : FnScope ["names", "value", "found", "index", "text", "option"] ["names", "value"] (defScope s_check_lies) := ⟨rfl, rfl, rfl, by decide +kernel, rfl, by decide +kernel, by decide +kernel⟩
abbrev s_Plan___init__ : Stmt := mth (top 35) 0
theorem sc_Plan___init__ : FnScope ["self", "lots", "rules", "lies", "lot"] ["self", "lots", "rules", "lies"] (defScope s_Plan___init__) := ⟨rfl, rfl, rfl, by decide +kernel, rfl, by decide +kernel, by decide +kernel⟩
abbrev s_Plan_lots : Stmt := mth (top 35) 2
theorem sc_Plan_lots : FnScope ["self"] ["self"] (defScope s_Plan_lots) := ⟨rfl, rfl, rfl, by decide +kernel, rfl, by decide +kernel, by decide +kernel⟩
abbrev s_numbers_of : Stmt := top 36
theorem sc_numbers_of : FnScope ["option", "sizes", "word", "size"] ["option", "sizes"] (defScope s_numbers_of) := ⟨rfl, rfl, rfl, by decide +kernel, rfl, by decide +kernel, by decide +kernel⟩
abbrev s_is_above : Stmt := top 37
theorem sc_is_above : FnScope ["numbers", "others", "number", "other"] ["numbers", "others"] (defScope s_is_above) := ⟨rfl, rfl, rfl, by decide +kernel, rfl, by decide +kernel, by decide +kernel⟩
abbrev s_has_quorum : Stmt := top 38
theorem sc_has_quorum : FnScope ["plan", "rule", "sizes", "counts", "option"] ["plan", "rule", "sizes", "counts"] (defScope s_has_quorum) := ⟨rfl, rfl, rfl, by decide +kernel, rfl, by decide +kernel, by decide +kernel⟩
abbrev s_is_rule : Stmt := top 39
theorem sc_is_rule : FnScope ["plan", "value"] ["plan", "value"] (defScope s_is_rule) := ⟨rfl, rfl, rfl, by decide +kernel, rfl, by decide +kernel, by decide +kernel⟩
abbrev s_check_rule : Stmt := top 40
theorem sc_check_rule : FnScope ["plan", "value"] ["plan", "value"] (defScope s_check_rule) := ⟨rfl, rfl, rfl, by decide +kernel, rfl, by decide +kernel, by decide +kernel⟩
abbrev s_is_size : Stmt := top 41
theorem sc_is_size : FnScope ["lot", "value"] ["lot", "value"] (defScope s_is_size) := ⟨rfl, rfl, rfl, by decide +kernel, rfl, by decide +kernel, by decide +kernel⟩
abbrev s_are_sizes : Stmt := top 42
theorem sc_are_sizes : FnScope ["plan", "value", "lot", "size"] ["plan", "value"] (defScope s_are_sizes) := ⟨rfl, rfl, rfl, by decide +kernel, rfl, by decide +kernel, by decide +kernel⟩
abbrev s_check_sizes : Stmt := top 43
theorem sc_check_sizes : FnScope ["plan", "value"] ["plan", "value"] (defScope s_check_sizes) := ⟨rfl, rfl, rfl, by decide +kernel, rfl, by decide +kernel, by decide +kernel⟩
abbrev s_are_counts : Stmt := top 44
theorem sc_are_counts : FnScope ["sizes", "value", "count", "size"] ["sizes", "value"] (defScope s_are_counts) := ⟨rfl, rfl, rfl, by decide +kernel, rfl, by decide +kernel, by decide +kernel⟩
abbrev s_check_counts : Stmt := top 45
theorem sc_check_counts : FnScope ["sizes", "value"] ["sizes", "value"] (defScope s_check_counts) := ⟨rfl, rfl, rfl, by decide +kernel, rfl, by decide +kernel, by decide +kernel⟩
abbrev s_Plan_is_quorum : Stmt := mth (top 35) 13
theorem sc_Plan_is_quorum : FnScope ["self", "rule", "sizes", "counts"] ["self", "rule", "sizes", "counts"] (defScope s_Plan_is_quorum) := ⟨rfl, rfl, rfl, by decide +kernel, rfl, by decide +kernel, by decide +kernel⟩
abbrev s__law_purse : Stmt := top 47
theorem sc__law_purse : FnScope ["_law_script", "_law_k", "_law_cell", "_law_great", "_law_seed"] ["_law_script", "_law_k"] (defScope s__law_purse) := ⟨rfl, rfl, rfl, by decide +kernel, rfl, by decide +kernel, by decide +kernel⟩
abbrev s__law_draw : Stmt := top 48
theorem sc__law_draw : FnScope ["_law_purse_here", "_law_size_here", "_law_held", "_law_mixed", "_law_digit"] ["_law_purse_here", "_law_size_here"] (defScope s__law_draw) := ⟨rfl, rfl, rfl, by decide +kernel, rfl, by decide +kernel, by decide +kernel⟩
abbrev s__law_pick : Stmt := top 49
theorem sc__law_pick : FnScope ["_law_purse_here", "_law_menu"] ["_law_purse_here", "_law_menu"] (defScope s__law_pick) := ⟨rfl, rfl, rfl, by decide +kernel, rfl, by decide +kernel, by decide +kernel⟩
abbrev s__law_label : Stmt := top 50
theorem sc__law_label : FnScope ["_law_purse_here", "_law_letters", "_law_found", "_law_k"] ["_law_purse_here"] (defScope s__law_label) := ⟨rfl, rfl, rfl, by decide +kernel, rfl, by decide +kernel, by decide +kernel⟩
abbrev s__law_labels : Stmt := top 51
theorem sc__law_labels : FnScope ["_law_purse_here", "_law_many", "_law_found", "_law_k", "_law_label_here", "_law_spare", "_law_j", "_law_each"] ["_law_purse_here", "_law_many"] (defScope s__law_labels) := ⟨rfl, rfl, rfl, by decide +kernel, rfl, by decide +kernel, by decide +kernel⟩
abbrev s__law_count : Stmt := top 52
theorem sc__law_count : FnScope ["_law_purse_here", "_law_way", "_law_top"] ["_law_purse_here"] (defScope s__law_count) := ⟨rfl, rfl, rfl, by decide +kernel, rfl, by decide +kernel, by decide +kernel⟩
abbrev s__law_word : Stmt := top 53
theorem sc__law_word : FnScope ["_law_purse_here", "_law_by"] ["_law_purse_here"] (defScope s__law_word) := ⟨rfl, rfl, rfl, by decide +kernel, rfl, by decide +kernel, by decide +kernel⟩
abbrev s__law_option : Stmt := top 54
theorem sc__law_option : FnScope ["_law_purse_here", "_law_deep", "_law_most", "_law_left", "_law_found", "_law_k"] ["_law_purse_here", "_law_deep", "_law_most"] (defScope s__law_option) := ⟨rfl, rfl, rfl, by decide +kernel, rfl, by decide +kernel, by decide +kernel⟩
abbrev s__law_shift : Stmt := top 55
theorem sc__law_shift : FnScope ["_law_word_here", "_law_head"] ["_law_word_here"] (defScope s__law_shift) := ⟨rfl, rfl, rfl, by decide +kernel, rfl, by decide +kernel, by decide +kernel⟩
abbrev s__law_number : Stmt := top 56
theorem sc__law_number : FnScope ["_law_word_here", "_law_size_here", "_law_by", "_law_half"] ["_law_word_here", "_law_size_here"] (defScope s__law_number) := ⟨rfl, rfl, rfl, by decide +kernel, rfl, by decide +kernel, by decide +kernel⟩
abbrev s__law_due : Stmt := top 60
theorem sc__law_due : FnScope ["_law_some", "_law_big", "_law_have", "_law_row", "_law_at", "_law_word_here"] ["_law_some", "_law_big", "_law_have"] (defScope s__law_due) := ⟨rfl, rfl, rfl, by decide +kernel, rfl, by decide +kernel, by decide +kernel⟩
abbrev s__law_size : Stmt := top 57
theorem sc__law_size : FnScope ["_law_purse_here", "_law_span", "_law_near", "_law_label_here", "_law_low", "_law_high", "_law_top", "_law_way", "_law_great"] ["_law_purse_here", "_law_span", "_law_near"] (defScope s__law_size) := ⟨rfl, rfl, rfl, by decide +kernel, rfl, by decide +kernel, by decide +kernel⟩
abbrev s__law_sizes : Stmt := top 58
theorem sc__law_sizes : FnScope ["_law_purse_here", "_law_spans", "_law_row", "_law_found", "_law_at", "_law_word_here", "_law_span"] ["_law_purse_here", "_law_spans", "_law_row"] (defScope s__law_sizes) := ⟨rfl, rfl, rfl, by decide +kernel, rfl, by decide +kernel, by decide +kernel⟩
abbrev s__law_part : Stmt := top 59
theorem sc__law_part : FnScope ["_law_purse_here", "_law_top", "_law_great"] ["_law_purse_here", "_law_top"] (defScope s__law_part) := ⟨rfl, rfl, rfl, by decide +kernel, rfl, by decide +kernel, by decide +kernel⟩
abbrev s__law_moved : Stmt := top 61
theorem sc__law_moved : FnScope ["_law_purse_here", "_law_big", "_law_have", "_law_due_here", "_law_way", "_law_sizes_now", "_law_counts_now", "_law_k", "_law_size_here", "_law_count_here", "_law_step"] ["_law_purse_here", "_law_big", "_law_have", "_law_due_here"] (defScope s__law_moved) := ⟨rfl, rfl, rfl, by decide +kernel, rfl, by decide +kernel, by decide +kernel⟩
abbrev s__law_right : Stmt := top 62
theorem sc__law_right : FnScope ["_law_purse_here", "_law_tags", "_law_some", "_law_lines", "_law_spans", "_law_mine", "_law_turn", "_law_row", "_law_big", "_law_have", "_law_at", "_law_word_here", "_law_due_here", "_law_again", "_law_moved_here", "_law_k", "_law_label_here", "_law_size_here"] ["_law_purse_here"] (defScope s__law_right) := ⟨rfl, rfl, rfl, by decide +kernel, rfl, by decide +kernel, by decide +kernel⟩
abbrev s_law : Stmt := top 63
theorem sc_law : FnScope ["_law_script", "_law_k"] ["_law_script"] (defScope s_law) := ⟨rfl, rfl, rfl, by decide +kernel, rfl, by decide +kernel, by decide +kernel⟩
section
variable {P : Program} {w : World} {K : PySem.W.Frag} {mg : Str → Option Value} {base : Heap} (T : Fx K mg)
include T
theorem ok_is_integer {f : Addr} {fd : FuncData} {dvs : List V} {kws : List (Str × V)} (F : FunD K "is_integer" "is_integer" (defArgs s_is_integer) (defBody s_is_integer) (defScope s_is_integer) dvs kws f fd)  : FnOk P w K mg base (L2.CX P w) 1 f fd ["value"] (spD ⟨K, mg⟩ c_is_integer) := by
  have nd := sc_is_integer.nd
  refine fnD_mk F sc_is_integer (fun ds k kx h => ?_) (fun cdv A outer s H E kx hr => ⟨(w_is_integer kx), ?_, fun ds kk h => p_is_integer ds kk kx h⟩)
  · exact n_is_integer h
  · exact (dss_one (ds_ret (de_and (de_isi (by rfl) T.isinstance (by rfl) T.int b_int (de_var (pv 0)) (hb := b_isinstance)) (de_one (de_not (de_isi (by rfl) T.isinstance (by rfl) T.bool b_bool (de_var (pv 0)) (hb := b_isinstance)))))))
theorem ok_is_name {f : Addr} {fd : FuncData} {dvs : List V} {kws : List (Str × V)} (F : FunD K "is_name" "is_name" (defArgs s_is_name) (defBody s_is_name) (defScope s_is_name) dvs kws f fd)  : FnOk P w K mg base (L2.CX P w) 1 f fd ["value"] (spD ⟨K, mg⟩ c_is_name) := by
  have nd := sc_is_name.nd
  refine fnD_mk F sc_is_name (fun ds k kx h => ?_) (fun cdv A outer s H E kx hr => ⟨(w_is_name kx), ?_, fun ds kk h => p_is_name ds kk kx h⟩)
  · exact n_is_name h
  · exact (dss_cons (ds_if (DW.dt (dw_or (dt_not (dt_truth (de_isi (by rfl) T.isinstance (by rfl) T.str b_str (de_var (pv 0)) (hb := b_isinstance)))) (dw_or (dt_not (dt_chain do_le do_le de_int (de_callB dc_len (by rfl) T.len b_len (da_cons (de_var (pv 0)) da_nil)) (de_gintE (by rfl) T.g_LONGEST_NAME))) (dw_or1 (dt_cmp (do_eq hr.units) (de_var (pv 0)) de_str (nomark _)))))) (dss_one (ds_ret de_bl)) dss_nil)
    (dss_one (ds_ret (de_and (de_cmp (do_in (u2 hr)) (de_ix (de_var (pv 0)) de_int) (de_gstrE (by rfl) T.g_LETTERS) rfl) (de_one (de_callB (dc_all rfl) (by rfl) T.all b_all (da_cons (DF.de (df_lc (own := [("sign", 1)]) (g := (gN 1)) (wt := wYes) (we := (wOp dIn (wVar 1) (wOp dAdd (wC (.str "abcdefghijklmnopqrstuvwxyz")) (wC (.str "0123456789"))))) rfl nd (di_str (de_var (pv 0))) (blkOk_by (by first | decide +kernel | kernel_rfl)) (fun _ _ _ _ _ => (dg_name (pg_name (i := 1) nd rfl (by first | exact Or.inl rfl | exact Or.inr rfl)))) (fun _ _ _ _ _ => dts_nil) (fun _ _ _ _ _ => (de_cmp (do_in (u2 hr)) (de_var (pv 1)) (de_op do_add (de_gstrE (by rfl) T.g_LETTERS) (de_gstrE (by rfl) T.g_DIGITS)) rfl)) (by decide))) da_nil)))))))
theorem ok_Word___init__ {f : Addr} {fd : FuncData} {dvs : List V} {kws : List (Str × V)} (F : FunD K "__init__" "Word.__init__" (defArgs s_Word___init__) (defBody s_Word___init__) (defScope s_Word___init__) dvs kws f fd)  : FnOk P w K mg base (L2.CX P w) 1 f fd ["self", "head", "shift"] (spI ⟨K, mg⟩ "Word" ci_Word) := by
  have nd := sc_Word___init__.nd
  refine fnI_mk F sc_Word___init__ (fun ds k kx h => ?_) (fun cdv A outer s H E kx hr => ⟨(w_Word___init__ kx), ?_, fun ds kk h => p_Word___init__ ds kk kx h⟩)
  · exact n_Word___init__ h
  · exact (dss_cons (ds_fldI (cn := "Word") T.f_Word_head (pv 0) (de_var (pv 1)))
    (dss_one (ds_fldI (cn := "Word") T.f_Word_shift (pv 0) (de_var (pv 2)))))
theorem ok_Word_number {f : Addr} {fd : FuncData} {dvs : List V} {kws : List (Str × V)} (F : FunD K "number" "Word.number" (defArgs s_Word_number) (defBody s_Word_number) (defScope s_Word_number) dvs kws f fd)  : FnOk P w K mg base (L2.CX P w) 1 f fd ["self", "size"] (spD ⟨K, mg⟩ c_Word_number) := by
  have nd := sc_Word_number.nd
  refine fnD_mk F sc_Word_number (fun ds k kx h => ?_) (fun cdv A outer s H E kx hr => ⟨(w_Word_number kx), ?_, fun ds kk h => p_Word_number ds kk kx h⟩)
  · exact n_Word_number h
  · exact (dss_cons (ds_if (dt_cmp (do_eq hr.units) (de_fld T.f_Word_head (de_var (pv 0))) de_str (nomark _)) (dss_one (ds_ret (de_fld T.f_Word_shift (de_var (pv 0))))) dss_nil)
    (dss_cons (ds_set nd (i := 2) (by rfl) (by first | exact Or.inl rfl | exact Or.inr rfl) (de_if (dt_cmp (do_eq hr.units) (de_fld T.f_Word_head (de_var (pv 0))) de_str (nomark _)) (de_var (pv 1)) (de_op do_add (de_op do_fdiv (de_var (pv 1)) de_int) de_int)))
    (dss_one (ds_ret (de_callB (dc_max2 rfl) (by rfl) T.max b_max (da_cons de_int (da_cons (de_op do_add (de_var (pv 2)) (de_fld T.f_Word_shift (de_var (pv 0)))) da_nil)))))))
theorem ok_written {f : Addr} {fd : FuncData} {dvs : List V} {kws : List (Str × V)} (F : FunD K "written" "written" (defArgs s_written) (defBody s_written) (defScope s_written) dvs kws f fd)  : FnOk P w K mg base (L2.CX P w) 1 f fd ["text"] (spD ⟨K, mg⟩ c_written) := by
  have nd := sc_written.nd
  refine fnD_mk F sc_written (fun ds k kx h => ?_) (fun cdv A outer s H E kx hr => ⟨(w_written kx), ?_, fun ds kk h => p_written ds kk kx h⟩)
  · exact n_written h
  · exact (dss_cons (ds_if (DW.dt (dw_or (dt_not (dt_chain do_le do_le de_int (de_callB dc_len (by rfl) T.len b_len (da_cons (de_var (pv 0)) da_nil)) (de_gintE (by rfl) T.g_LONGEST_WRITTEN))) (dw_or (dt_not (dt_truth (de_callB (dc_all rfl) (by rfl) T.all b_all (da_cons (DF.de (df_lc (own := [("sign", 1)]) (g := (gN 1)) (wt := wYes) (we := (wOp dIn (wVar 1) (wC (.str "0123456789")))) rfl nd (di_str (de_var (pv 0))) (blkOk_by (by first | decide +kernel | kernel_rfl)) (fun _ _ _ _ _ => (dg_name (pg_name (i := 1) nd rfl (by first | exact Or.inl rfl | exact Or.inr rfl)))) (fun _ _ _ _ _ => dts_nil) (fun _ _ _ _ _ => (de_cmp (do_in (u2 hr)) (de_var (pv 1)) (de_gstrE (by rfl) T.g_DIGITS) rfl)) (by decide))) da_nil)))) (dw_or1 (dt_cmp (do_eq hr.units) (de_ix (de_var (pv 0)) de_int) de_str (nomark _)))))) (dss_one (ds_ret de_non)) dss_nil)
    (dss_one (ds_ret (de_if (dt_cmp do_le (de_callTy dc_int (by rfl) T.int b_int (da_cons (de_var (pv 0)) da_nil)) (de_gintE (by rfl) T.g_MOST_SIZE) (nomark _)) (de_callTy dc_int (by rfl) T.int b_int (da_cons (de_var (pv 0)) da_nil)) de_non))))
theorem ok_parsed_word {f : Addr} {fd : FuncData} {dvs : List V} {kws : List (Str × V)} (F : FunD K "parsed_word" "parsed_word" (defArgs s_parsed_word) (defBody s_parsed_word) (defScope s_parsed_word) dvs kws f fd) (M_Word : MkD P w K mg base 1 "Word" ci_Word) (G_written : FnD P w K mg base 1 "written" c_written) : FnOk P w K mg base (L2.CX P w) 3 f fd ["text"] (spD ⟨K, mg⟩ c_parsed_word) := by
  have nd := sc_parsed_word.nd
  refine fnD_mk F sc_parsed_word (fun ds k kx h => ?_) (fun cdv A outer s H E kx hr => ⟨(w_parsed_word kx), ?_, fun ds kk h => p_parsed_word ds kk kx h⟩)
  · exact n_parsed_word h
  · exact (dss_cons (ds_if (dt_cmp (do_in (u2 hr)) (de_var (pv 0)) (de_tup (da_cons de_str (da_cons de_str da_nil))) rfl) (dss_one (ds_ret (de_make M_Word (hr.mono (by decide)) (by rfl) (da_cons (de_var (pv 0)) (da_cons de_int da_nil))))) dss_nil)
    (dss_cons (ds_for (passes_of rfl) rfl (di_tup (de_tup (da_cons (de_tup (da_cons de_str (da_cons de_str da_nil))) (da_cons (de_tup (da_cons de_str (da_cons de_str da_nil))) (da_cons (de_tup (da_cons de_str (da_cons de_str da_nil))) da_nil))))) (dg_tup (by rfl) (dgs_cons (dg_name (pg_name (i := 1) nd rfl (by first | exact Or.inl rfl | exact Or.inr rfl))) (dgs_cons (dg_name (pg_name (i := 2) nd rfl (by first | exact Or.inl rfl | exact Or.inr rfl))) dgs_nil))) (dss_one (ds_if (dt_truth (de_bm PySem.F.plainAttrs_str PySem.F.slot_str_startswith PySem.F.type_str_startswith dm_starts (de_var (pv 0)) (da_cons (de_op do_add (de_var (pv 1)) (de_var (pv 2))) da_nil))) (dss_cons (ds_set nd (i := 3) (by rfl) (by first | exact Or.inl rfl | exact Or.inr rfl) (de_call G_written (hr.mono (by decide)) (by rfl) (da_cons (de_sl (de_var (pv 0)) (do_some (de_op do_add (de_callB dc_len (by rfl) T.len b_len (da_cons (de_var (pv 1)) da_nil)) de_int)) do_none) da_nil)))
    (dss_one (ds_ret (de_if (dt_cmp do_is (de_var (pv 3)) de_non (nomark _)) de_non (de_make M_Word (hr.mono (by decide)) (by rfl) (da_cons (de_var (pv 1)) (da_cons (de_if (dt_cmp (do_eq hr.units) (de_var (pv 2)) de_str (nomark _)) (de_var (pv 3)) (de_un du_neg (de_var (pv 3)))) da_nil))))))) dss_nil)))
    (dss_cons (ds_set nd (i := 4) (by rfl) (by first | exact Or.inl rfl | exact Or.inr rfl) (de_call G_written (hr.mono (by decide)) (by rfl) (da_cons (de_var (pv 0)) da_nil)))
    (dss_one (ds_ret (de_if (dt_cmp do_is (de_var (pv 4)) de_non (nomark _)) de_non (de_make M_Word (hr.mono (by decide)) (by rfl) (da_cons de_str (da_cons (de_var (pv 4)) da_nil)))))))))
theorem ok_parsed_option {f : Addr} {fd : FuncData} {dvs : List V} {kws : List (Str × V)} (F : FunD K "parsed_option" "parsed_option" (defArgs s_parsed_option) (defBody s_parsed_option) (defScope s_parsed_option) dvs kws f fd) (M_Word : MkD P w K mg base 1 "Word" ci_Word) (G_parsed_word : FnD P w K mg base 3 "parsed_word" c_parsed_word) : FnOk P w K mg base (L2.CX P w) 4 f fd ["text", "names"] (spD ⟨K, mg⟩ c_parsed_option) := by
  have nd := sc_parsed_option.nd
  refine fnD_mk F sc_parsed_option (fun ds k kx h => ?_) (fun cdv A outer s H E kx hr => ⟨(w_parsed_option kx), ?_, fun ds kk h => p_parsed_option ds kk kx h⟩)
  · exact n_parsed_option h
  · exact (dss_cons (ds_if (dt_not (dt_truth (de_isi (by rfl) T.isinstance (by rfl) T.str b_str (de_var (pv 0)) (hb := b_isinstance)))) (dss_one (ds_ret de_non)) dss_nil)
    (dss_cons (ds_own nd (i := 2) (by rfl) (by first | exact Or.inl rfl | exact Or.inr rfl) df_dct)
    (dss_cons (ds_for (passes_of rfl) rfl (di_list (de_bm PySem.F.plainAttrs_str PySem.F.slot_str_split PySem.F.type_str_split dm_split (de_var (pv 0)) (da_cons de_str da_nil))) (dg_name (pg_name (i := 3) nd rfl (by first | exact Or.inl rfl | exact Or.inr rfl))) (dss_cons (ds_set nd (i := 4) (by rfl) (by first | exact Or.inl rfl | exact Or.inr rfl) (de_bm PySem.F.plainAttrs_str PySem.F.slot_str_split PySem.F.type_str_split dm_split (de_var (pv 3)) (da_cons de_str da_nil)))
    (dss_cons (ds_set nd (i := 5) (by rfl) (by first | exact Or.inl rfl | exact Or.inr rfl) (de_call G_parsed_word (hr.mono (by decide)) (by rfl) (da_cons (de_ix (de_var (pv 4)) de_int) da_nil)))
    (dss_cons (ds_if (DW.dt (dw_or (dt_cmp (do_ne hr.units) (de_callB dc_len (by rfl) T.len b_len (da_cons (de_var (pv 4)) da_nil)) de_int (nomark _)) (dw_or (dt_cmp do_is (de_var (pv 5)) de_non (nomark _)) (dw_or (dt_cmp (do_notIn (u2 hr)) (de_ix (de_var (pv 4)) de_int) (de_var (pv 1)) rfl) (dw_or1 (dt_bor (dt_cmp (do_in (u2 hr)) (de_ix (de_var (pv 4)) de_int) (de_var (pv 2)) rfl))))))) (dss_one (ds_ret de_non)) dss_nil)
    (dss_one (ds_dput (u1 hr) (pv 2) (de_ix (de_var (pv 4)) de_int) (de_var (pv 5))))))))
    (dss_one (ds_ret (de_callTy dc_tuple (by rfl) T.tuple b_tuple (da_cons (DF.de (df_lc (own := [("name", 6)]) (g := (gN 6)) (wt := wYes) (we := (wDGet2 (wVar 2) (wVar 6) (wMake "Word" ci_Word no (wCons (wC (.str "number")) (wCons (wC (.int 0)) wNil))))) rfl nd (di_list (de_var (pv 1))) (blkOk_by (by first | decide +kernel | kernel_rfl)) (fun _ _ _ _ _ => (dg_name (pg_name (i := 6) nd rfl (by first | exact Or.inl rfl | exact Or.inr rfl)))) (fun _ _ _ _ _ => dts_nil) (fun _ _ _ _ _ => (de_dget2 (u1 hr) (de_var (pv 2)) (de_var (pv 6)) (de_make M_Word (hr.mono (by decide)) (by rfl) (da_cons de_str (da_cons de_int da_nil))) ⟨rfl, rfl, rfl, rfl⟩)) (by decide))) da_nil)))))))
theorem ok_is_lot {f : Addr} {fd : FuncData} {dvs : List V} {kws : List (Str × V)} (F : FunD K "is_lot" "is_lot" (defArgs s_is_lot) (defBody s_is_lot) (defScope s_is_lot) dvs kws f fd) (G_is_integer : FnD P w K mg base 1 "is_integer" c_is_integer) (G_is_name : FnD P w K mg base 1 "is_name" c_is_name) : FnOk P w K mg base (L2.CX P w) 2 f fd ["value", "taken"] (spD ⟨K, mg⟩ c_is_lot) := by
  have nd := sc_is_lot.nd
  refine fnD_mk F sc_is_lot (fun ds k kx h => ?_) (fun cdv A outer s H E kx hr => ⟨(w_is_lot kx), ?_, fun ds kk h => p_is_lot ds kk kx h⟩)
  · exact n_is_lot h
  · exact (dss_cons (ds_if (DW.dt (dw_or (dt_not (dt_truth (de_isi (by rfl) T.isinstance (by rfl) T.tuple b_tuple (de_var (pv 0)) (hb := b_isinstance)))) (dw_or (dt_cmp (do_ne hr.units) (de_callB dc_len (by rfl) T.len b_len (da_cons (de_var (pv 0)) da_nil)) de_int (nomark _)) (dw_or (dt_not (dt_truth (de_call G_is_name (hr.mono (by decide)) (by rfl) (da_cons (de_ix (de_var (pv 0)) de_int) da_nil)))) (dw_or1 (dt_cmp (do_in (u2 hr)) (de_ix (de_var (pv 0)) de_int) (de_var (pv 1)) rfl)))))) (dss_one (ds_ret de_bl)) dss_nil)
    (dss_cons (ds_if (DW.dt (dw_or (dt_not (dt_truth (de_call G_is_integer (hr.mono (by decide)) (by rfl) (da_cons (de_ix (de_var (pv 0)) de_int) da_nil)))) (dw_or1 (dt_not (dt_chain do_le do_le de_int (de_ix (de_var (pv 0)) de_int) (de_gintE (by rfl) T.g_MOST_SIZE)))))) (dss_one (ds_ret de_bl)) dss_nil)
    (dss_one (ds_ret (de_or (de_cmp do_is (de_ix (de_var (pv 0)) de_int) de_non (nomark _)) (de_one (de_and (de_call G_is_integer (hr.mono (by decide)) (by rfl) (da_cons (de_ix (de_var (pv 0)) de_int) da_nil)) (de_one (de_chain do_le do_le (de_ix (de_var (pv 0)) de_int) (de_ix (de_var (pv 0)) de_int) (de_gintE (by rfl) T.g_MOST_SIZE))))))))))
theorem ok_check_lots {f : Addr} {fd : FuncData} {dvs : List V} {kws : List (Str × V)} (F : FunD K "check_lots" "check_lots" (defArgs s_check_lots) (defBody s_check_lots) (defScope s_check_lots) dvs kws f fd) (G_is_lot : FnD P w K mg base 2 "is_lot" c_is_lot) : FnOk P w K mg base (L2.CX P w) 3 f fd ["value"] (spD ⟨K, mg⟩ c_check_lots) := by
  have nd := sc_check_lots.nd
  refine fnD_mk F sc_check_lots (fun ds k kx h => ?_) (fun cdv A outer s H E kx hr => ⟨(w_check_lots kx), ?_, fun ds kk h => p_check_lots ds kk kx h⟩)
  · exact n_check_lots h
  · exact (dss_cons (ds_if (DW.dt (dw_or (dt_not (dt_truth (de_isi (by rfl) T.isinstance (by rfl) T.tuple b_tuple (de_var (pv 0)) (hb := b_isinstance)))) (dw_or1 (dt_cmp (do_eq hr.units) (de_callB dc_len (by rfl) T.len b_len (da_cons (de_var (pv 0)) da_nil)) de_int (nomark _))))) (dss_one ds_dead) dss_nil)
    (dss_cons (ds_own nd (i := 1) (by rfl) (by first | exact Or.inl rfl | exact Or.inr rfl) (df_lst da_nil))
    (dss_one (ds_for (passes_of rfl) rfl (di_enum (by rfl) T.enumerate (da_cons (de_var (pv 0)) da_nil)) (dg_tup (by rfl) (dgs_cons (dg_name (pg_name (i := 2) nd rfl (by first | exact Or.inl rfl | exact Or.inr rfl))) (dgs_cons (dg_name (pg_name (i := 3) nd rfl (by first | exact Or.inl rfl | exact Or.inr rfl))) dgs_nil))) (dss_cons (ds_if (DW.dt (dw_or (dt_cmp (do_eq hr.units) (de_var (pv 2)) (de_gintE (by rfl) T.g_MOST_LOTS) (nomark _)) (dw_or1 (dt_not (dt_truth (de_bor (de_call G_is_lot (hr.mono (by decide)) (by rfl) (da_cons (de_var (pv 3)) (da_cons (de_var (pv 1)) da_nil))))))))) (dss_one ds_dead) dss_nil)
    (dss_one (ds_expr (de_append (pv 1) (de_ix (de_var (pv 3)) de_int)))))))))
theorem ok_parsed_options {f : Addr} {fd : FuncData} {dvs : List V} {kws : List (Str × V)} (F : FunD K "parsed_options" "parsed_options" (defArgs s_parsed_options) (defBody s_parsed_options) (defScope s_parsed_options) dvs kws f fd) (G_parsed_option : FnD P w K mg base 4 "parsed_option" c_parsed_option) : FnOk P w K mg base (L2.CX P w) 5 f fd ["value", "names"] (spD ⟨K, mg⟩ c_parsed_options) := by
  have nd := sc_parsed_options.nd
  refine fnD_mk F sc_parsed_options (fun ds k kx h => ?_) (fun cdv A outer s H E kx hr => ⟨(w_parsed_options kx), ?_, fun ds kk h => p_parsed_options ds kk kx h⟩)
  · exact n_parsed_options h
  · exact (dss_cons (ds_if (DW.dt (dw_or (dt_not (dt_truth (de_isi (by rfl) T.isinstance (by rfl) T.tuple b_tuple (de_var (pv 0)) (hb := b_isinstance)))) (dw_or1 (dt_not (dt_chain do_le do_le de_int (de_callB dc_len (by rfl) T.len b_len (da_cons (de_var (pv 0)) da_nil)) (de_gintE (by rfl) T.g_MOST_OPTIONS)))))) (dss_one (ds_ret de_non)) dss_nil)
    (dss_cons (ds_setLc (i := 2) (own := [("text", 3)]) (g := (gN 3)) (wt := wYes) (we := (wCall c_parsed_option no (wCons (wVar 3) (wCons (wVar 1) wNil)))) rfl nd rfl rfl (sw_true rfl rfl rfl (by decide +kernel)) (di_tup (de_var (pv 0))) (blkOk_by (by first | decide +kernel | kernel_rfl)) (fun _ _ _ _ _ => (dg_name (pg_name (i := 3) nd rfl (by first | exact Or.inl rfl | exact Or.inr rfl)))) (fun _ _ _ _ _ => dts_nil) (fun _ _ _ _ _ => (de_call G_parsed_option (hr.mono (by decide)) (by rfl) (da_cons (de_var (pv 3)) (da_cons (de_var (pv 1)) da_nil)))) (by decide))
    (dss_one (ds_ret (de_if (dt_cmp (do_in (u2 hr)) de_non (de_var (pv 2)) rfl) de_non (de_var (pv 2)))))))
theorem ok_check_rules {f : Addr} {fd : FuncData} {dvs : List V} {kws : List (Str × V)} (F : FunD K "check_rules" "check_rules" (defArgs s_check_rules) (defBody s_check_rules) (defScope s_check_rules) dvs kws f fd) (G_is_name : FnD P w K mg base 1 "is_name" c_is_name) (G_parsed_options : FnD P w K mg base 5 "parsed_options" c_parsed_options) : FnOk P w K mg base (L2.CX P w) 6 f fd ["names", "value"] (spD ⟨K, mg⟩ c_check_rules) := by
  have nd := sc_check_rules.nd
  refine fnD_mk F sc_check_rules (fun ds k kx h => ?_) (fun cdv A outer s H E kx hr => ⟨(w_check_rules kx), ?_, fun ds kk h => p_check_rules ds kk kx h⟩)
  · exact n_check_rules h
  · exact (dss_cons (ds_if (DW.dt (dw_or (dt_not (dt_truth (de_isi (by rfl) T.isinstance (by rfl) T.tuple b_tuple (de_var (pv 1)) (hb := b_isinstance)))) (dw_or1 (dt_cmp (do_eq hr.units) (de_callB dc_len (by rfl) T.len b_len (da_cons (de_var (pv 1)) da_nil)) de_int (nomark _))))) (dss_one ds_dead) dss_nil)
    (dss_cons (ds_own nd (i := 2) (by rfl) (by first | exact Or.inl rfl | exact Or.inr rfl) df_dct)
    (dss_cons (ds_for (passes_of rfl) rfl (di_enum (by rfl) T.enumerate (da_cons (de_var (pv 1)) da_nil)) (dg_tup (by rfl) (dgs_cons (dg_name (pg_name (i := 3) nd rfl (by first | exact Or.inl rfl | exact Or.inr rfl))) (dgs_cons (dg_name (pg_name (i := 4) nd rfl (by first | exact Or.inl rfl | exact Or.inr rfl))) dgs_nil))) (dss_cons (ds_if (DW.dt (dw_or (dt_cmp (do_eq hr.units) (de_var (pv 3)) (de_gintE (by rfl) T.g_MOST_RULES) (nomark _)) (dw_or (dt_not (dt_truth (de_isi (by rfl) T.isinstance (by rfl) T.tuple b_tuple (de_var (pv 4)) (hb := b_isinstance)))) (dw_or (dt_cmp (do_ne hr.units) (de_callB dc_len (by rfl) T.len b_len (da_cons (de_var (pv 4)) da_nil)) de_int (nomark _)) (dw_or1 (dt_not (dt_truth (de_call G_is_name (hr.mono (by decide)) (by rfl) (da_cons (de_ix (de_var (pv 4)) de_int) da_nil))))))))) (dss_one ds_dead) dss_nil)
    (dss_cons (ds_set nd (i := 5) (by rfl) (by first | exact Or.inl rfl | exact Or.inr rfl) (de_call G_parsed_options (hr.mono (by decide)) (by rfl) (da_cons (de_ix (de_var (pv 4)) de_int) (da_cons (de_var (pv 0)) da_nil))))
    (dss_cons (ds_if (DW.dt (dw_or (dt_cmp do_is (de_var (pv 5)) de_non (nomark _)) (dw_or1 (dt_bor (dt_cmp (do_in (u2 hr)) (de_ix (de_var (pv 4)) de_int) (de_var (pv 2)) rfl))))) (dss_one ds_dead) dss_nil)
    (dss_one (ds_dput (u1 hr) (pv 2) (de_ix (de_var (pv 4)) de_int) (de_var (pv 5))))))))
    (dss_one (ds_ret (de_var (pv 2)))))))
theorem ok_check_lies {f : Addr} {fd : FuncData} {dvs : List V} {kws : List (Str × V)} (F : FunD K "check_lies" "check_lies" (defArgs s_check_lies) (defBody s_check_lies) (defScope s_check_lies) dvs kws f fd) (G_parsed_option : FnD P w K mg base 4 "parsed_option" c_parsed_option) : FnOk P w K mg base (L2.CX P w) 5 f fd ["names", "value"] (spD ⟨K, mg⟩ c_check_lies) := by
  have nd := sc_check_lies.nd
  refine fnD_mk F sc_check_lies (fun ds k kx h => ?_) (fun cdv A outer s H E kx hr => ⟨(w_check_lies kx), ?_, fun ds kk h => p_check_lies ds kk kx h⟩)
  · exact n_check_lies h
  · exact (dss_cons (ds_if (dt_not (dt_truth (de_isi (by rfl) T.isinstance (by rfl) T.tuple b_tuple (de_var (pv 1)) (hb := b_isinstance)))) (dss_one ds_dead) dss_nil)
    (dss_cons (ds_own nd (i := 2) (by rfl) (by first | exact Or.inl rfl | exact Or.inr rfl) (df_lst da_nil))
    (dss_cons (ds_for (passes_of rfl) rfl (di_enum (by rfl) T.enumerate (da_cons (de_var (pv 1)) da_nil)) (dg_tup (by rfl) (dgs_cons (dg_name (pg_name (i := 3) nd rfl (by first | exact Or.inl rfl | exact Or.inr rfl))) (dgs_cons (dg_name (pg_name (i := 4) nd rfl (by first | exact Or.inl rfl | exact Or.inr rfl))) dgs_nil))) (dss_cons (ds_set nd (i := 5) (by rfl) (by first | exact Or.inl rfl | exact Or.inr rfl) (de_if (dt_cmp do_lt (de_var (pv 3)) (de_gintE (by rfl) T.g_MOST_OPTIONS) (nomark _)) (de_call G_parsed_option (hr.mono (by decide)) (by rfl) (da_cons (de_var (pv 4)) (da_cons (de_var (pv 0)) da_nil))) de_non))
    (dss_cons (ds_if (dt_cmp do_is (de_var (pv 5)) de_non (nomark _)) (dss_one ds_dead) dss_nil)
    (dss_one (ds_expr (de_append (pv 2) (de_var (pv 5))))))))
    (dss_one (ds_ret (de_var (pv 2)))))))
theorem ok_Plan___init__ {f : Addr} {fd : FuncData} {dvs : List V} {kws : List (Str × V)} (F : FunD K "__init__" "Plan.__init__" (defArgs s_Plan___init__) (defBody s_Plan___init__) (defScope s_Plan___init__) dvs kws f fd) (G_check_lies : FnD P w K mg base 5 "check_lies" c_check_lies) (G_check_lots : FnD P w K mg base 3 "check_lots" c_check_lots) (G_check_rules : FnD P w K mg base 6 "check_rules" c_check_rules) : FnOk P w K mg base (L2.CX P w) 7 f fd ["self", "lots", "rules", "lies"] (spI ⟨K, mg⟩ "Plan" ci_Plan) := by
  have nd := sc_Plan___init__.nd
  refine fnI_mk F sc_Plan___init__ (fun ds k kx h => ?_) (fun cdv A outer s H E kx hr => ⟨(w_Plan___init__ kx), ?_, fun ds kk h => p_Plan___init__ ds kk kx h⟩)
  · exact n_Plan___init__ h
  · exact (dss_cons (ds_expr (de_call G_check_lots (hr.mono (by decide)) (by rfl) (da_cons (de_var (pv 1)) da_nil)))
    (dss_cons (ds_fldI (cn := "Plan") T.f_Plan_lot_names (pv 0) (DF.de (df_lc (own := [("lot", 4)]) (g := (gN 4)) (wt := wYes) (we := (wOp dIx (wVar 4) (wC (.int 0)))) rfl nd (di_tup (de_var (pv 1))) (blkOk_by (by first | decide +kernel | kernel_rfl)) (fun _ _ _ _ _ => (dg_name (pg_name (i := 4) nd rfl (by first | exact Or.inl rfl | exact Or.inr rfl)))) (fun _ _ _ _ _ => dts_nil) (fun _ _ _ _ _ => (de_ix (de_var (pv 4)) de_int)) (by decide))))
    (dss_cons (ds_fldI (cn := "Plan") T.f_Plan_options (pv 0) (de_call G_check_rules (hr.mono (by decide)) (by rfl) (da_cons (de_fldS T.f_Plan_lot_names (pv 0)) (da_cons (de_var (pv 2)) da_nil))))
    (dss_cons (ds_fldI (cn := "Plan") T.f_Plan_lie_words (pv 0) (de_call G_check_lies (hr.mono (by decide)) (by rfl) (da_cons (de_fldS T.f_Plan_lot_names (pv 0)) (da_cons (de_var (pv 3)) da_nil))))
    (dss_cons (ds_fldI (cn := "Plan") T.f_Plan_held_lots (pv 0) (de_var (pv 1)))
    (dss_cons (ds_fldI (cn := "Plan") T.f_Plan_held_rules (pv 0) (de_var (pv 2)))
    (dss_one (ds_fldI (cn := "Plan") T.f_Plan_held_lies (pv 0) (de_var (pv 3))))))))))
theorem ok_Plan_lots {f : Addr} {fd : FuncData} {dvs : List V} {kws : List (Str × V)} (F : FunD K "lots" "Plan.lots" (defArgs s_Plan_lots) (defBody s_Plan_lots) (defScope s_Plan_lots) dvs kws f fd)  : FnOk P w K mg base (L2.CX P w) 1 f fd ["self"] (spD ⟨K, mg⟩ c_Plan_lots) := by
  have nd := sc_Plan_lots.nd
  refine fnD_mk F sc_Plan_lots (fun ds k kx h => ?_) (fun cdv A outer s H E kx hr => ⟨(w_Plan_lots kx), ?_, fun ds kk h => p_Plan_lots ds kk kx h⟩)
  · exact n_Plan_lots h
  · exact (dss_one (ds_ret (de_fld T.f_Plan_held_lots (de_var (pv 0)))))
theorem ok_numbers_of {f : Addr} {fd : FuncData} {dvs : List V} {kws : List (Str × V)} (F : FunD K "numbers_of" "numbers_of" (defArgs s_numbers_of) (defBody s_numbers_of) (defScope s_numbers_of) dvs kws f fd) (M_Word_number : MtD P w K mg base 1 "Word" "number" c_Word_number) : FnOk P w K mg base (L2.CX P w) 2 f fd ["option", "sizes"] (spD ⟨K, mg⟩ c_numbers_of) := by
  have nd := sc_numbers_of.nd
  refine fnD_mk F sc_numbers_of (fun ds k kx h => ?_) (fun cdv A outer s H E kx hr => ⟨(w_numbers_of kx), ?_, fun ds kk h => p_numbers_of ds kk kx h⟩)
  · exact n_numbers_of h
  · exact (dss_one (ds_ret (de_callTy dc_tuple (by rfl) T.tuple b_tuple (da_cons (DF.de (df_lc (own := [("word", 2), ("size", 3)]) (g := (gTupW 2 (gCons' (gN 2) (gCons' (gN 3) gNil')))) (wt := wYes) (we := (wMeth "Word" "number" c_Word_number no (wVar 2) (wCons (wVar 3) wNil))) rfl nd (di_zip (by rfl) T.zip (da_cons (de_var (pv 0)) (da_cons (de_var (pv 1)) da_nil))) (blkOk_by (by first | decide +kernel | kernel_rfl)) (fun _ _ _ _ _ => (dg_tup (by rfl) (dgs_cons (dg_name (pg_name (i := 2) nd rfl (by first | exact Or.inl rfl | exact Or.inr rfl))) (dgs_cons (dg_name (pg_name (i := 3) nd rfl (by first | exact Or.inl rfl | exact Or.inr rfl))) dgs_nil)))) (fun _ _ _ _ _ => dts_nil) (fun _ _ _ _ _ => (de_meth M_Word_number (hr.mono (by decide)) (de_var (pv 2)) (da_cons (de_var (pv 3)) da_nil))) (by decide))) da_nil))))
theorem ok_is_above {f : Addr} {fd : FuncData} {dvs : List V} {kws : List (Str × V)} (F : FunD K "is_above" "is_above" (defArgs s_is_above) (defBody s_is_above) (defScope s_is_above) dvs kws f fd)  : FnOk P w K mg base (L2.CX P w) 1 f fd ["numbers", "others"] (spD ⟨K, mg⟩ c_is_above) := by
  have nd := sc_is_above.nd
  refine fnD_mk F sc_is_above (fun ds k kx h => ?_) (fun cdv A outer s H E kx hr => ⟨(w_is_above kx), ?_, fun ds kk h => p_is_above ds kk kx h⟩)
  · exact n_is_above h
  · exact (dss_one (ds_ret (de_callB (dc_any rfl) (by rfl) T.any b_any (da_cons (DF.de (df_lc (own := [("number", 2), ("other", 3)]) (g := (gTupW 2 (gCons' (gN 2) (gCons' (gN 3) gNil')))) (wt := wYes) (we := (wOp dGt (wVar 2) (wVar 3))) rfl nd (di_zip (by rfl) T.zip (da_cons (de_var (pv 0)) (da_cons (de_var (pv 1)) da_nil))) (blkOk_by (by first | decide +kernel | kernel_rfl)) (fun _ _ _ _ _ => (dg_tup (by rfl) (dgs_cons (dg_name (pg_name (i := 2) nd rfl (by first | exact Or.inl rfl | exact Or.inr rfl))) (dgs_cons (dg_name (pg_name (i := 3) nd rfl (by first | exact Or.inl rfl | exact Or.inr rfl))) dgs_nil)))) (fun _ _ _ _ _ => dts_nil) (fun _ _ _ _ _ => (de_cmp do_gt (de_var (pv 2)) (de_var (pv 3)) (nomark _))) (by decide))) da_nil))))
theorem ok_has_quorum {f : Addr} {fd : FuncData} {dvs : List V} {kws : List (Str × V)} (F : FunD K "has_quorum" "has_quorum" (defArgs s_has_quorum) (defBody s_has_quorum) (defScope s_has_quorum) dvs kws f fd) (G_is_above : FnD P w K mg base 1 "is_above" c_is_above) (G_numbers_of : FnD P w K mg base 2 "numbers_of" c_numbers_of) : FnOk P w K mg base (L2.CX P w) 3 f fd ["plan", "rule", "sizes", "counts"] (spD ⟨K, mg⟩ c_has_quorum) := by
  have nd := sc_has_quorum.nd
  refine fnD_mk F sc_has_quorum (fun ds k kx h => ?_) (fun cdv A outer s H E kx hr => ⟨(w_has_quorum kx), ?_, fun ds kk h => p_has_quorum ds kk kx h⟩)
  · exact n_has_quorum h
  · exact (dss_one (ds_ret (de_callB (dc_any rfl) (by rfl) T.any b_any (da_cons (DF.de (df_lc (own := [("option", 4)]) (g := (gN 4)) (wt := wYes) (we := (wNotV (wCall c_is_above no (wCons (wCall c_numbers_of no (wCons (wVar 4) (wCons (wVar 2) wNil))) (wCons (wVar 3) wNil))))) rfl nd (di_list (de_dget (u1 hr) (de_fld T.f_Plan_options (de_var (pv 0))) (de_var (pv 1)))) (blkOk_by (by first | decide +kernel | kernel_rfl)) (fun _ _ _ _ _ => (dg_name (pg_name (i := 4) nd rfl (by first | exact Or.inl rfl | exact Or.inr rfl)))) (fun _ _ _ _ _ => dts_nil) (fun _ _ _ _ _ => (de_not (de_call G_is_above (hr.mono (by decide)) (by rfl) (da_cons (de_call G_numbers_of (hr.mono (by decide)) (by rfl) (da_cons (de_var (pv 4)) (da_cons (de_var (pv 2)) da_nil))) (da_cons (de_var (pv 3)) da_nil))))) (by decide))) da_nil))))
theorem ok_is_rule {f : Addr} {fd : FuncData} {dvs : List V} {kws : List (Str × V)} (F : FunD K "is_rule" "is_rule" (defArgs s_is_rule) (defBody s_is_rule) (defScope s_is_rule) dvs kws f fd)  : FnOk P w K mg base (L2.CX P w) 1 f fd ["plan", "value"] (spD ⟨K, mg⟩ c_is_rule) := by
  have nd := sc_is_rule.nd
  refine fnD_mk F sc_is_rule (fun ds k kx h => ?_) (fun cdv A outer s H E kx hr => ⟨(w_is_rule kx), ?_, fun ds kk h => p_is_rule ds kk kx h⟩)
  · exact n_is_rule h
  · exact (dss_one (ds_ret (de_and (de_isi (by rfl) T.isinstance (by rfl) T.str b_str (de_var (pv 1)) (hb := b_isinstance)) (de_one (de_cmp (do_in (u2 hr)) (de_var (pv 1)) (de_fld T.f_Plan_options (de_var (pv 0))) rfl)))))
theorem ok_check_rule {f : Addr} {fd : FuncData} {dvs : List V} {kws : List (Str × V)} (F : FunD K "check_rule" "check_rule" (defArgs s_check_rule) (defBody s_check_rule) (defScope s_check_rule) dvs kws f fd) (G_is_rule : FnD P w K mg base 1 "is_rule" c_is_rule) : FnOk P w K mg base (L2.CX P w) 2 f fd ["plan", "value"] (spD ⟨K, mg⟩ c_check_rule) := by
  have nd := sc_check_rule.nd
  refine fnD_mk F sc_check_rule (fun ds k kx h => ?_) (fun cdv A outer s H E kx hr => ⟨(w_check_rule kx), ?_, fun ds kk h => p_check_rule ds kk kx h⟩)
  · exact n_check_rule h
  · exact (dss_one (ds_if (dt_not (dt_truth (de_call G_is_rule (hr.mono (by decide)) (by rfl) (da_cons (de_var (pv 0)) (da_cons (de_var (pv 1)) da_nil))))) (dss_one ds_dead) dss_nil))
theorem ok_is_size {f : Addr} {fd : FuncData} {dvs : List V} {kws : List (Str × V)} (F : FunD K "is_size" "is_size" (defArgs s_is_size) (defBody s_is_size) (defScope s_is_size) dvs kws f fd) (G_is_integer : FnD P w K mg base 1 "is_integer" c_is_integer) : FnOk P w K mg base (L2.CX P w) 2 f fd ["lot", "value"] (spD ⟨K, mg⟩ c_is_size) := by
  have nd := sc_is_size.nd
  refine fnD_mk F sc_is_size (fun ds k kx h => ?_) (fun cdv A outer s H E kx hr => ⟨(w_is_size kx), ?_, fun ds kk h => p_is_size ds kk kx h⟩)
  · exact n_is_size h
  · exact (dss_one (ds_ret (de_and (de_call G_is_integer (hr.mono (by decide)) (by rfl) (da_cons (de_var (pv 1)) da_nil)) (de_and (de_cmp do_le (de_ix (de_var (pv 0)) de_int) (de_var (pv 1)) (nomark _)) (de_one (de_or (de_cmp do_is (de_ix (de_var (pv 0)) de_int) de_non (nomark _)) (de_one (de_cmp do_le (de_var (pv 1)) (de_ix (de_var (pv 0)) de_int) (nomark _)))))))))
theorem ok_are_sizes {f : Addr} {fd : FuncData} {dvs : List V} {kws : List (Str × V)} (F : FunD K "are_sizes" "are_sizes" (defArgs s_are_sizes) (defBody s_are_sizes) (defScope s_are_sizes) dvs kws f fd) (R_Plan_lots : PrD P w K mg base 1 "Plan" "lots" c_Plan_lots) (G_is_size : FnD P w K mg base 2 "is_size" c_is_size) : FnOk P w K mg base (L2.CX P w) 3 f fd ["plan", "value"] (spD ⟨K, mg⟩ c_are_sizes) := by
  have nd := sc_are_sizes.nd
  refine fnD_mk F sc_are_sizes (fun ds k kx h => ?_) (fun cdv A outer s H E kx hr => ⟨(w_are_sizes kx), ?_, fun ds kk h => p_are_sizes ds kk kx h⟩)
  · exact n_are_sizes h
  · exact (dss_cons (ds_if (DW.dt (dw_or (dt_not (dt_truth (de_isi (by rfl) T.isinstance (by rfl) T.tuple b_tuple (de_var (pv 1)) (hb := b_isinstance)))) (dw_or1 (dt_cmp (do_ne hr.units) (de_callB dc_len (by rfl) T.len b_len (da_cons (de_var (pv 1)) da_nil)) (de_callB dc_len (by rfl) T.len b_len (da_cons (de_prop (R_Plan_lots) (hr.mono (by decide)) (de_var (pv 0))) da_nil)) (nomark _))))) (dss_one (ds_ret de_bl)) dss_nil)
    (dss_one (ds_ret (de_callB (dc_all rfl) (by rfl) T.all b_all (da_cons (DF.de (df_lc (own := [("lot", 2), ("size", 3)]) (g := (gTupW 2 (gCons' (gN 2) (gCons' (gN 3) gNil')))) (wt := wYes) (we := (wCall c_is_size no (wCons (wVar 2) (wCons (wVar 3) wNil)))) rfl nd (di_zip (by rfl) T.zip (da_cons (de_prop (R_Plan_lots) (hr.mono (by decide)) (de_var (pv 0))) (da_cons (de_var (pv 1)) da_nil))) (blkOk_by (by first | decide +kernel | kernel_rfl)) (fun _ _ _ _ _ => (dg_tup (by rfl) (dgs_cons (dg_name (pg_name (i := 2) nd rfl (by first | exact Or.inl rfl | exact Or.inr rfl))) (dgs_cons (dg_name (pg_name (i := 3) nd rfl (by first | exact Or.inl rfl | exact Or.inr rfl))) dgs_nil)))) (fun _ _ _ _ _ => dts_nil) (fun _ _ _ _ _ => (de_call G_is_size (hr.mono (by decide)) (by rfl) (da_cons (de_var (pv 2)) (da_cons (de_var (pv 3)) da_nil)))) (by decide))) da_nil)))))
theorem ok_check_sizes {f : Addr} {fd : FuncData} {dvs : List V} {kws : List (Str × V)} (F : FunD K "check_sizes" "check_sizes" (defArgs s_check_sizes) (defBody s_check_sizes) (defScope s_check_sizes) dvs kws f fd) (G_are_sizes : FnD P w K mg base 3 "are_sizes" c_are_sizes) : FnOk P w K mg base (L2.CX P w) 4 f fd ["plan", "value"] (spD ⟨K, mg⟩ c_check_sizes) := by
  have nd := sc_check_sizes.nd
  refine fnD_mk F sc_check_sizes (fun ds k kx h => ?_) (fun cdv A outer s H E kx hr => ⟨(w_check_sizes kx), ?_, fun ds kk h => p_check_sizes ds kk kx h⟩)
  · exact n_check_sizes h
  · exact (dss_one (ds_if (dt_not (dt_truth (de_call G_are_sizes (hr.mono (by decide)) (by rfl) (da_cons (de_var (pv 0)) (da_cons (de_var (pv 1)) da_nil))))) (dss_one ds_dead) dss_nil))
theorem ok_are_counts {f : Addr} {fd : FuncData} {dvs : List V} {kws : List (Str × V)} (F : FunD K "are_counts" "are_counts" (defArgs s_are_counts) (defBody s_are_counts) (defScope s_are_counts) dvs kws f fd) (G_is_integer : FnD P w K mg base 1 "is_integer" c_is_integer) : FnOk P w K mg base (L2.CX P w) 2 f fd ["sizes", "value"] (spD ⟨K, mg⟩ c_are_counts) := by
  have nd := sc_are_counts.nd
  refine fnD_mk F sc_are_counts (fun ds k kx h => ?_) (fun cdv A outer s H E kx hr => ⟨(w_are_counts kx), ?_, fun ds kk h => p_are_counts ds kk kx h⟩)
  · exact n_are_counts h
  · exact (dss_cons (ds_if (DW.dt (dw_or (dt_not (dt_truth (de_isi (by rfl) T.isinstance (by rfl) T.tuple b_tuple (de_var (pv 1)) (hb := b_isinstance)))) (dw_or1 (dt_cmp (do_ne hr.units) (de_callB dc_len (by rfl) T.len b_len (da_cons (de_var (pv 1)) da_nil)) (de_callB dc_len (by rfl) T.len b_len (da_cons (de_var (pv 0)) da_nil)) (nomark _))))) (dss_one (ds_ret de_bl)) dss_nil)
    (dss_one (ds_ret (de_callB (dc_all rfl) (by rfl) T.all b_all (da_cons (DF.de (df_lc (own := [("count", 2), ("size", 3)]) (g := (gTupW 2 (gCons' (gN 2) (gCons' (gN 3) gNil')))) (wt := wYes) (we := (wAndV (wCall c_is_integer no (wCons (wVar 2) wNil)) (wChain dLe dLe (wC (.int 0)) (wVar 2) (wVar 3)))) rfl nd (di_zip (by rfl) T.zip (da_cons (de_var (pv 1)) (da_cons (de_var (pv 0)) da_nil))) (blkOk_by (by first | decide +kernel | kernel_rfl)) (fun _ _ _ _ _ => (dg_tup (by rfl) (dgs_cons (dg_name (pg_name (i := 2) nd rfl (by first | exact Or.inl rfl | exact Or.inr rfl))) (dgs_cons (dg_name (pg_name (i := 3) nd rfl (by first | exact Or.inl rfl | exact Or.inr rfl))) dgs_nil)))) (fun _ _ _ _ _ => dts_nil) (fun _ _ _ _ _ => (de_and (de_call G_is_integer (hr.mono (by decide)) (by rfl) (da_cons (de_var (pv 2)) da_nil)) (de_one (de_chain do_le do_le de_int (de_var (pv 2)) (de_var (pv 3)))))) (by decide))) da_nil)))))
theorem ok_check_counts {f : Addr} {fd : FuncData} {dvs : List V} {kws : List (Str × V)} (F : FunD K "check_counts" "check_counts" (defArgs s_check_counts) (defBody s_check_counts) (defScope s_check_counts) dvs kws f fd) (G_are_counts : FnD P w K mg base 2 "are_counts" c_are_counts) : FnOk P w K mg base (L2.CX P w) 3 f fd ["sizes", "value"] (spD ⟨K, mg⟩ c_check_counts) := by
  have nd := sc_check_counts.nd
  refine fnD_mk F sc_check_counts (fun ds k kx h => ?_) (fun cdv A outer s H E kx hr => ⟨(w_check_counts kx), ?_, fun ds kk h => p_check_counts ds kk kx h⟩)
  · exact n_check_counts h
  · exact (dss_one (ds_if (dt_not (dt_truth (de_call G_are_counts (hr.mono (by decide)) (by rfl) (da_cons (de_var (pv 0)) (da_cons (de_var (pv 1)) da_nil))))) (dss_one ds_dead) dss_nil))
theorem ok_Plan_is_quorum {f : Addr} {fd : FuncData} {dvs : List V} {kws : List (Str × V)} (F : FunD K "is_quorum" "Plan.is_quorum" (defArgs s_Plan_is_quorum) (defBody s_Plan_is_quorum) (defScope s_Plan_is_quorum) dvs kws f fd) (G_check_counts : FnD P w K mg base 3 "check_counts" c_check_counts) (G_check_rule : FnD P w K mg base 2 "check_rule" c_check_rule) (G_check_sizes : FnD P w K mg base 4 "check_sizes" c_check_sizes) (G_has_quorum : FnD P w K mg base 3 "has_quorum" c_has_quorum) : FnOk P w K mg base (L2.CX P w) 5 f fd ["self", "rule", "sizes", "counts"] (spD ⟨K, mg⟩ c_Plan_is_quorum) := by
  have nd := sc_Plan_is_quorum.nd
  refine fnD_mk F sc_Plan_is_quorum (fun ds k kx h => ?_) (fun cdv A outer s H E kx hr => ⟨(w_Plan_is_quorum kx), ?_, fun ds kk h => p_Plan_is_quorum ds kk kx h⟩)
  · exact n_Plan_is_quorum h
  · exact (dss_cons (ds_expr (de_call G_check_rule (hr.mono (by decide)) (by rfl) (da_cons (de_var (pv 0)) (da_cons (de_var (pv 1)) da_nil))))
    (dss_cons (ds_expr (de_call G_check_sizes (hr.mono (by decide)) (by rfl) (da_cons (de_var (pv 0)) (da_cons (de_var (pv 2)) da_nil))))
    (dss_cons (ds_expr (de_call G_check_counts (hr.mono (by decide)) (by rfl) (da_cons (de_var (pv 2)) (da_cons (de_var (pv 3)) da_nil))))
    (dss_one (ds_ret (de_call G_has_quorum (hr.mono (by decide)) (by rfl) (da_cons (de_var (pv 0)) (da_cons (de_var (pv 1)) (da_cons (de_var (pv 2)) (da_cons (de_var (pv 3)) da_nil))))))))))
theorem ok__law_purse {f : Addr} {fd : FuncData} {dvs : List V} {kws : List (Str × V)} (F : FunD K "_law_purse" "_law_purse" (defArgs s__law_purse) (defBody s__law_purse) (defScope s__law_purse) dvs kws f fd)  : FnG P w K mg base (L2.CX P w) 1 f fd ["_law_script", "_law_k"] (spF ⟨K, mg⟩ c__law_purse) := by
  have nd := sc__law_purse.nd
  refine fnF_mk F sc__law_purse (fun ds k kx h => ?_) (fun cdv A qa outer s H E hr => ⟨w__law_purse, ?_, fun ds kk h => p__law_purse ds kk h⟩)
  · exact n__law_purse h
  · exact (dss_cons (ds_if (dt_cmp do_lt (de_var (pv 1)) (de_callB dc_len (by rfl) T.len b_len (da_cons (de_var (pv 0)) da_nil)) (nomark _)) (dss_cons (ds_set nd (i := 2) (by rfl) (by first | exact Or.inl rfl | exact Or.inr rfl) (de_ix (de_var (pv 0)) (de_var (pv 1))))
    (dss_cons (ds_set nd (i := 3) (by rfl) (by first | exact Or.inl rfl | exact Or.inr rfl) (de_if (DW.dt (dw_or (dt_cmp do_lt (de_var (pv 2)) de_int (nomark _)) (dw_or1 (dt_cmp do_ge (de_var (pv 2)) (de_op do_pow de_int de_int) (nomark _))))) (de_callB dc_abs (by rfl) T.abs b_abs (da_cons (de_var (pv 2)) da_nil)) de_int))
    (dss_one (ds_retF (df_lst (da_cons (de_var (pv 3)) (da_cons (de_op do_mod (de_callTy dc_int (by rfl) T.int b_int (da_cons (de_op do_add (de_op do_add (de_op do_mul (de_var (pv 2)) de_int) (de_op do_mul de_int (de_var (pv 1)))) de_int) da_nil)) de_int) (da_cons de_int da_nil)))))))) dss_nil)
    (dss_cons (ds_set nd (i := 4) (by rfl) (by first | exact Or.inl rfl | exact Or.inr rfl) (de_op do_add (de_op do_mul de_int (de_var (pv 1))) de_int))
    (dss_cons (ds_for (passes_of rfl) rfl (di_list (de_sl (de_var (pv 0)) do_none (do_some de_int))) (dg_name (pg_name (i := 2) nd rfl (by first | exact Or.inl rfl | exact Or.inr rfl))) (dss_one (ds_set nd (i := 4) (by rfl) (by first | exact Or.inl rfl | exact Or.inr rfl) (de_op do_mod (de_callTy dc_int (by rfl) T.int b_int (da_cons (de_op do_add (de_op do_mul (de_var (pv 4)) de_int) (de_var (pv 2))) da_nil)) de_int))))
    (dss_one (ds_retF (df_lst (da_cons de_int (da_cons (de_var (pv 4)) (da_cons de_int da_nil)))))))))
theorem ok__law_draw {f : Addr} {fd : FuncData} {dvs : List V} {kws : List (Str × V)} (F : FunD K "_law_draw" "_law_draw" (defArgs s__law_draw) (defBody s__law_draw) (defScope s__law_draw) dvs kws f fd)  : FnG P w K mg base (L2.CX P w) 1 f fd ["_law_purse_here", "_law_size_here"] (spP ⟨K, mg⟩ c__law_draw) := by
  have nd := sc__law_draw.nd
  refine fnP_mk F sc__law_draw (fun ds k kx h => ?_) (fun cdv A qa outer s H E hr => ⟨w__law_draw, ?_, fun ds kk h => p__law_draw ds kk h⟩)
  · exact n__law_draw h
  · exact (dss_cons (ds_asg (de_op do_add (de_pix (kk := 2) (by decide) (pv 0)) de_int) (dg_pix (kk := 2) (by decide) (pv 0)))
    (dss_cons (ds_set nd (i := 2) (by rfl) (by first | exact Or.inl rfl | exact Or.inr rfl) (de_callTy dc_int (by rfl) T.int b_int (da_cons (de_pix (kk := 1) (by decide) (pv 0)) da_nil)))
    (dss_cons (ds_set nd (i := 3) (by rfl) (by first | exact Or.inl rfl | exact Or.inr rfl) (de_op do_mul (de_var (pv 2)) (de_op do_add (de_op do_mod (de_callTy dc_int (by rfl) T.int b_int (da_cons (de_var (pv 2)) da_nil)) de_int) de_int)))
    (dss_cons (ds_asg (de_op do_mod (de_callTy dc_int (by rfl) T.int b_int (da_cons (de_op do_add (de_op do_add (de_var (pv 3)) (de_op do_mul de_int (de_pix (kk := 2) (by decide) (pv 0)))) de_int) da_nil)) de_int) (dg_pix (kk := 1) (by decide) (pv 0)))
    (dss_cons (ds_if (dt_cmp do_gt (de_pix (kk := 0) (by decide) (pv 0)) de_int (nomark _)) (dss_cons (ds_asg (de_callB dc_divmod (by rfl) T.divmod b_divmod (da_cons (de_pix (kk := 0) (by decide) (pv 0)) (da_cons (de_var (pv 1)) da_nil))) (dg_tup (by rfl) (dgs_cons (dg_pix (kk := 0) (by decide) (pv 0)) (dgs_cons (dg_name (pg_name (i := 4) nd rfl (by first | exact Or.inl rfl | exact Or.inr rfl))) dgs_nil))))
    (dss_one (ds_ret (de_var (pv 4))))) dss_nil)
    (dss_one (ds_ret (de_op do_mod (de_callTy dc_int (by rfl) T.int b_int (da_cons (de_op do_fdiv (de_pix (kk := 1) (by decide) (pv 0)) de_int) da_nil)) (de_var (pv 1))))))))))
theorem ok__law_pick {f : Addr} {fd : FuncData} {dvs : List V} {kws : List (Str × V)} (F : FunD K "_law_pick" "_law_pick" (defArgs s__law_pick) (defBody s__law_pick) (defScope s__law_pick) dvs kws f fd) (G__law_draw : FnP P w K mg base 1 "_law_draw" c__law_draw) : FnG P w K mg base (L2.CX P w) 2 f fd ["_law_purse_here", "_law_menu"] (spP ⟨K, mg⟩ c__law_pick) := by
  have nd := sc__law_pick.nd
  refine fnP_mk F sc__law_pick (fun ds k kx h => ?_) (fun cdv A qa outer s H E hr => ⟨w__law_pick, ?_, fun ds kk h => p__law_pick ds kk h⟩)
  · exact n__law_pick h
  · exact (dss_one (ds_ret (de_ix (de_var (pv 1)) (de_callP G__law_draw qa (hr.mono (by decide)) rfl (pv 0) (da_cons (de_callB dc_len (by rfl) T.len b_len (da_cons (de_var (pv 1)) da_nil)) da_nil)))))
theorem ok__law_label {f : Addr} {fd : FuncData} {dvs : List V} {kws : List (Str × V)} (F : FunD K "_law_label" "_law_label" (defArgs s__law_label) (defBody s__law_label) (defScope s__law_label) dvs kws f fd) (G__law_draw : FnP P w K mg base 1 "_law_draw" c__law_draw) (G__law_pick : FnP P w K mg base 2 "_law_pick" c__law_pick) : FnG P w K mg base (L2.CX P w) 3 f fd ["_law_purse_here"] (spP ⟨K, mg⟩ c__law_label) := by
  have nd := sc__law_label.nd
  refine fnP_mk F sc__law_label (fun ds k kx h => ?_) (fun cdv A qa outer s H E hr => ⟨w__law_label, ?_, fun ds kk h => p__law_label ds kk h⟩)
  · exact n__law_label h
  · exact (dss_cons (ds_if (dt_cmp (do_eq hr.units) (de_callP G__law_draw qa (hr.mono (by decide)) rfl (pv 0) (da_cons de_int da_nil)) de_int (nomark _)) (dss_one (ds_ret (de_callP G__law_pick qa (hr.mono (by decide)) rfl (pv 0) (da_cons (DF.de (df_lst (da_cons de_str (da_cons de_str (da_cons de_str (da_cons de_str (da_cons de_str (da_cons de_str (da_cons de_str (da_cons de_str (da_cons de_str (da_cons de_str da_nil)))))))))))) da_nil)))) dss_nil)
    (dss_cons (ds_set nd (i := 1) (by rfl) (by first | exact Or.inl rfl | exact Or.inr rfl) de_str)
    (dss_cons (ds_set nd (i := 2) (by rfl) (by first | exact Or.inl rfl | exact Or.inr rfl) (de_ix (de_var (pv 1)) (de_callP G__law_draw qa (hr.mono (by decide)) rfl (pv 0) (da_cons de_int da_nil))))
    (dss_cons (ds_for (passes_of rfl) rfl (di_range1 (by rfl) T.range (da_cons (de_callP G__law_pick qa (hr.mono (by decide)) rfl (pv 0) (da_cons (DF.de (df_lst (da_cons de_int (da_cons de_int (da_cons de_int (da_cons de_int (da_cons de_int (da_cons de_int (da_cons de_int (da_cons de_int (da_cons de_int (da_cons de_int da_nil)))))))))))) da_nil)) da_nil)) (dg_name (pg_name (i := 3) nd rfl (by first | exact Or.inl rfl | exact Or.inr rfl))) (dss_one (ds_set nd (i := 2) (by rfl) (by first | exact Or.inl rfl | exact Or.inr rfl) (de_op do_add (de_var (pv 2)) (de_ix (de_op do_add (de_var (pv 1)) de_str) (de_callP G__law_draw qa (hr.mono (by decide)) rfl (pv 0) (da_cons de_int da_nil)))))))
    (dss_one (ds_ret (de_var (pv 2))))))))
theorem ok__law_labels {f : Addr} {fd : FuncData} {dvs : List V} {kws : List (Str × V)} (F : FunD K "_law_labels" "_law_labels" (defArgs s__law_labels) (defBody s__law_labels) (defScope s__law_labels) dvs kws f fd) (G__law_draw : FnP P w K mg base 1 "_law_draw" c__law_draw) (G__law_label : FnP P w K mg base 3 "_law_label" c__law_label) (G__law_pick : FnP P w K mg base 2 "_law_pick" c__law_pick) : FnG P w K mg base (L2.CX P w) 4 f fd ["_law_purse_here", "_law_many"] (spP ⟨K, mg⟩ c__law_labels) := by
  have nd := sc__law_labels.nd
  refine fnP_mk F sc__law_labels (fun ds k kx h => ?_) (fun cdv A qa outer s H E hr => ⟨w__law_labels, ?_, fun ds kk h => p__law_labels ds kk h⟩)
  · exact n__law_labels h
  · exact (dss_cons (ds_own nd (i := 2) (by rfl) (by first | exact Or.inl rfl | exact Or.inr rfl) (df_lst da_nil))
    (dss_cons (ds_for (passes_of rfl) rfl (di_range1 (by rfl) T.range (da_cons (de_var (pv 1)) da_nil)) (dg_name (pg_name (i := 3) nd rfl (by first | exact Or.inl rfl | exact Or.inr rfl))) (dss_cons (ds_set nd (i := 4) (by rfl) (by first | exact Or.inl rfl | exact Or.inr rfl) (de_callP G__law_label qa (hr.mono (by decide)) rfl (pv 0) da_nil))
    (dss_cons (ds_if (DW.dt (dw_and (dt_cmp do_gt (de_var (pv 3)) de_int (nomark _)) (dw_and1 (dt_cmp (do_eq hr.units) (de_callP G__law_draw qa (hr.mono (by decide)) rfl (pv 0) (da_cons de_int da_nil)) de_int (nomark _))))) (dss_one (ds_set nd (i := 4) (by rfl) (by first | exact Or.inl rfl | exact Or.inr rfl) (de_sl (de_op do_add (de_bor (de_callP G__law_pick qa (hr.mono (by decide)) rfl (pv 0) (da_cons (de_var (pv 2)) da_nil))) (de_callP G__law_pick qa (hr.mono (by decide)) rfl (pv 0) (da_cons (DF.de (df_lst (da_cons de_str (da_cons de_str (da_cons de_str (da_cons de_str da_nil)))))) da_nil))) do_none (do_some de_int)))) dss_nil)
    (dss_cons (ds_set nd (i := 5) (by rfl) (by first | exact Or.inl rfl | exact Or.inr rfl) (de_op do_add (DF.de (df_lst (da_cons (de_var (pv 4)) da_nil))) (DF.de (df_lc (own := [("_law_j", 6)]) (g := (gN 6)) (wt := wYes) (we := (wOp dAdd (wC (.str "u")) (wB rStrOf (wCons (wVar 6) wNil)))) rfl nd (di_range1 (by rfl) T.range (da_cons (de_op do_add (de_var (pv 1)) de_int) da_nil)) (blkOk_by (by first | decide +kernel | kernel_rfl)) (fun _ _ _ _ _ => (dg_name (pg_name (i := 6) nd rfl (by first | exact Or.inl rfl | exact Or.inr rfl)))) (fun _ _ _ _ _ => dts_nil) (fun _ _ _ _ _ => (de_op do_add de_str (de_callTy dc_str (by rfl) T.str b_str (da_cons (de_var (pv 6)) da_nil)))) (by decide)))))
    (dss_one (ds_expr (de_append (pv 2) (de_bor (de_ix (DF.de (df_lc (own := [("_law_each", 7)]) (g := (gN 7)) (wt := (wTru (wOp dNotIn (wVar 7) (wOp dAdd (wVar 2) (wLst (wCons (wC (.str "or")) wNil)))))) (we := (wVar 7)) rfl nd (di_list (de_var (pv 5))) (blkOk_by (by first | decide +kernel | kernel_rfl)) (fun _ _ _ _ _ => (dg_name (pg_name (i := 7) nd rfl (by first | exact Or.inl rfl | exact Or.inr rfl)))) (fun _ _ _ _ _ => (dts_one (dt_cmp (do_notIn (u2 hr)) (de_var (pv 7)) (de_op do_add (de_var (pv 2)) (DF.de (df_lst (da_cons de_str da_nil)))) rfl))) (fun _ _ _ _ _ => (de_var (pv 7))) (by decide))) de_int)))))))))
    (dss_one (ds_ret (de_var (pv 2))))))
theorem ok__law_count {f : Addr} {fd : FuncData} {dvs : List V} {kws : List (Str × V)} (F : FunD K "_law_count" "_law_count" (defArgs s__law_count) (defBody s__law_count) (defScope s__law_count) dvs kws f fd) (G__law_draw : FnP P w K mg base 1 "_law_draw" c__law_draw) (G__law_pick : FnP P w K mg base 2 "_law_pick" c__law_pick) : FnG P w K mg base (L2.CX P w) 3 f fd ["_law_purse_here"] (spP ⟨K, mg⟩ c__law_count) := by
  have nd := sc__law_count.nd
  refine fnP_mk F sc__law_count (fun ds k kx h => ?_) (fun cdv A qa outer s H E hr => ⟨w__law_count, ?_, fun ds kk h => p__law_count ds kk h⟩)
  · exact n__law_count h
  · exact (dss_cons (ds_set nd (i := 1) (by rfl) (by first | exact Or.inl rfl | exact Or.inr rfl) (de_callP G__law_draw qa (hr.mono (by decide)) rfl (pv 0) (da_cons de_int da_nil)))
    (dss_cons (ds_if (dt_cmp do_lt (de_var (pv 1)) de_int (nomark _)) (dss_one (ds_ret (de_op do_add de_int (de_callP G__law_draw qa (hr.mono (by decide)) rfl (pv 0) (da_cons de_int da_nil))))) dss_nil)
    (dss_cons (ds_if (dt_cmp (do_eq hr.units) (de_var (pv 1)) de_int (nomark _)) (dss_one (ds_ret (de_callP G__law_pick qa (hr.mono (by decide)) rfl (pv 0) (da_cons (DF.de (df_lst (da_cons de_int (da_cons de_int (da_cons de_int (da_cons (de_op do_pow de_int de_int) (da_cons (de_op do_sub (de_op do_pow de_int de_int) de_int) (da_cons (de_op do_pow de_int de_int) da_nil)))))))) da_nil)))) dss_nil)
    (dss_cons (ds_set nd (i := 2) (by rfl) (by first | exact Or.inl rfl | exact Or.inr rfl) (de_callP G__law_pick qa (hr.mono (by decide)) rfl (pv 0) (da_cons (DF.de (df_lst (da_cons (de_op do_pow de_int de_int) (da_cons (de_op do_pow de_int de_int) (da_cons (de_op do_pow de_int de_int) (da_cons (de_op do_pow de_int de_int) da_nil)))))) da_nil)))
    (dss_one (ds_ret (de_op do_add de_int (de_op do_mod (de_callTy dc_int (by rfl) T.int b_int (da_cons (de_op do_add (de_op do_mul (de_callP G__law_draw qa (hr.mono (by decide)) rfl (pv 0) (da_cons (de_op do_pow de_int de_int) da_nil)) (de_op do_pow de_int de_int)) (de_callP G__law_draw qa (hr.mono (by decide)) rfl (pv 0) (da_cons (de_op do_pow de_int de_int) da_nil))) da_nil)) (de_var (pv 2))))))))))
theorem ok__law_word {f : Addr} {fd : FuncData} {dvs : List V} {kws : List (Str × V)} (F : FunD K "_law_word" "_law_word" (defArgs s__law_word) (defBody s__law_word) (defScope s__law_word) dvs kws f fd) (G__law_count : FnP P w K mg base 3 "_law_count" c__law_count) (G__law_pick : FnP P w K mg base 2 "_law_pick" c__law_pick) : FnG P w K mg base (L2.CX P w) 4 f fd ["_law_purse_here"] (spP ⟨K, mg⟩ c__law_word) := by
  have nd := sc__law_word.nd
  refine fnP_mk F sc__law_word (fun ds k kx h => ?_) (fun cdv A qa outer s H E hr => ⟨w__law_word, ?_, fun ds kk h => p__law_word ds kk h⟩)
  · exact n__law_word h
  · exact (dss_cons (ds_set nd (i := 1) (by rfl) (by first | exact Or.inl rfl | exact Or.inr rfl) (de_callTy dc_str (by rfl) T.str b_str (da_cons (de_callP G__law_count qa (hr.mono (by decide)) rfl (pv 0) da_nil) da_nil)))
    (dss_one (ds_ret (de_callP G__law_pick qa (hr.mono (by decide)) rfl (pv 0) (da_cons (DF.de (df_lst (da_cons (de_var (pv 1)) (da_cons de_str (da_cons (de_op do_add de_str (de_var (pv 1))) (da_cons de_str (da_cons (de_op do_add de_str (de_var (pv 1))) (da_cons (de_op do_add de_str (de_var (pv 1))) da_nil)))))))) da_nil)))))
theorem ok__law_option {f : Addr} {fd : FuncData} {dvs : List V} {kws : List (Str × V)} (F : FunD K "_law_option" "_law_option" (defArgs s__law_option) (defBody s__law_option) (defScope s__law_option) dvs kws f fd) (G__law_draw : FnP P w K mg base 1 "_law_draw" c__law_draw) (G__law_word : FnP P w K mg base 4 "_law_word" c__law_word) : FnG P w K mg base (L2.CX P w) 5 f fd ["_law_purse_here", "_law_deep", "_law_most"] (spP ⟨K, mg⟩ c__law_option) := by
  have nd := sc__law_option.nd
  refine fnP_mk F sc__law_option (fun ds k kx h => ?_) (fun cdv A qa outer s H E hr => ⟨w__law_option, ?_, fun ds kk h => p__law_option ds kk h⟩)
  · exact n__law_option h
  · exact (dss_cons (ds_parFF rfl nd (i := 3) (j := 4) rfl rfl (by decide) rfl rfl (df_listRng rfl (by rfl) T.list (by rfl) T.range b_list b_range (da_cons (de_var (pv 1)) da_nil)) (df_lst da_nil) rfl)
    (dss_cons (ds_for (passes_of rfl) rfl (di_range1 (by rfl) T.range (da_cons (de_op do_add de_int (de_callP G__law_draw qa (hr.mono (by decide)) rfl (pv 0) (da_cons (de_callB (dc_min2 rfl) (by rfl) T.min b_min (da_cons (de_var (pv 1)) (da_cons (de_var (pv 2)) da_nil))) da_nil))) da_nil)) (dg_name (pg_name (i := 5) nd rfl (by first | exact Or.inl rfl | exact Or.inr rfl))) (dss_one (ds_expr (de_append (pv 4) (de_tup (da_cons (de_popAt (pv 3) (de_callP G__law_draw qa (hr.mono (by decide)) rfl (pv 0) (da_cons (de_bor (de_callB dc_len (by rfl) T.len b_len (da_cons (de_var (pv 3)) da_nil))) da_nil))) (da_cons (de_callP G__law_word qa (hr.mono (by decide)) rfl (pv 0) da_nil) da_nil)))))))
    (dss_one (ds_ret (de_var (pv 4))))))
theorem ok__law_shift {f : Addr} {fd : FuncData} {dvs : List V} {kws : List (Str × V)} (F : FunD K "_law_shift" "_law_shift" (defArgs s__law_shift) (defBody s__law_shift) (defScope s__law_shift) dvs kws f fd)  : FnG P w K mg base (L2.CX P w) 1 f fd ["_law_word_here"] (spD ⟨K, mg⟩ c__law_shift) := by
  have nd := sc__law_shift.nd
  refine fnGD_mk F sc__law_shift (fun ds k kx h => ?_) (fun cdv A qa outer s H E kx hr => ⟨(w__law_shift kx), ?_, fun ds kk h => p__law_shift ds kk kx h⟩)
  · exact n__law_shift h
  · exact (dss_cons (ds_for (passes_of rfl) rfl (di_list (DF.de (df_lst (da_cons de_str (da_cons de_str (da_cons de_str da_nil)))))) (dg_name (pg_name (i := 1) nd rfl (by first | exact Or.inl rfl | exact Or.inr rfl))) (dss_one (ds_if (dt_cmp (do_eq hr.units) (de_sl (de_var (pv 0)) do_none (do_some (de_callB dc_len (by rfl) T.len b_len (da_cons (de_var (pv 1)) da_nil)))) (de_var (pv 1)) (nomark _)) (dss_one (ds_ret (de_callTy dc_int (by rfl) T.int b_int (da_cons (de_sl (de_var (pv 0)) (do_some (de_callB dc_len (by rfl) T.len b_len (da_cons (de_var (pv 1)) da_nil))) do_none) da_nil)))) dss_nil)))
    (dss_one (ds_ret (de_if (dt_cmp (do_in (u2 hr)) (de_var (pv 0)) (DF.de (df_lst (da_cons de_str (da_cons de_str da_nil)))) rfl) de_int (de_callTy dc_int (by rfl) T.int b_int (da_cons (de_var (pv 0)) da_nil))))))
theorem ok__law_number {f : Addr} {fd : FuncData} {dvs : List V} {kws : List (Str × V)} (F : FunD K "_law_number" "_law_number" (defArgs s__law_number) (defBody s__law_number) (defScope s__law_number) dvs kws f fd) (G__law_shift : FnGD P w K mg base 1 "_law_shift" c__law_shift) : FnG P w K mg base (L2.CX P w) 2 f fd ["_law_word_here", "_law_size_here"] (spD ⟨K, mg⟩ c__law_number) := by
  have nd := sc__law_number.nd
  refine fnGD_mk F sc__law_number (fun ds k kx h => ?_) (fun cdv A qa outer s H E kx hr => ⟨(w__law_number kx), ?_, fun ds kk h => p__law_number ds kk kx h⟩)
  · exact n__law_number h
  · exact (dss_cons (ds_par rfl nd (i := 2) (j := 3) rfl rfl (by decide) rfl rfl (da_cons (de_callG G__law_shift qa (hr.mono (by decide)) (by rfl) (da_cons (de_var (pv 0)) da_nil)) (da_cons (de_op do_add (de_op do_fdiv (de_var (pv 1)) de_int) de_int) da_nil)) rfl)
    (dss_cons (ds_if (dt_cmp (do_eq hr.units) (de_sl (de_var (pv 0)) do_none (do_some de_int)) de_str (nomark _)) (dss_one (ds_ret (de_callB (dc_max2 rfl) (by rfl) T.max b_max (da_cons de_int (da_cons (de_op do_sub (de_var (pv 1)) (de_var (pv 2))) da_nil))))) dss_nil)
    (dss_cons (ds_if (dt_cmp (do_eq hr.units) (de_sl (de_var (pv 0)) do_none (do_some de_int)) de_str (nomark _)) (dss_one (ds_ret (de_if (dt_cmp (do_eq hr.units) (de_sl (de_var (pv 0)) (do_some de_int) (do_some de_int)) de_str (nomark _)) (de_op do_add (de_var (pv 3)) (de_var (pv 2))) (de_callB (dc_max2 rfl) (by rfl) T.max b_max (da_cons de_int (da_cons (de_op do_sub (de_var (pv 3)) (de_var (pv 2))) da_nil)))))) dss_nil)
    (dss_one (ds_ret (de_var (pv 2)))))))
theorem ok__law_due {f : Addr} {fd : FuncData} {dvs : List V} {kws : List (Str × V)} (F : FunD K "_law_due" "_law_due" (defArgs s__law_due) (defBody s__law_due) (defScope s__law_due) dvs kws f fd) (G__law_number : FnGD P w K mg base 2 "_law_number" c__law_number) : FnG P w K mg base (L2.CX P w) 3 f fd ["_law_some", "_law_big", "_law_have"] (spD ⟨K, mg⟩ c__law_due) := by
  have nd := sc__law_due.nd
  refine fnGD_mk F sc__law_due (fun ds k kx h => ?_) (fun cdv A qa outer s H E kx hr => ⟨(w__law_due kx), ?_, fun ds kk h => p__law_due ds kk kx h⟩)
  · exact n__law_due h
  · exact (dss_cons (ds_for (passes_of rfl) rfl (di_list (de_var (pv 0))) (dg_name (pg_name (i := 3) nd rfl (by first | exact Or.inl rfl | exact Or.inr rfl))) (dss_one (ds_if (dt_truth (de_callB (dc_all rfl) (by rfl) T.all b_all (da_cons (DF.de (df_lc (own := [("_law_at", 4), ("_law_word_here", 5)]) (g := (gTupW 2 (gCons' (gN 4) (gCons' (gN 5) gNil')))) (wt := wYes) (we := (wOp dLe (wCall c__law_number no (wCons (wVar 5) (wCons (wOp dIx (wVar 1) (wVar 4)) wNil))) (wOp dIx (wVar 2) (wVar 4)))) rfl nd (di_list (de_var (pv 3))) (blkOk_by (by first | decide +kernel | kernel_rfl)) (fun _ _ _ _ _ => (dg_tup (by rfl) (dgs_cons (dg_name (pg_name (i := 4) nd rfl (by first | exact Or.inl rfl | exact Or.inr rfl))) (dgs_cons (dg_name (pg_name (i := 5) nd rfl (by first | exact Or.inl rfl | exact Or.inr rfl))) dgs_nil)))) (fun _ _ _ _ _ => dts_nil) (fun _ _ _ _ _ => (de_cmp do_le (de_callG G__law_number qa (hr.mono (by decide)) (by rfl) (da_cons (de_var (pv 5)) (da_cons (de_ix (de_var (pv 1)) (de_var (pv 4))) da_nil))) (de_ix (de_var (pv 2)) (de_var (pv 4))) (nomark _))) (by decide))) da_nil))) (dss_one (ds_ret de_bl)) dss_nil)))
    (dss_one (ds_ret de_bl)))
theorem ok__law_size {f : Addr} {fd : FuncData} {dvs : List V} {kws : List (Str × V)} (F : FunD K "_law_size" "_law_size" (defArgs s__law_size) (defBody s__law_size) (defScope s__law_size) dvs kws f fd) (G__law_draw : FnP P w K mg base 1 "_law_draw" c__law_draw) (G__law_pick : FnP P w K mg base 2 "_law_pick" c__law_pick) : FnG P w K mg base (L2.CX P w) 3 f fd ["_law_purse_here", "_law_span", "_law_near"] (spP ⟨K, mg⟩ c__law_size) := by
  have nd := sc__law_size.nd
  refine fnP_mk F sc__law_size (fun ds k kx h => ?_) (fun cdv A qa outer s H E hr => ⟨w__law_size, ?_, fun ds kk h => p__law_size ds kk h⟩)
  · exact n__law_size h
  · exact (dss_cons (ds_asg (de_var (pv 1)) (dg_tup (by rfl) (dgs_cons (dg_name (pg_name (i := 3) nd rfl (by first | exact Or.inl rfl | exact Or.inr rfl))) (dgs_cons (dg_name (pg_name (i := 4) nd rfl (by first | exact Or.inl rfl | exact Or.inr rfl))) (dgs_cons (dg_name (pg_name (i := 5) nd rfl (by first | exact Or.inl rfl | exact Or.inr rfl))) dgs_nil)))))
    (dss_cons (ds_par rfl nd (i := 6) (j := 7) rfl rfl (by decide) rfl rfl (da_cons (de_if (dt_cmp do_is (de_var (pv 5)) de_non (nomark _)) (de_op do_add (de_var (pv 4)) (de_op do_pow de_int de_int)) (de_var (pv 5))) (da_cons (de_callP G__law_draw qa (hr.mono (by decide)) rfl (pv 0) (da_cons de_int da_nil)) da_nil)) rfl)
    (dss_cons (ds_if (dt_cmp do_lt (de_var (pv 7)) de_int (nomark _)) (dss_one (ds_ret (de_ix (DF.de (df_lst (da_cons (de_var (pv 4)) (da_cons (de_var (pv 6)) da_nil)))) (de_var (pv 7))))) dss_nil)
    (dss_cons (ds_if (dt_cmp do_lt (de_var (pv 7)) de_int (nomark _)) (dss_one (ds_ret (de_callB (dc_min2 rfl) (by rfl) T.min b_min (da_cons (de_var (pv 6)) (da_cons (de_callB (dc_max2 rfl) (by rfl) T.max b_max (da_cons (de_var (pv 4)) (da_cons (de_op do_sub (de_op do_add (de_callP G__law_pick qa (hr.mono (by decide)) rfl (pv 0) (da_cons (DF.de (df_lst (da_cons (de_var (pv 2)) (da_cons (de_op do_mul de_int (de_var (pv 2))) da_nil)))) da_nil)) (de_callP G__law_draw qa (hr.mono (by decide)) rfl (pv 0) (da_cons de_int da_nil))) de_int) da_nil))) da_nil))))) dss_nil)
    (dss_cons (ds_set nd (i := 8) (by rfl) (by first | exact Or.inl rfl | exact Or.inr rfl) (de_op do_add (de_op do_add (de_op do_mul (de_callP G__law_draw qa (hr.mono (by decide)) rfl (pv 0) (da_cons (de_op do_pow de_int de_int) da_nil)) (de_op do_pow de_int de_int)) (de_op do_mul (de_callP G__law_draw qa (hr.mono (by decide)) rfl (pv 0) (da_cons (de_op do_pow de_int de_int) da_nil)) (de_op do_pow de_int de_int))) (de_callP G__law_draw qa (hr.mono (by decide)) rfl (pv 0) (da_cons (de_op do_pow de_int de_int) da_nil))))
    (dss_one (ds_ret (de_op do_add (de_var (pv 4)) (de_op do_mod (de_callTy dc_int (by rfl) T.int b_int (da_cons (de_var (pv 8)) da_nil)) (de_op do_add (de_op do_sub (de_var (pv 6)) (de_var (pv 4))) de_int))))))))))
theorem ok__law_sizes {f : Addr} {fd : FuncData} {dvs : List V} {kws : List (Str × V)} (F : FunD K "_law_sizes" "_law_sizes" (defArgs s__law_sizes) (defBody s__law_sizes) (defScope s__law_sizes) dvs kws f fd) (G__law_draw : FnP P w K mg base 1 "_law_draw" c__law_draw) (G__law_shift : FnGD P w K mg base 1 "_law_shift" c__law_shift) (G__law_size : FnP P w K mg base 3 "_law_size" c__law_size) : FnG P w K mg base (L2.CX P w) 4 f fd ["_law_purse_here", "_law_spans", "_law_row"] (spP ⟨K, mg⟩ c__law_sizes) := by
  have nd := sc__law_sizes.nd
  refine fnP_mk F sc__law_sizes (fun ds k kx h => ?_) (fun cdv A qa outer s H E hr => ⟨w__law_sizes, ?_, fun ds kk h => p__law_sizes ds kk h⟩)
  · exact n__law_sizes h
  · exact (dss_cons (ds_ownLc (i := 3) (own := [("_law_span", 6)]) (g := (gN 6)) (wt := wYes) (we := (wCallP 0 c__law_size (wCons (wVar 6) (wCons (wOp dAdd (wC (.int 1)) (wCallP 0 c__law_draw (wCons (wC (.int 20)) wNil))) wNil)))) rfl nd rfl rfl (sw_true rfl rfl rfl (by decide +kernel)) (di_tup (de_var (pv 1))) (blkOk_by (by first | decide +kernel | kernel_rfl)) (fun _ _ _ _ _ => (dg_name (pg_name (i := 6) nd rfl (by first | exact Or.inl rfl | exact Or.inr rfl)))) (fun _ _ _ _ _ => dts_nil) (fun _ _ _ _ _ => (de_callP G__law_size qa (hr.mono (by decide)) rfl (pv 0) (da_cons (de_var (pv 6)) (da_cons (de_op do_add de_int (de_callP G__law_draw qa (hr.mono (by decide)) rfl (pv 0) (da_cons de_int da_nil))) da_nil)))) (by decide))
    (dss_cons (ds_for (passes_of rfl) rfl (di_list (de_var (pv 2))) (dg_tup (by rfl) (dgs_cons (dg_name (pg_name (i := 4) nd rfl (by first | exact Or.inl rfl | exact Or.inr rfl))) (dgs_cons (dg_name (pg_name (i := 5) nd rfl (by first | exact Or.inl rfl | exact Or.inr rfl))) dgs_nil))) (dss_one (ds_asg (de_callP G__law_size qa (hr.mono (by decide)) rfl (pv 0) (da_cons (de_ix (de_var (pv 1)) (de_var (pv 4))) (da_cons (de_callG G__law_shift qa (hr.mono (by decide)) (by rfl) (da_cons (de_var (pv 5)) da_nil)) da_nil))) (dg_ownIxV (pv 3) (pv 4)))))
    (dss_one (ds_ret (de_callTy dc_tuple (by rfl) T.tuple b_tuple (da_cons (de_var (pv 3)) da_nil))))))
theorem ok__law_part {f : Addr} {fd : FuncData} {dvs : List V} {kws : List (Str × V)} (F : FunD K "_law_part" "_law_part" (defArgs s__law_part) (defBody s__law_part) (defScope s__law_part) dvs kws f fd) (G__law_draw : FnP P w K mg base 1 "_law_draw" c__law_draw) (G__law_pick : FnP P w K mg base 2 "_law_pick" c__law_pick) : FnG P w K mg base (L2.CX P w) 3 f fd ["_law_purse_here", "_law_top"] (spP ⟨K, mg⟩ c__law_part) := by
  have nd := sc__law_part.nd
  refine fnP_mk F sc__law_part (fun ds k kx h => ?_) (fun cdv A qa outer s H E hr => ⟨w__law_part, ?_, fun ds kk h => p__law_part ds kk h⟩)
  · exact n__law_part h
  · exact (dss_cons (ds_set nd (i := 2) (by rfl) (by first | exact Or.inl rfl | exact Or.inr rfl) (de_op do_add (de_op do_mul (de_callP G__law_draw qa (hr.mono (by decide)) rfl (pv 0) (da_cons (de_op do_pow de_int de_int) da_nil)) (de_op do_pow de_int de_int)) (de_callP G__law_draw qa (hr.mono (by decide)) rfl (pv 0) (da_cons (de_op do_pow de_int de_int) da_nil))))
    (dss_one (ds_ret (de_callP G__law_pick qa (hr.mono (by decide)) rfl (pv 0) (da_cons (DF.de (df_lst (da_cons de_int (da_cons (de_callB (dc_min2 rfl) (by rfl) T.min b_min (da_cons de_int (da_cons (de_var (pv 1)) da_nil))) (da_cons (de_var (pv 1)) (da_cons (de_callB (dc_min2 rfl) (by rfl) T.min b_min (da_cons (de_var (pv 1)) (da_cons (de_op do_add de_int (de_callP G__law_draw qa (hr.mono (by decide)) rfl (pv 0) (da_cons de_int da_nil))) da_nil))) (da_cons (de_op do_mod (de_callTy dc_int (by rfl) T.int b_int (da_cons (de_var (pv 2)) da_nil)) (de_op do_add (de_var (pv 1)) de_int)) da_nil))))))) da_nil)))))
theorem ok__law_moved {f : Addr} {fd : FuncData} {dvs : List V} {kws : List (Str × V)} (F : FunD K "_law_moved" "_law_moved" (defArgs s__law_moved) (defBody s__law_moved) (defScope s__law_moved) dvs kws f fd) (G__law_draw : FnP P w K mg base 1 "_law_draw" c__law_draw) (G__law_part : FnP P w K mg base 3 "_law_part" c__law_part) : FnG P w K mg base (L2.CX P w) 4 f fd ["_law_purse_here", "_law_big", "_law_have", "_law_due_here"] (spP ⟨K, mg⟩ c__law_moved) := by
  have nd := sc__law_moved.nd
  refine fnP_mk F sc__law_moved (fun ds k kx h => ?_) (fun cdv A qa outer s H E hr => ⟨w__law_moved, ?_, fun ds kk h => p__law_moved ds kk h⟩)
  · exact n__law_moved h
  · exact (dss_cons (ds_parEFF rfl nd (i := 4) (j := 5) (l := 6) rfl rfl rfl (by decide) (by decide) (by decide) rfl rfl rfl (de_callP G__law_draw qa (hr.mono (by decide)) rfl (pv 0) (da_cons de_int da_nil)) (df_lst da_nil) (df_lst da_nil) rfl)
    (dss_cons (ds_for (passes_of rfl) rfl (di_range1 (by rfl) T.range (da_cons (de_callB dc_len (by rfl) T.len b_len (da_cons (de_var (pv 1)) da_nil)) da_nil)) (dg_name (pg_name (i := 7) nd rfl (by first | exact Or.inl rfl | exact Or.inr rfl))) (dss_cons (ds_par rfl nd (i := 8) (j := 9) rfl rfl (by decide) rfl rfl (da_cons (de_ix (de_var (pv 1)) (de_var (pv 7))) (da_cons (de_ix (de_var (pv 2)) (de_var (pv 7))) da_nil)) rfl)
    (dss_cons (ds_if (dt_cmp (do_eq hr.units) (de_var (pv 4)) de_int (nomark _)) (dss_cons (ds_set nd (i := 10) (by rfl) (by first | exact Or.inl rfl | exact Or.inr rfl) (de_callP G__law_part qa (hr.mono (by decide)) rfl (pv 0) (da_cons (de_if (dt_truth (de_var (pv 3))) (de_op do_sub (de_var (pv 8)) (de_var (pv 9))) (de_var (pv 9))) da_nil)))
    (dss_one (ds_set nd (i := 9) (by rfl) (by first | exact Or.inl rfl | exact Or.inr rfl) (de_if (dt_truth (de_var (pv 3))) (de_op do_add (de_var (pv 9)) (de_var (pv 10))) (de_op do_sub (de_var (pv 9)) (de_var (pv 10))))))) (dss_one (ds_if (DW.dt (dw_and (dt_cmp (do_eq hr.units) (de_var (pv 4)) de_int (nomark _)) (dw_and1 (dt_truth (de_var (pv 3)))))) (dss_cons (ds_set nd (i := 10) (by rfl) (by first | exact Or.inl rfl | exact Or.inr rfl) (de_callP G__law_part qa (hr.mono (by decide)) rfl (pv 0) (da_cons (de_op do_pow de_int de_int) da_nil)))
    (dss_one (ds_par rfl nd (i := 8) (j := 9) rfl rfl (by decide) rfl rfl (da_cons (de_op do_add (de_var (pv 8)) (de_var (pv 10))) (da_cons (de_op do_add (de_var (pv 9)) (de_var (pv 10))) da_nil)) rfl))) (dss_one (ds_if (dt_cmp (do_eq hr.units) (de_var (pv 4)) de_int (nomark _)) (dss_cons (ds_set nd (i := 10) (by rfl) (by first | exact Or.inl rfl | exact Or.inr rfl) (de_callP G__law_part qa (hr.mono (by decide)) rfl (pv 0) (da_cons (de_callB (dc_min2 rfl) (by rfl) T.min b_min (da_cons (de_op do_sub (de_var (pv 8)) de_int) (da_cons (de_var (pv 9)) da_nil))) da_nil)))
    (dss_one (ds_par rfl nd (i := 8) (j := 9) rfl rfl (by decide) rfl rfl (da_cons (de_op do_sub (de_var (pv 8)) (de_var (pv 10))) (da_cons (de_op do_sub (de_var (pv 9)) (de_var (pv 10))) da_nil)) rfl))) (dss_one (ds_if (dt_truth (de_var (pv 3))) (dss_one (ds_set nd (i := 8) (by rfl) (by first | exact Or.inl rfl | exact Or.inr rfl) (de_op do_sub (de_var (pv 8)) (de_callP G__law_part qa (hr.mono (by decide)) rfl (pv 0) (da_cons (de_callB (dc_min2 rfl) (by rfl) T.min b_min (da_cons (de_op do_sub (de_var (pv 8)) de_int) (da_cons (de_op do_sub (de_var (pv 8)) (de_var (pv 9))) da_nil))) da_nil))))) (dss_one (ds_set nd (i := 8) (by rfl) (by first | exact Or.inl rfl | exact Or.inr rfl) (de_op do_add (de_var (pv 8)) (de_callP G__law_part qa (hr.mono (by decide)) rfl (pv 0) (da_cons (de_op do_pow de_int de_int) da_nil))))))))))))
    (dss_cons (ds_expr (de_append (pv 5) (de_var (pv 8))))
    (dss_one (ds_expr (de_append (pv 6) (de_var (pv 9)))))))))
    (dss_one (ds_ret (DF.de (df_lst (da_cons (de_callTy dc_tuple (by rfl) T.tuple b_tuple (da_cons (de_var (pv 5)) da_nil)) (da_cons (de_callTy dc_tuple (by rfl) T.tuple b_tuple (da_cons (de_var (pv 6)) da_nil)) da_nil))))))))
theorem ok__law_right {f : Addr} {fd : FuncData} {dvs : List V} {kws : List (Str × V)} (F : FunD K "_law_right" "_law_right" (defArgs s__law_right) (defBody s__law_right) (defScope s__law_right) dvs kws f fd) (E_Plan : MkE P w K mg base 7 "Plan" ci_Plan [.tup []]) (M_Plan_is_quorum : MtD P w K mg base 5 "Plan" "is_quorum" c_Plan_is_quorum) (G__law_draw : FnP P w K mg base 1 "_law_draw" c__law_draw) (G__law_due : FnGD P w K mg base 3 "_law_due" c__law_due) (G__law_labels : FnP P w K mg base 4 "_law_labels" c__law_labels) (G__law_moved : FnP P w K mg base 4 "_law_moved" c__law_moved) (G__law_number : FnGD P w K mg base 2 "_law_number" c__law_number) (G__law_option : FnP P w K mg base 5 "_law_option" c__law_option) (G__law_pick : FnP P w K mg base 2 "_law_pick" c__law_pick) (G__law_sizes : FnP P w K mg base 4 "_law_sizes" c__law_sizes) : FnG P w K mg base (L2.CX P w) 9 f fd ["_law_purse_here"] (spP ⟨K, mg⟩ c__law_right) := by
  have nd := sc__law_right.nd
  refine fnP_mk F sc__law_right (fun ds k kx h => ?_) (fun cdv A qa outer s H E hr => ⟨w__law_right, ?_, fun ds kk h => p__law_right ds kk h⟩)
  · exact n__law_right h
  · exact (dss_cons (ds_set nd (i := 1) (by rfl) (by first | exact Or.inl rfl | exact Or.inr rfl) (de_callP G__law_labels qa (hr.mono (by decide)) rfl (pv 0) (da_cons (de_op do_add de_int (de_callP G__law_draw qa (hr.mono (by decide)) rfl (pv 0) (da_cons de_int da_nil))) da_nil)))
    (dss_cons (ds_setLc (i := 2) (own := [("_law_k", 15)]) (g := (gN 15)) (wt := wYes) (we := (wCallP 0 c__law_option (wCons (wB rLenD (wCons (wVar 1) wNil)) (wCons (wC (.int 2)) wNil)))) rfl nd rfl rfl (sw_true rfl rfl rfl (by decide +kernel)) (di_range1 (by rfl) T.range (da_cons (de_op do_add de_int (de_callP G__law_draw qa (hr.mono (by decide)) rfl (pv 0) (da_cons de_int da_nil))) da_nil)) (blkOk_by (by first | decide +kernel | kernel_rfl)) (fun _ _ _ _ _ => (dg_name (pg_name (i := 15) nd rfl (by first | exact Or.inl rfl | exact Or.inr rfl)))) (fun _ _ _ _ _ => dts_nil) (fun _ _ _ _ _ => (de_callP G__law_option qa (hr.mono (by decide)) rfl (pv 0) (da_cons (de_callB dc_len (by rfl) T.len b_len (da_cons (de_var (pv 1)) da_nil)) (da_cons de_int da_nil)))) (by decide))
    (dss_cons (ds_set nd (i := 3) (by rfl) (by first | exact Or.inl rfl | exact Or.inr rfl) (de_callTy dc_tuple (by rfl) T.tuple b_tuple (da_cons (DF.de (df_lc (own := [("_law_row", 7)]) (g := (gN 7)) (wt := wYes) (we := (wM "str" mJoin (wC (.str ", ")) (wCons (wLc [10, 11] (iL (wVar 7)) (gTupW 2 (gCons' (gN 10) (gCons' (gN 11) gNil'))) wYes (wOp dAdd (wOp dAdd (wVar 11) (wC (.str " "))) (wOp dIx (wVar 1) (wVar 10)))) wNil))) rfl nd (di_list (de_var (pv 2))) (blkOk_by (by first | decide +kernel | kernel_rfl)) (fun _ _ _ _ _ => (dg_name (pg_name (i := 7) nd rfl (by first | exact Or.inl rfl | exact Or.inr rfl)))) (fun _ _ _ _ _ => dts_nil) (fun _ _ _ _ _ => (de_bm PySem.F.plainAttrs_str PySem.F.slot_str_join PySem.F.type_str_join dm_join de_str (da_cons (DF.de (df_lc (own := [("_law_at", 10), ("_law_word_here", 11)]) (g := (gTupW 2 (gCons' (gN 10) (gCons' (gN 11) gNil')))) (wt := wYes) (we := (wOp dAdd (wOp dAdd (wVar 11) (wC (.str " "))) (wOp dIx (wVar 1) (wVar 10)))) rfl nd (di_list (de_var (pv 7))) (blkOk_by (by first | decide +kernel | kernel_rfl)) (fun _ _ _ _ _ => (dg_tup (by rfl) (dgs_cons (dg_name (pg_name (i := 10) nd rfl (by first | exact Or.inl rfl | exact Or.inr rfl))) (dgs_cons (dg_name (pg_name (i := 11) nd rfl (by first | exact Or.inl rfl | exact Or.inr rfl))) dgs_nil)))) (fun _ _ _ _ _ => dts_nil) (fun _ _ _ _ _ => (de_op do_add (de_op do_add (de_var (pv 11)) de_str) (de_ix (de_var (pv 1)) (de_var (pv 10))))) (by decide))) da_nil))) (by decide))) da_nil)))
    (dss_cons (ds_set nd (i := 4) (by rfl) (by first | exact Or.inl rfl | exact Or.inr rfl) (de_callTy dc_tuple (by rfl) T.tuple b_tuple (da_cons (DF.de (df_lc (own := [("_law_label_here", 16)]) (g := (gN 16)) (wt := wYes) (we := (wTup (wCons (wVar 16) (wCons (wC (.int 1)) (wCons (wC .non) wNil))))) rfl nd (di_list (de_var (pv 1))) (blkOk_by (by first | decide +kernel | kernel_rfl)) (fun _ _ _ _ _ => (dg_name (pg_name (i := 16) nd rfl (by first | exact Or.inl rfl | exact Or.inr rfl)))) (fun _ _ _ _ _ => dts_nil) (fun _ _ _ _ _ => (de_tup (da_cons (de_var (pv 16)) (da_cons de_int (da_cons de_non da_nil))))) (by decide))) da_nil)))
    (dss_cons (ds_set nd (i := 5) (by rfl) (by first | exact Or.inl rfl | exact Or.inr rfl) (de_makeE E_Plan (hr.mono (by decide)) (by rfl) (da_cons (de_var (pv 4)) (da_cons (de_tup (da_cons (de_tup (da_cons de_str (da_cons (de_var (pv 3)) da_nil))) da_nil)) da_nil))))
    (dss_cons (ds_for (passes_of rfl) rfl (di_range1 (by rfl) T.range (da_cons de_int da_nil)) (dg_name (pg_name (i := 6) nd rfl (by first | exact Or.inl rfl | exact Or.inr rfl))) (dss_cons (ds_set nd (i := 7) (by rfl) (by first | exact Or.inl rfl | exact Or.inr rfl) (de_callP G__law_pick qa (hr.mono (by decide)) rfl (pv 0) (da_cons (de_var (pv 2)) da_nil)))
    (dss_cons (ds_set nd (i := 8) (by rfl) (by first | exact Or.inl rfl | exact Or.inr rfl) (de_callP G__law_sizes qa (hr.mono (by decide)) rfl (pv 0) (da_cons (de_var (pv 4)) (da_cons (de_var (pv 7)) da_nil))))
    (dss_cons (ds_ownLc (i := 9) (own := [("_law_size_here", 17)]) (g := (gN 17)) (wt := wYes) (we := (wCallP 0 c__law_pick (wCons (wLst (wCons (wC (.int 0)) (wCons (wC (.int 0)) (wCons (wVar 17) (wCons (wB rMin2 (wCons (wVar 17) (wCons (wOp dAdd (wC (.int 1)) (wCallP 0 c__law_draw (wCons (wC (.int 9)) wNil))) wNil))) wNil))))) wNil))) rfl nd rfl rfl (sw_true rfl rfl rfl (by decide +kernel)) (di_tup (de_var (pv 8))) (blkOk_by (by first | decide +kernel | kernel_rfl)) (fun _ _ _ _ _ => (dg_name (pg_name (i := 17) nd rfl (by first | exact Or.inl rfl | exact Or.inr rfl)))) (fun _ _ _ _ _ => dts_nil) (fun _ _ _ _ _ => (de_callP G__law_pick qa (hr.mono (by decide)) rfl (pv 0) (da_cons (DF.de (df_lst (da_cons de_int (da_cons de_int (da_cons (de_var (pv 17)) (da_cons (de_callB (dc_min2 rfl) (by rfl) T.min b_min (da_cons (de_var (pv 17)) (da_cons (de_op do_add de_int (de_callP G__law_draw qa (hr.mono (by decide)) rfl (pv 0) (da_cons de_int da_nil))) da_nil))) da_nil)))))) da_nil))) (by decide))
    (dss_cons (ds_for (passes_of rfl) rfl (di_list (de_var (pv 7))) (dg_tup (by rfl) (dgs_cons (dg_name (pg_name (i := 10) nd rfl (by first | exact Or.inl rfl | exact Or.inr rfl))) (dgs_cons (dg_name (pg_name (i := 11) nd rfl (by first | exact Or.inl rfl | exact Or.inr rfl))) dgs_nil))) (dss_one (ds_asg (de_callB (dc_min2 rfl) (by rfl) T.min b_min (da_cons (de_ix (de_var (pv 8)) (de_var (pv 10))) (da_cons (de_callB (dc_max2 rfl) (by rfl) T.max b_max (da_cons de_int (da_cons (de_op do_sub (de_callG G__law_number qa (hr.mono (by decide)) (by rfl) (da_cons (de_var (pv 11)) (da_cons (de_ix (de_var (pv 8)) (de_var (pv 10))) da_nil))) (de_callP G__law_pick qa (hr.mono (by decide)) rfl (pv 0) (da_cons (DF.de (df_lst (da_cons de_int (da_cons de_int (da_cons de_int da_nil))))) da_nil))) da_nil))) da_nil))) (dg_ownIxV (pv 9) (pv 10)))))
    (dss_cons (ds_set nd (i := 12) (by rfl) (by first | exact Or.inl rfl | exact Or.inr rfl) (de_callG G__law_due qa (hr.mono (by decide)) (by rfl) (da_cons (de_var (pv 2)) (da_cons (de_var (pv 8)) (da_cons (de_var (pv 9)) da_nil)))))
    (dss_cons (ds_if (dt_cmp (do_ne hr.units) (de_callB (dc_repr qa hr.units) (by rfl) T.repr b_repr (da_cons (de_meth M_Plan_is_quorum (hr.mono (by decide)) (de_var (pv 5)) (da_cons de_str (da_cons (de_var (pv 8)) (da_cons (de_callTy dc_tuple (by rfl) T.tuple b_tuple (da_cons (de_var (pv 9)) da_nil)) da_nil)))) da_nil)) (de_callB (dc_repr qa hr.units) (by rfl) T.repr b_repr (da_cons (de_var (pv 12)) da_nil)) (nomark _)) (dss_one (ds_ret de_bl)) dss_nil)
    (dss_one (ds_for (passes_of rfl) rfl (di_range1 (by rfl) T.range (da_cons de_int da_nil)) (dg_name (pg_name (i := 13) nd rfl (by first | exact Or.inl rfl | exact Or.inr rfl))) (dss_cons (ds_set nd (i := 14) (by rfl) (by first | exact Or.inl rfl | exact Or.inr rfl) (de_callP G__law_moved qa (hr.mono (by decide)) rfl (pv 0) (da_cons (de_var (pv 8)) (da_cons (de_var (pv 9)) (da_cons (de_var (pv 12)) da_nil)))))
    (dss_one (ds_if (dt_cmp (do_ne hr.units) (de_callB (dc_repr qa hr.units) (by rfl) T.repr b_repr (da_cons (de_meth M_Plan_is_quorum (hr.mono (by decide)) (de_var (pv 5)) (da_cons de_str (da_cons (de_ix (de_var (pv 14)) de_int) (da_cons (de_ix (de_var (pv 14)) de_int) da_nil)))) da_nil)) (de_callB (dc_repr qa hr.units) (by rfl) T.repr b_repr (da_cons (de_var (pv 12)) da_nil)) (nomark _)) (dss_one (ds_ret de_bl)) dss_nil))))))))))))
    (dss_one (ds_ret de_bl))))))))
theorem ok_law {f : Addr} {fd : FuncData} {dvs : List V} {kws : List (Str × V)} (F : FunD K "law" "law" (defArgs s_law) (defBody s_law) (defScope s_law) dvs kws f fd) (G__law_purse : FnF P w K mg base 1 "_law_purse" c__law_purse) (G__law_right : FnP P w K mg base 9 "_law_right" c__law_right) : FnG P w K mg base (L2.CX P w) 10 f fd ["_law_script"] (spD ⟨K, mg⟩ c_law) := by
  have nd := sc_law.nd
  refine fnGD_mk F sc_law (fun ds k kx h => ?_) (fun cdv A qa outer s H E kx hr => ⟨(w_law kx), ?_, fun ds kk h => p_law ds kk kx h⟩)
  · exact n_law h
  · exact (dss_cons (ds_for (passes_of rfl) rfl (di_range1 (by rfl) T.range (da_cons (de_callB (dc_max2 rfl) (by rfl) T.max b_max (da_cons de_int (da_cons (de_callB (dc_min2 rfl) (by rfl) T.min b_min (da_cons (de_callB dc_len (by rfl) T.len b_len (da_cons (de_var (pv 0)) da_nil)) (da_cons de_int da_nil))) da_nil))) da_nil)) (dg_name (pg_name (i := 1) nd rfl (by first | exact Or.inl rfl | exact Or.inr rfl))) (dss_one (ds_if (dt_not (dt_truth (de_callPF G__law_right qa (hr.mono (by decide)) (by rfl) (df_callF G__law_purse qa (hr.mono (by decide)) (by rfl) (da_cons (de_var (pv 0)) (da_cons (de_var (pv 1)) da_nil))) da_nil))) (dss_one (ds_ret de_bl)) dss_nil)))
    (dss_one (ds_ret de_bl)))
end
end W
set_option Elab.async false
set_option linter.all false
set_option maxRecDepth 100000
set_option maxHeartbeats 2000000
/-! QHead: what the end of a law asks of the top, read by a Hook. -/
namespace Q
open PySem PySem.Spec PyProof.Rows L2
/-! ### more facts, as Bools -/
def propN (x m : Str) (K : PySem.W.Frag) : Bool := He.eqO (PySem.W.findIn K (.ref (He.ga K x)) m) (some (some (.ref (He.ma K (He.ga K x) m)))) && (He.eqO (PySem.W.specialIn K (.ref (He.ma K (He.ga K x) m)) "__get__") (some (some (.builtin "property.__get__"))) &&
  (decide (PySem.W.takesIn K (.ref (He.ma K (He.ga K x) m)) = some true) && (match PySem.W.recIn K (He.ma K (He.ga K x) m) "property" with
    | some (.ref _ :: _) => true
    | _ => false)))
theorem prop_ok {x m : Str} {K : PySem.W.Frag} (h : propN x m K = true) : PropOf K (He.ga K x) m (He.ma K (He.ga K x) m) (He5.wf K (He.ga K x) "property" m) := by
  obtain ⟨h1, h⟩ := He.ba h
  obtain ⟨h2, h⟩ := He.ba h
  obtain ⟨h3, h4⟩ := He.ba h
  refine ⟨He.eqO_ok h1, He.eqO_ok h2, of_decide_eq_true h3, ?_⟩
  unfold He5.wf
  split at h4
  · rename_i f r e
    exact ⟨r, by rw [e]⟩
  · cases h4
/-- the i-th default of a def is the empty tuple -/
def emptyTup (p : Str × Option Str) (i : Nat) (K : PySem.W.Frag) : Bool := match K.lookup (He.dflAt p i K) with
  | some ⟨.type c, _, .seq its _, _⟩ => decide (c = "tuple") && decide (its.size = 0)
  | _ => false
theorem emptyTup_ok {mg : Str → Option Value} {p : Str × Option Str} {i : Nat} {K : PySem.W.Frag} (h : emptyTup p i K = true) (S : Hid) (H : Hp) : RepL ⟨K, mg⟩ S H [.tup []] [.ref (He.dflAt p i K)] := by
  refine repLcons.mpr ⟨_, [], rfl, ?_, repLnil.mpr rfl⟩
  unfold Rep
  refine ⟨_, [], rfl, .inr ?_, repLnil.mpr rfl⟩
  unfold emptyTup at h
  cases q : K.lookup (He.dflAt p i K) with
  | none => rw [q] at h; cases h
  | some o =>
    obtain ⟨oc, od, dt, osl⟩ := o
    rw [q] at h
    cases oc with
    | type c =>
      cases dt with
      | seq its n =>
        obtain ⟨h1, h2⟩ := He.ba (show (decide (c = "tuple") && decide (its.size = 0)) = true from h)
        have e : its = #[] := Array.eq_empty_of_size_eq_zero (of_decide_eq_true h2)
        subst e
        exact ⟨_, #[], n, rfl, congrArg Value.type (of_decide_eq_true h1), rfl, by decide, .nil⟩
      | _ => cases h
    | _ => cases dt <;> cases h
/-! ### the Hook -/
abbrev FB : Type := PySem.W.Frag → Bool
def obsB (fa : List He.Fa) (fb : List FB) (fn : List He5.DefA) (K : PySem.W.Frag) : He.AlD := ((fa.all fun f => f.ok K) && ((fb.all fun f => f K) && fn.all fun d => d.ok K), fn.map fun d => He5.fnA K (d.at_ K))
def valB (fn : List He5.DefA) : He.AlD := (true, fn.map He5.DefA.val)
def SaysB (fa : List He.Fa) (fb : List FB) (fn : List He5.DefA) (K : PySem.W.Frag) : Prop := obsB fa fb fn K = valB fn
def obsBG (n : Nat) (fa : List He.Fa) (fb : List FB) (fn : List He5.DefA) (g : Addr → Option Obj) : He.AlD := obsB fa fb fn (He.frG g (He5.asA g n))
def hookB (n : Nat) (fa : List He.Fa) (fb : List FB) (fn : List He5.DefA) : PySem.W.Hook where
  α := He.AlD
  obs := fun s => obsBG n fa fb fn s.heap.get?
  val := fun _ => valB fn
  says := fun _ h => ∃ K : PySem.W.Frag, K.In h ∧ SaysB fa fb fn K
  of := fun _ _ e => ⟨_, He.frG_in, e⟩
  keeps := fun _ _ _ ⟨K, hK, c⟩ k => ⟨K, PySem.W.Frag.In.keeps hK k, c⟩
theorem obsBG_eq {n : Nat} {fa : List He.Fa} {fb : List FB} {fn : List He5.DefA} {g : Addr → Option Obj} {s : Shared} (h : ∀ a, g a = s.heap.get? a) : obsBG n fa fb fn g = (hookB n fa fb fn).obs s := by
  have e : g = s.heap.get? := funext h
  rw [e] <;> rfl
section
variable {fa : List He.Fa} {fb : List FB} {fn : List He5.DefA} {K : PySem.W.Frag}
theorem SaysB.all (c : SaysB fa fb fn K) : (fa.all fun f => f.ok K) = true ∧ (fb.all fun f => f K) = true ∧ (fn.all fun d => d.ok K) = true := by
  obtain ⟨h1, h⟩ := He.ba (show ((fa.all fun f => f.ok K) && ((fb.all fun f => f K) && fn.all fun d => d.ok K)) = true from congrArg (fun z : He.AlD => z.1) c)
  exact ⟨h1, He.ba h⟩
theorem SaysB.fact (c : SaysB fa fb fn K) (i : Nat) {f : He.Fa} (h : fa[i]? = some f := by rfl) : f.ok K = true :=
  List.all_eq_true.mp c.all.1 f (List.mem_of_getElem? h)
theorem SaysB.factB (c : SaysB fa fb fn K) (i : Nat) {f : FB} (h : fb[i]? = some f := by rfl) : f K = true :=
  List.all_eq_true.mp c.all.2.1 f (List.mem_of_getElem? h)
theorem SaysB.def_ (c : SaysB fa fb fn K) (i : Nat) {d : He5.DefA} (h : fn[i]? = some d := by rfl) : ∃ fd, FunD K d.name d.qual d.params d.body d.scope (d.dvs K) (d.kws K) (d.at_ K) fd := by
  have e : fn.map (fun d => He5.fnA K (d.at_ K)) = fn.map He5.DefA.val := congrArg (fun z : He.AlD => z.2) c
  have e2 : (fn.map fun d => He5.fnA K (d.at_ K))[i]? = (fn.map He5.DefA.val)[i]? := by rw [e]
  rw [List.getElem?_map, List.getElem?_map, h] at e2
  exact He5.DefA.funD (Option.some.inj e2) (List.all_eq_true.mp c.all.2.2 d (List.mem_of_getElem? h))
end
/-! ### the end -/
theorem noCX {P : Program} {w : World} {H : Hp} {s : Shared} {e : Value} {s' : Shared} (h : L2.CX P w [] H s (fun _ _ _ => False) e s') : False := by
  obtain ⟨_, _, _, _, _, _, _, _, _, _, _, _, z⟩ := h
  exact z
theorem walkB {l : PySem.W.OpenLaw} {n k : Nat} {q : Program} {loose : List Str} {XP : (Str → Option Value) → Heap → Prop} {YP : World → Heap → Prop} {d : DefRec} {x : Str}
    (hn : l.most = some n) (hn2 : n ≤ sizeLine) (hdf : d.params.defaults = []) (hr : Room k callerA)
    (F : ∀ (w : World) (mg : Str → Option Value) (fa : Addr) (h : Heap), YP w h → h.Ns mainGlobals mg → mg d.name = some (.ref fa) → ∃ (K : PySem.W.Frag) (fd : FuncData) (sp : Sp), K.In h ∧
      (∀ (s : Shared) (u : Value), BindsTo s fd ⟨[u], []⟩ [(x, u)]) ∧ (∀ (H : Hp) (a : Addr) (ns : List Int), ns.length ≤ n → Only H → SqL K H a (ns.map V.int) → sp [.ref a] H (fun v _ => v = .bl true) fun _ _ _ => False) ∧
      ∀ base : Heap, K.In base → base.Ns mainGlobals mg → FnG l.prog w K mg base (L2.CX l.prog w) k fa fd [x] sp) : PySem.W.WalkO q loose XP YP l.row.toRowW d [] (fun f vs => PySem.call f vs) := by
  refine Att.attach_call hn hdf fun w s₀ s₁ mg mb fa o pm cd doc a vs ns G Y ho hd hcd hmg hobj hints hlen hg => ?_
  obtain ⟨K, fd, sp, kin, hb, hsp, hF⟩ := F w mg fa _ Y G.T.g hmg
  exact lawG kin G.T.g G.T.b G.T.builtins G.T.nolimit hg hobj hints (Nat.le_trans hlen hn2) hr hF hb (fun H hO hS => hsp H a ns hlen hO hS) fun H e s' => noCX
/-- the law's own promise: any list of at most n ints, the answer True -/
theorem law_spD {K : PySem.W.Frag} {mg : Str → Option Value} {n : Nat} {c : Con} (hc : ∀ (ns : List Int) (k : D → Prop) (kx : XC), ns.length ≤ n → k (.bl true) → c [.lst (ns.map D.int)] k kx)
    (H : Hp) (a : Addr) (ns : List Int) (hl : ns.length ≤ n) (_ : Only H) (hS : SqL K H a (ns.map V.int)) : spD ⟨K, mg⟩ c [.ref a] H (fun v _ => v = .bl true) fun _ _ _ => False := by
  refine ⟨fun _ => False, [.lst (ns.map D.int)], fun d => d = .bl true, no, fun _ z => z.elim, repLcons.mpr ⟨_, [], rfl, ?_, repLnil.mpr rfl⟩, hc ns _ _ hl rfl, fun d v H' _ r e => ?_, fun _ _ _ _ _ _ _ _ _ _ _ z => z⟩
  · unfold Rep
    exact ⟨a, _, rfl, hS.elim (fun h => .inl ⟨id, h⟩) .inr, RepL.ints⟩
  · subst e
    unfold Rep at r
    exact r
end Q
set_option Elab.async false
set_option linter.all false
set_option maxRecDepth 100000
set_option maxHeartbeats 0
namespace W
open PySem PySem.Spec PyProof.Rows L2 Q
def d_is_integer : He5.DefA := ⟨fun K => He.ga K "is_integer", "is_integer", "is_integer", defArgs s_is_integer, defBody s_is_integer, defScope s_is_integer, [], []⟩
def d_is_name : He5.DefA := ⟨fun K => He.ga K "is_name", "is_name", "is_name", defArgs s_is_name, defBody s_is_name, defScope s_is_name, [], []⟩
def d_Word___init__ : He5.DefA := ⟨fun K => He.ma K (He.ga K "Word") "__init__", "__init__", "Word.__init__", defArgs s_Word___init__, defBody s_Word___init__, defScope s_Word___init__, [], []⟩
def d_Word_number : He5.DefA := ⟨fun K => He.ma K (He.ga K "Word") "number", "number", "Word.number", defArgs s_Word_number, defBody s_Word_number, defScope s_Word_number, [], []⟩
def d_written : He5.DefA := ⟨fun K => He.ga K "written", "written", "written", defArgs s_written, defBody s_written, defScope s_written, [], []⟩
def d_parsed_word : He5.DefA := ⟨fun K => He.ga K "parsed_word", "parsed_word", "parsed_word", defArgs s_parsed_word, defBody s_parsed_word, defScope s_parsed_word, [], []⟩
def d_parsed_option : He5.DefA := ⟨fun K => He.ga K "parsed_option", "parsed_option", "parsed_option", defArgs s_parsed_option, defBody s_parsed_option, defScope s_parsed_option, [], []⟩
def d_is_lot : He5.DefA := ⟨fun K => He.ga K "is_lot", "is_lot", "is_lot", defArgs s_is_lot, defBody s_is_lot, defScope s_is_lot, [], []⟩
def d_check_lots : He5.DefA := ⟨fun K => He.ga K "check_lots", "check_lots", "check_lots", defArgs s_check_lots, defBody s_check_lots, defScope s_check_lots, [], []⟩
def d_parsed_options : He5.DefA := ⟨fun K => He.ga K "parsed_options", "parsed_options", "parsed_options", defArgs s_parsed_options, defBody s_parsed_options, defScope s_parsed_options, [], []⟩
def d_check_rules : He5.DefA := ⟨fun K => He.ga K "check_rules", "check_rules", "check_rules", defArgs s_check_rules, defBody s_check_rules, defScope s_check_rules, [], []⟩
def d_check_lies : He5.DefA := ⟨fun K => He.ga K "check_lies", "check_lies", "check_lies", defArgs s_check_lies, defBody s_check_lies, defScope s_check_lies, [], []⟩
def d_Plan___init__ : He5.DefA := ⟨fun K => He.ma K (He.ga K "Plan") "__init__", "__init__", "Plan.__init__", defArgs s_Plan___init__, defBody s_Plan___init__, defScope s_Plan___init__, [.adr (He.dflAt ("Plan", some "__init__") 0)], []⟩
def d_Plan_lots : He5.DefA := ⟨fun K => He5.wf K (He.ga K "Plan") "property" "lots", "lots", "Plan.lots", defArgs s_Plan_lots, defBody s_Plan_lots, defScope s_Plan_lots, [], []⟩
def d_numbers_of : He5.DefA := ⟨fun K => He.ga K "numbers_of", "numbers_of", "numbers_of", defArgs s_numbers_of, defBody s_numbers_of, defScope s_numbers_of, [], []⟩
def d_is_above : He5.DefA := ⟨fun K => He.ga K "is_above", "is_above", "is_above", defArgs s_is_above, defBody s_is_above, defScope s_is_above, [], []⟩
def d_has_quorum : He5.DefA := ⟨fun K => He.ga K "has_quorum", "has_quorum", "has_quorum", defArgs s_has_quorum, defBody s_has_quorum, defScope s_has_quorum, [], []⟩
def d_is_rule : He5.DefA := ⟨fun K => He.ga K "is_rule", "is_rule", "is_rule", defArgs s_is_rule, defBody s_is_rule, defScope s_is_rule, [], []⟩
def d_check_rule : He5.DefA := ⟨fun K => He.ga K "check_rule", "check_rule", "check_rule", defArgs s_check_rule, defBody s_check_rule, defScope s_check_rule, [], []⟩
def d_is_size : He5.DefA := ⟨fun K => He.ga K "is_size", "is_size", "is_size", defArgs s_is_size, defBody s_is_size, defScope s_is_size, [], []⟩
def d_are_sizes : He5.DefA := ⟨fun K => He.ga K "are_sizes", "are_sizes", "are_sizes", defArgs s_are_sizes, defBody s_are_sizes, defScope s_are_sizes, [], []⟩
def d_check_sizes : He5.DefA := ⟨fun K => He.ga K "check_sizes", "check_sizes", "check_sizes", defArgs s_check_sizes, defBody s_check_sizes, defScope s_check_sizes, [], []⟩
def d_are_counts : He5.DefA := ⟨fun K => He.ga K "are_counts", "are_counts", "are_counts", defArgs s_are_counts, defBody s_are_counts, defScope s_are_counts, [], []⟩
def d_check_counts : He5.DefA := ⟨fun K => He.ga K "check_counts", "check_counts", "check_counts", defArgs s_check_counts, defBody s_check_counts, defScope s_check_counts, [], []⟩
def d_Plan_is_quorum : He5.DefA := ⟨fun K => He.ma K (He.ga K "Plan") "is_quorum", "is_quorum", "Plan.is_quorum", defArgs s_Plan_is_quorum, defBody s_Plan_is_quorum, defScope s_Plan_is_quorum, [], []⟩
def d__law_purse : He5.DefA := ⟨fun K => He.ga K "_law_purse", "_law_purse", "_law_purse", defArgs s__law_purse, defBody s__law_purse, defScope s__law_purse, [], []⟩
def d__law_draw : He5.DefA := ⟨fun K => He.ga K "_law_draw", "_law_draw", "_law_draw", defArgs s__law_draw, defBody s__law_draw, defScope s__law_draw, [], []⟩
def d__law_pick : He5.DefA := ⟨fun K => He.ga K "_law_pick", "_law_pick", "_law_pick", defArgs s__law_pick, defBody s__law_pick, defScope s__law_pick, [], []⟩
def d__law_label : He5.DefA := ⟨fun K => He.ga K "_law_label", "_law_label", "_law_label", defArgs s__law_label, defBody s__law_label, defScope s__law_label, [], []⟩
def d__law_labels : He5.DefA := ⟨fun K => He.ga K "_law_labels", "_law_labels", "_law_labels", defArgs s__law_labels, defBody s__law_labels, defScope s__law_labels, [], []⟩
def d__law_count : He5.DefA := ⟨fun K => He.ga K "_law_count", "_law_count", "_law_count", defArgs s__law_count, defBody s__law_count, defScope s__law_count, [], []⟩
def d__law_word : He5.DefA := ⟨fun K => He.ga K "_law_word", "_law_word", "_law_word", defArgs s__law_word, defBody s__law_word, defScope s__law_word, [], []⟩
def d__law_option : He5.DefA := ⟨fun K => He.ga K "_law_option", "_law_option", "_law_option", defArgs s__law_option, defBody s__law_option, defScope s__law_option, [], []⟩
def d__law_shift : He5.DefA := ⟨fun K => He.ga K "_law_shift", "_law_shift", "_law_shift", defArgs s__law_shift, defBody s__law_shift, defScope s__law_shift, [], []⟩
def d__law_number : He5.DefA := ⟨fun K => He.ga K "_law_number", "_law_number", "_law_number", defArgs s__law_number, defBody s__law_number, defScope s__law_number, [], []⟩
def d__law_due : He5.DefA := ⟨fun K => He.ga K "_law_due", "_law_due", "_law_due", defArgs s__law_due, defBody s__law_due, defScope s__law_due, [], []⟩
def d__law_size : He5.DefA := ⟨fun K => He.ga K "_law_size", "_law_size", "_law_size", defArgs s__law_size, defBody s__law_size, defScope s__law_size, [], []⟩
def d__law_sizes : He5.DefA := ⟨fun K => He.ga K "_law_sizes", "_law_sizes", "_law_sizes", defArgs s__law_sizes, defBody s__law_sizes, defScope s__law_sizes, [], []⟩
def d__law_part : He5.DefA := ⟨fun K => He.ga K "_law_part", "_law_part", "_law_part", defArgs s__law_part, defBody s__law_part, defScope s__law_part, [], []⟩
def d__law_moved : He5.DefA := ⟨fun K => He.ga K "_law_moved", "_law_moved", "_law_moved", defArgs s__law_moved, defBody s__law_moved, defScope s__law_moved, [], []⟩
def d__law_right : He5.DefA := ⟨fun K => He.ga K "_law_right", "_law_right", "_law_right", defArgs s__law_right, defBody s__law_right, defScope s__law_right, [], []⟩
def d_law : He5.DefA := ⟨fun K => He.ga K "law", "law", "law", defArgs s_law, defBody s_law, defScope s_law, [], []⟩
def fn : List He5.DefA := [d_is_integer, d_is_name, d_Word___init__, d_Word_number, d_written, d_parsed_word, d_parsed_option, d_is_lot, d_check_lots, d_parsed_options, d_check_rules, d_check_lies, d_Plan___init__, d_Plan_lots, d_numbers_of, d_is_above, d_has_quorum, d_is_rule, d_check_rule, d_is_size, d_are_sizes, d_check_sizes, d_are_counts, d_check_counts, d_Plan_is_quorum, d__law_purse, d__law_draw, d__law_pick, d__law_label, d__law_labels, d__law_count, d__law_word, d__law_option, d__law_shift, d__law_number, d__law_due, d__law_size, d__law_sizes, d__law_part, d__law_moved, d__law_right, d_law]
def fa : List He.Fa := [.free "abs", .free "all", .free "any", .free "bool", .free "divmod", .free "enumerate", .glo "Plan", .cls "Plan", .noat "Plan" "held_lies", .noat "Plan" "held_lots", .noat "Plan" "held_rules", .noat "Plan" "lie_words", .noat "Plan" "lot_names", .noat "Plan" "options", .glo "Word", .cls "Word", .noat "Word" "head", .noat "Word" "shift", .str "DIGITS" "0123456789", .str "LETTERS" "abcdefghijklmnopqrstuvwxyz", .int "LONGEST_NAME" 8, .int "LONGEST_WRITTEN" 13, .int "MOST_LOTS" 5, .int "MOST_OPTIONS" 6, .int "MOST_RULES" 6, .int "MOST_SIZE" 1000000000000, .free "int", .free "isinstance", .free "len", .free "list", .free "max", .free "min", .free "range", .free "repr", .free "str", .free "tuple", .free "zip", .glo "is_integer", .glo "is_name", .mkr "Word", .meth "Word" "number", .glo "written", .glo "parsed_word", .glo "parsed_option", .glo "is_lot", .glo "check_lots", .glo "parsed_options", .glo "check_rules", .glo "check_lies", .mkr "Plan", .glo "numbers_of", .glo "is_above", .glo "has_quorum", .glo "is_rule", .glo "check_rule", .glo "is_size", .glo "are_sizes", .glo "check_sizes", .glo "are_counts", .glo "check_counts", .meth "Plan" "is_quorum", .glo "_law_purse", .glo "_law_draw", .glo "_law_pick", .glo "_law_label", .glo "_law_labels", .glo "_law_count", .glo "_law_word", .glo "_law_option", .glo "_law_shift", .glo "_law_number", .glo "_law_due", .glo "_law_size", .glo "_law_sizes", .glo "_law_part", .glo "_law_moved", .glo "_law_right", .glo "law"]
def fb : List (PySem.W.Frag → Bool) := [(emptyTup ("Plan", some "__init__") 0), (propN "Plan" "lots")]
abbrev Rw : PySem.W.OpenRow := PySem.W.OpenLaw.row PySem.Challenge.rw_quorumlots_k18_whole_quorums_that_stay
abbrev hk : PySem.W.Hook := hookB 6 fa fb fn
def ob (s : PySem.W.SharedT) : He.AlD := obsBG 6 fa fb fn (HandSHeadRun.getT s)
theorem ob_eq (s : PySem.W.SharedT) : ob s = hk.obs s.abs := obsBG_eq (HandSHeadRun.getT_eq s)
def names0 : List PySem.Str := ["_wall", "BadValue", "BadName", "InvalidText", "InvalidSizes", "InvalidCounts", "InvalidLots", "InvalidRules", "InvalidLies", "UnknownName", "MOST_LOTS", "MOST_RULES", "MOST_OPTIONS", "MOST_SIZE", "LETTERS", "DIGITS", "LONGEST_NAME", "is_integer", "is_name", "LONGEST_WRITTEN", "Word", "written", "parsed_word", "parsed_option", "is_lot", "check_lots", "parsed_options", "check_rules", "check_lies", "parsed_lot"]
def names1 : List PySem.Str := ["shown_end", "Plan", "numbers_of", "is_above", "has_quorum", "is_rule", "check_rule", "is_size", "are_sizes", "check_sizes", "are_counts", "check_counts", "_law_purse", "_law_draw", "_law_pick", "_law_label", "_law_labels", "_law_count", "_law_word", "_law_option", "_law_shift", "_law_number", "_law_size", "_law_sizes", "_law_part", "_law_due", "_law_moved", "_law_right"]
def names : List PySem.Str := names0 ++ names1
theorem run (w : World) : HandSHeadRun.RunEq Rw (PySem.W.view Rw.prog [63]) hk ob 6000 names w := by
  intro os
  kernel_rfl
theorem facts {P : Program} {w : World} {K : PySem.W.Frag} {h : Heap} {mg : Str → Option Value} {f : Addr} (X : K.In h) (G : h.Ns mainGlobals mg) (hfa : mg ("law" : Str) = some (.ref f)) (c : SaysB fa fb fn K) :
    ∃ fd : FuncData, (∀ (s : Shared) (v : Value), BindsTo s fd ⟨[v], []⟩ [("_law_script", v)]) ∧ ∀ base : Heap, K.In base → base.Ns mainGlobals mg → FnG P w K mg base (L2.CX P w) 10 f fd ["_law_script"] (spD ⟨K, mg⟩ c_law) := by
  have T : Fx K mg := ⟨He.free_ok X G (c.fact 0 (f := .free "abs") rfl),
    He.free_ok X G (c.fact 1 (f := .free "all") rfl),
    He.free_ok X G (c.fact 2 (f := .free "any") rfl),
    He.free_ok X G (c.fact 3 (f := .free "bool") rfl),
    He.free_ok X G (c.fact 4 (f := .free "divmod") rfl),
    He.free_ok X G (c.fact 5 (f := .free "enumerate") rfl),
    ⟨_, (He.glo_ok X G (c.fact 6 (f := .glo "Plan") rfl)), He.cls_ok (c.fact 7 (f := .cls "Plan") rfl), He.noat_ok (c.fact 8 (f := .noat "Plan" "held_lies") rfl)⟩,
    ⟨_, (He.glo_ok X G (c.fact 6 (f := .glo "Plan") rfl)), He.cls_ok (c.fact 7 (f := .cls "Plan") rfl), He.noat_ok (c.fact 9 (f := .noat "Plan" "held_lots") rfl)⟩,
    ⟨_, (He.glo_ok X G (c.fact 6 (f := .glo "Plan") rfl)), He.cls_ok (c.fact 7 (f := .cls "Plan") rfl), He.noat_ok (c.fact 10 (f := .noat "Plan" "held_rules") rfl)⟩,
    ⟨_, (He.glo_ok X G (c.fact 6 (f := .glo "Plan") rfl)), He.cls_ok (c.fact 7 (f := .cls "Plan") rfl), He.noat_ok (c.fact 11 (f := .noat "Plan" "lie_words") rfl)⟩,
    ⟨_, (He.glo_ok X G (c.fact 6 (f := .glo "Plan") rfl)), He.cls_ok (c.fact 7 (f := .cls "Plan") rfl), He.noat_ok (c.fact 12 (f := .noat "Plan" "lot_names") rfl)⟩,
    ⟨_, (He.glo_ok X G (c.fact 6 (f := .glo "Plan") rfl)), He.cls_ok (c.fact 7 (f := .cls "Plan") rfl), He.noat_ok (c.fact 13 (f := .noat "Plan" "options") rfl)⟩,
    ⟨_, (He.glo_ok X G (c.fact 14 (f := .glo "Word") rfl)), He.cls_ok (c.fact 15 (f := .cls "Word") rfl), He.noat_ok (c.fact 16 (f := .noat "Word" "head") rfl)⟩,
    ⟨_, (He.glo_ok X G (c.fact 14 (f := .glo "Word") rfl)), He.cls_ok (c.fact 15 (f := .cls "Word") rfl), He.noat_ok (c.fact 17 (f := .noat "Word" "shift") rfl)⟩,
    He.str_ok X G (c.fact 18 (f := .str "DIGITS" "0123456789") rfl),
    He.str_ok X G (c.fact 19 (f := .str "LETTERS" "abcdefghijklmnopqrstuvwxyz") rfl),
    He.int_ok X G (c.fact 20 (f := .int "LONGEST_NAME" 8) rfl),
    He.int_ok X G (c.fact 21 (f := .int "LONGEST_WRITTEN" 13) rfl),
    He.int_ok X G (c.fact 22 (f := .int "MOST_LOTS" 5) rfl),
    He.int_ok X G (c.fact 23 (f := .int "MOST_OPTIONS" 6) rfl),
    He.int_ok X G (c.fact 24 (f := .int "MOST_RULES" 6) rfl),
    He.int_ok X G (c.fact 25 (f := .int "MOST_SIZE" 1000000000000) rfl),
    He.free_ok X G (c.fact 26 (f := .free "int") rfl),
    He.free_ok X G (c.fact 27 (f := .free "isinstance") rfl),
    He.free_ok X G (c.fact 28 (f := .free "len") rfl),
    He.free_ok X G (c.fact 29 (f := .free "list") rfl),
    He.free_ok X G (c.fact 30 (f := .free "max") rfl),
    He.free_ok X G (c.fact 31 (f := .free "min") rfl),
    He.free_ok X G (c.fact 32 (f := .free "range") rfl),
    He.free_ok X G (c.fact 33 (f := .free "repr") rfl),
    He.free_ok X G (c.fact 34 (f := .free "str") rfl),
    He.free_ok X G (c.fact 35 (f := .free "tuple") rfl),
    He.free_ok X G (c.fact 36 (f := .free "zip") rfl)⟩
  obtain ⟨fd_is_integer, F_is_integer⟩ := c.def_ 0 (d := d_is_integer) rfl
  have G_is_integer : ∀ base : Heap, K.In base → base.Ns mainGlobals mg → FnD P w K mg base 1 "is_integer" c_is_integer := fun base kin gns => ⟨_, _, _, (He.glo_ok X G (c.fact 37 (f := .glo "is_integer") rfl)), F_is_integer.kp, (FunD.bindsN (ps := ["value"]) F_is_integer fun _ _ _ _ _ _ us hl => match us, hl with | [_], _ => rfl), ok_is_integer T F_is_integer ⟩
  obtain ⟨fd_is_name, F_is_name⟩ := c.def_ 1 (d := d_is_name) rfl
  have G_is_name : ∀ base : Heap, K.In base → base.Ns mainGlobals mg → FnD P w K mg base 1 "is_name" c_is_name := fun base kin gns => ⟨_, _, _, (He.glo_ok X G (c.fact 38 (f := .glo "is_name") rfl)), F_is_name.kp, (FunD.bindsN (ps := ["value"]) F_is_name fun _ _ _ _ _ _ us hl => match us, hl with | [_], _ => rfl), ok_is_name T F_is_name ⟩
  obtain ⟨fd_Word___init__, F_Word___init__⟩ := c.def_ 2 (d := d_Word___init__) rfl
  have M_Word : ∀ base : Heap, K.In base → base.Ns mainGlobals mg → MkD P w K mg base 1 "Word" ci_Word := fun base kin gns => ⟨_, _, _, _, (He.glo_ok X G (c.fact 14 (f := .glo "Word") rfl)), He.mkr_ok (c.fact 39 (f := .mkr "Word") rfl), (FunD.bindsN (ps := ["self", "head", "shift"]) F_Word___init__ fun _ _ _ _ _ _ us hl => match us, hl with | [_, _, _], _ => rfl), ok_Word___init__ T F_Word___init__ ⟩
  obtain ⟨fd_Word_number, F_Word_number⟩ := c.def_ 3 (d := d_Word_number) rfl
  have M_Word_number : ∀ base : Heap, K.In base → base.Ns mainGlobals mg → MtD P w K mg base 1 "Word" "number" c_Word_number := fun base kin gns => ⟨_, _, _, _, (He.glo_ok X G (c.fact 14 (f := .glo "Word") rfl)), He.cls_ok (c.fact 15 (f := .cls "Word") rfl), He.meth_ok (c.fact 40 (f := .meth "Word" "number") rfl), (FunD.bindsN (ps := ["self", "size"]) F_Word_number fun _ _ _ _ _ _ us hl => match us, hl with | [_, _], _ => rfl), ok_Word_number T F_Word_number ⟩
  obtain ⟨fd_written, F_written⟩ := c.def_ 4 (d := d_written) rfl
  have G_written : ∀ base : Heap, K.In base → base.Ns mainGlobals mg → FnD P w K mg base 1 "written" c_written := fun base kin gns => ⟨_, _, _, (He.glo_ok X G (c.fact 41 (f := .glo "written") rfl)), F_written.kp, (FunD.bindsN (ps := ["text"]) F_written fun _ _ _ _ _ _ us hl => match us, hl with | [_], _ => rfl), ok_written T F_written ⟩
  obtain ⟨fd_parsed_word, F_parsed_word⟩ := c.def_ 5 (d := d_parsed_word) rfl
  have G_parsed_word : ∀ base : Heap, K.In base → base.Ns mainGlobals mg → FnD P w K mg base 3 "parsed_word" c_parsed_word := fun base kin gns => ⟨_, _, _, (He.glo_ok X G (c.fact 42 (f := .glo "parsed_word") rfl)), F_parsed_word.kp, (FunD.bindsN (ps := ["text"]) F_parsed_word fun _ _ _ _ _ _ us hl => match us, hl with | [_], _ => rfl), ok_parsed_word T F_parsed_word (M_Word base kin gns) (G_written base kin gns)⟩
  obtain ⟨fd_parsed_option, F_parsed_option⟩ := c.def_ 6 (d := d_parsed_option) rfl
  have G_parsed_option : ∀ base : Heap, K.In base → base.Ns mainGlobals mg → FnD P w K mg base 4 "parsed_option" c_parsed_option := fun base kin gns => ⟨_, _, _, (He.glo_ok X G (c.fact 43 (f := .glo "parsed_option") rfl)), F_parsed_option.kp, (FunD.bindsN (ps := ["text", "names"]) F_parsed_option fun _ _ _ _ _ _ us hl => match us, hl with | [_, _], _ => rfl), ok_parsed_option T F_parsed_option (M_Word base kin gns) (G_parsed_word base kin gns)⟩
  obtain ⟨fd_is_lot, F_is_lot⟩ := c.def_ 7 (d := d_is_lot) rfl
  have G_is_lot : ∀ base : Heap, K.In base → base.Ns mainGlobals mg → FnD P w K mg base 2 "is_lot" c_is_lot := fun base kin gns => ⟨_, _, _, (He.glo_ok X G (c.fact 44 (f := .glo "is_lot") rfl)), F_is_lot.kp, (FunD.bindsN (ps := ["value", "taken"]) F_is_lot fun _ _ _ _ _ _ us hl => match us, hl with | [_, _], _ => rfl), ok_is_lot T F_is_lot (G_is_integer base kin gns) (G_is_name base kin gns)⟩
  obtain ⟨fd_check_lots, F_check_lots⟩ := c.def_ 8 (d := d_check_lots) rfl
  have G_check_lots : ∀ base : Heap, K.In base → base.Ns mainGlobals mg → FnD P w K mg base 3 "check_lots" c_check_lots := fun base kin gns => ⟨_, _, _, (He.glo_ok X G (c.fact 45 (f := .glo "check_lots") rfl)), F_check_lots.kp, (FunD.bindsN (ps := ["value"]) F_check_lots fun _ _ _ _ _ _ us hl => match us, hl with | [_], _ => rfl), ok_check_lots T F_check_lots (G_is_lot base kin gns)⟩
  obtain ⟨fd_parsed_options, F_parsed_options⟩ := c.def_ 9 (d := d_parsed_options) rfl
  have G_parsed_options : ∀ base : Heap, K.In base → base.Ns mainGlobals mg → FnD P w K mg base 5 "parsed_options" c_parsed_options := fun base kin gns => ⟨_, _, _, (He.glo_ok X G (c.fact 46 (f := .glo "parsed_options") rfl)), F_parsed_options.kp, (FunD.bindsN (ps := ["value", "names"]) F_parsed_options fun _ _ _ _ _ _ us hl => match us, hl with | [_, _], _ => rfl), ok_parsed_options T F_parsed_options (G_parsed_option base kin gns)⟩
  obtain ⟨fd_check_rules, F_check_rules⟩ := c.def_ 10 (d := d_check_rules) rfl
  have G_check_rules : ∀ base : Heap, K.In base → base.Ns mainGlobals mg → FnD P w K mg base 6 "check_rules" c_check_rules := fun base kin gns => ⟨_, _, _, (He.glo_ok X G (c.fact 47 (f := .glo "check_rules") rfl)), F_check_rules.kp, (FunD.bindsN (ps := ["names", "value"]) F_check_rules fun _ _ _ _ _ _ us hl => match us, hl with | [_, _], _ => rfl), ok_check_rules T F_check_rules (G_is_name base kin gns) (G_parsed_options base kin gns)⟩
  obtain ⟨fd_check_lies, F_check_lies⟩ := c.def_ 11 (d := d_check_lies) rfl
  have G_check_lies : ∀ base : Heap, K.In base → base.Ns mainGlobals mg → FnD P w K mg base 5 "check_lies" c_check_lies := fun base kin gns => ⟨_, _, _, (He.glo_ok X G (c.fact 48 (f := .glo "check_lies") rfl)), F_check_lies.kp, (FunD.bindsN (ps := ["names", "value"]) F_check_lies fun _ _ _ _ _ _ us hl => match us, hl with | [_, _], _ => rfl), ok_check_lies T F_check_lies (G_parsed_option base kin gns)⟩
  obtain ⟨fd_Plan___init__, F_Plan___init__⟩ := c.def_ 12 (d := d_Plan___init__) rfl
  have B_Plan___init__ := FunD.binds1 (ps := ["self", "lots", "rules", "lies"]) F_Plan___init__ 3 0 (List.cons_ne_nil _ _) rfl fun _ _ _ _ _ _ _ us its h1 h2 => match us, its, h1, h2 with | [_, _, _], [_], _, _ => ⟨_, rfl, rfl⟩
  obtain ⟨ds_Plan___init__, V_Plan___init__, B_Plan___init__⟩ := B_Plan___init__
  have E_Plan : ∀ base : Heap, K.In base → base.Ns mainGlobals mg → MkE P w K mg base 7 "Plan" ci_Plan [.tup []] := fun base kin gns => ⟨_, _, _, _, _, _, (He.glo_ok X G (c.fact 6 (f := .glo "Plan") rfl)), He.mkr_ok (c.fact 49 (f := .mkr "Plan") rfl), B_Plan___init__, V_Plan___init__, fun S H => emptyTup_ok (c.factB 0 rfl) S H, ok_Plan___init__ T F_Plan___init__ (G_check_lies base kin gns) (G_check_lots base kin gns) (G_check_rules base kin gns)⟩
  obtain ⟨fd_Plan_lots, F_Plan_lots⟩ := c.def_ 13 (d := d_Plan_lots) rfl
  have R_Plan_lots : ∀ base : Heap, K.In base → base.Ns mainGlobals mg → PrD P w K mg base 1 "Plan" "lots" c_Plan_lots := fun base kin gns => ⟨_, _, _, _, _, (He.glo_ok X G (c.fact 6 (f := .glo "Plan") rfl)), He.cls_ok (c.fact 7 (f := .cls "Plan") rfl), prop_ok (c.factB 1 rfl), (FunD.bindsN (ps := ["self"]) F_Plan_lots fun _ _ _ _ _ _ us hl => match us, hl with | [_], _ => rfl), ok_Plan_lots T F_Plan_lots ⟩
  obtain ⟨fd_numbers_of, F_numbers_of⟩ := c.def_ 14 (d := d_numbers_of) rfl
  have G_numbers_of : ∀ base : Heap, K.In base → base.Ns mainGlobals mg → FnD P w K mg base 2 "numbers_of" c_numbers_of := fun base kin gns => ⟨_, _, _, (He.glo_ok X G (c.fact 50 (f := .glo "numbers_of") rfl)), F_numbers_of.kp, (FunD.bindsN (ps := ["option", "sizes"]) F_numbers_of fun _ _ _ _ _ _ us hl => match us, hl with | [_, _], _ => rfl), ok_numbers_of T F_numbers_of (M_Word_number base kin gns)⟩
  obtain ⟨fd_is_above, F_is_above⟩ := c.def_ 15 (d := d_is_above) rfl
  have G_is_above : ∀ base : Heap, K.In base → base.Ns mainGlobals mg → FnD P w K mg base 1 "is_above" c_is_above := fun base kin gns => ⟨_, _, _, (He.glo_ok X G (c.fact 51 (f := .glo "is_above") rfl)), F_is_above.kp, (FunD.bindsN (ps := ["numbers", "others"]) F_is_above fun _ _ _ _ _ _ us hl => match us, hl with | [_, _], _ => rfl), ok_is_above T F_is_above ⟩
  obtain ⟨fd_has_quorum, F_has_quorum⟩ := c.def_ 16 (d := d_has_quorum) rfl
  have G_has_quorum : ∀ base : Heap, K.In base → base.Ns mainGlobals mg → FnD P w K mg base 3 "has_quorum" c_has_quorum := fun base kin gns => ⟨_, _, _, (He.glo_ok X G (c.fact 52 (f := .glo "has_quorum") rfl)), F_has_quorum.kp, (FunD.bindsN (ps := ["plan", "rule", "sizes", "counts"]) F_has_quorum fun _ _ _ _ _ _ us hl => match us, hl with | [_, _, _, _], _ => rfl), ok_has_quorum T F_has_quorum (G_is_above base kin gns) (G_numbers_of base kin gns)⟩
  obtain ⟨fd_is_rule, F_is_rule⟩ := c.def_ 17 (d := d_is_rule) rfl
  have G_is_rule : ∀ base : Heap, K.In base → base.Ns mainGlobals mg → FnD P w K mg base 1 "is_rule" c_is_rule := fun base kin gns => ⟨_, _, _, (He.glo_ok X G (c.fact 53 (f := .glo "is_rule") rfl)), F_is_rule.kp, (FunD.bindsN (ps := ["plan", "value"]) F_is_rule fun _ _ _ _ _ _ us hl => match us, hl with | [_, _], _ => rfl), ok_is_rule T F_is_rule ⟩
  obtain ⟨fd_check_rule, F_check_rule⟩ := c.def_ 18 (d := d_check_rule) rfl
  have G_check_rule : ∀ base : Heap, K.In base → base.Ns mainGlobals mg → FnD P w K mg base 2 "check_rule" c_check_rule := fun base kin gns => ⟨_, _, _, (He.glo_ok X G (c.fact 54 (f := .glo "check_rule") rfl)), F_check_rule.kp, (FunD.bindsN (ps := ["plan", "value"]) F_check_rule fun _ _ _ _ _ _ us hl => match us, hl with | [_, _], _ => rfl), ok_check_rule T F_check_rule (G_is_rule base kin gns)⟩
  obtain ⟨fd_is_size, F_is_size⟩ := c.def_ 19 (d := d_is_size) rfl
  have G_is_size : ∀ base : Heap, K.In base → base.Ns mainGlobals mg → FnD P w K mg base 2 "is_size" c_is_size := fun base kin gns => ⟨_, _, _, (He.glo_ok X G (c.fact 55 (f := .glo "is_size") rfl)), F_is_size.kp, (FunD.bindsN (ps := ["lot", "value"]) F_is_size fun _ _ _ _ _ _ us hl => match us, hl with | [_, _], _ => rfl), ok_is_size T F_is_size (G_is_integer base kin gns)⟩
  obtain ⟨fd_are_sizes, F_are_sizes⟩ := c.def_ 20 (d := d_are_sizes) rfl
  have G_are_sizes : ∀ base : Heap, K.In base → base.Ns mainGlobals mg → FnD P w K mg base 3 "are_sizes" c_are_sizes := fun base kin gns => ⟨_, _, _, (He.glo_ok X G (c.fact 56 (f := .glo "are_sizes") rfl)), F_are_sizes.kp, (FunD.bindsN (ps := ["plan", "value"]) F_are_sizes fun _ _ _ _ _ _ us hl => match us, hl with | [_, _], _ => rfl), ok_are_sizes T F_are_sizes (R_Plan_lots base kin gns) (G_is_size base kin gns)⟩
  obtain ⟨fd_check_sizes, F_check_sizes⟩ := c.def_ 21 (d := d_check_sizes) rfl
  have G_check_sizes : ∀ base : Heap, K.In base → base.Ns mainGlobals mg → FnD P w K mg base 4 "check_sizes" c_check_sizes := fun base kin gns => ⟨_, _, _, (He.glo_ok X G (c.fact 57 (f := .glo "check_sizes") rfl)), F_check_sizes.kp, (FunD.bindsN (ps := ["plan", "value"]) F_check_sizes fun _ _ _ _ _ _ us hl => match us, hl with | [_, _], _ => rfl), ok_check_sizes T F_check_sizes (G_are_sizes base kin gns)⟩
  obtain ⟨fd_are_counts, F_are_counts⟩ := c.def_ 22 (d := d_are_counts) rfl
  have G_are_counts : ∀ base : Heap, K.In base → base.Ns mainGlobals mg → FnD P w K mg base 2 "are_counts" c_are_counts := fun base kin gns => ⟨_, _, _, (He.glo_ok X G (c.fact 58 (f := .glo "are_counts") rfl)), F_are_counts.kp, (FunD.bindsN (ps := ["sizes", "value"]) F_are_counts fun _ _ _ _ _ _ us hl => match us, hl with | [_, _], _ => rfl), ok_are_counts T F_are_counts (G_is_integer base kin gns)⟩
  obtain ⟨fd_check_counts, F_check_counts⟩ := c.def_ 23 (d := d_check_counts) rfl
  have G_check_counts : ∀ base : Heap, K.In base → base.Ns mainGlobals mg → FnD P w K mg base 3 "check_counts" c_check_counts := fun base kin gns => ⟨_, _, _, (He.glo_ok X G (c.fact 59 (f := .glo "check_counts") rfl)), F_check_counts.kp, (FunD.bindsN (ps := ["sizes", "value"]) F_check_counts fun _ _ _ _ _ _ us hl => match us, hl with | [_, _], _ => rfl), ok_check_counts T F_check_counts (G_are_counts base kin gns)⟩
  obtain ⟨fd_Plan_is_quorum, F_Plan_is_quorum⟩ := c.def_ 24 (d := d_Plan_is_quorum) rfl
  have M_Plan_is_quorum : ∀ base : Heap, K.In base → base.Ns mainGlobals mg → MtD P w K mg base 5 "Plan" "is_quorum" c_Plan_is_quorum := fun base kin gns => ⟨_, _, _, _, (He.glo_ok X G (c.fact 6 (f := .glo "Plan") rfl)), He.cls_ok (c.fact 7 (f := .cls "Plan") rfl), He.meth_ok (c.fact 60 (f := .meth "Plan" "is_quorum") rfl), (FunD.bindsN (ps := ["self", "rule", "sizes", "counts"]) F_Plan_is_quorum fun _ _ _ _ _ _ us hl => match us, hl with | [_, _, _, _], _ => rfl), ok_Plan_is_quorum T F_Plan_is_quorum (G_check_counts base kin gns) (G_check_rule base kin gns) (G_check_sizes base kin gns) (G_has_quorum base kin gns)⟩
  obtain ⟨fd__law_purse, F__law_purse⟩ := c.def_ 25 (d := d__law_purse) rfl
  have G__law_purse : ∀ base : Heap, K.In base → base.Ns mainGlobals mg → FnF P w K mg base 1 "_law_purse" c__law_purse := fun base kin gns => ⟨_, _, _, (He.glo_ok X G (c.fact 61 (f := .glo "_law_purse") rfl)), F__law_purse.kp, (FunD.bindsN (ps := ["_law_script", "_law_k"]) F__law_purse fun _ _ _ _ _ _ us hl => match us, hl with | [_, _], _ => rfl), ok__law_purse T F__law_purse ⟩
  obtain ⟨fd__law_draw, F__law_draw⟩ := c.def_ 26 (d := d__law_draw) rfl
  have G__law_draw : ∀ base : Heap, K.In base → base.Ns mainGlobals mg → FnP P w K mg base 1 "_law_draw" c__law_draw := fun base kin gns => ⟨_, _, _, (He.glo_ok X G (c.fact 62 (f := .glo "_law_draw") rfl)), F__law_draw.kp, (FunD.bindsN (ps := ["_law_purse_here", "_law_size_here"]) F__law_draw fun _ _ _ _ _ _ us hl => match us, hl with | [_, _], _ => rfl), ok__law_draw T F__law_draw ⟩
  obtain ⟨fd__law_pick, F__law_pick⟩ := c.def_ 27 (d := d__law_pick) rfl
  have G__law_pick : ∀ base : Heap, K.In base → base.Ns mainGlobals mg → FnP P w K mg base 2 "_law_pick" c__law_pick := fun base kin gns => ⟨_, _, _, (He.glo_ok X G (c.fact 63 (f := .glo "_law_pick") rfl)), F__law_pick.kp, (FunD.bindsN (ps := ["_law_purse_here", "_law_menu"]) F__law_pick fun _ _ _ _ _ _ us hl => match us, hl with | [_, _], _ => rfl), ok__law_pick T F__law_pick (G__law_draw base kin gns)⟩
  obtain ⟨fd__law_label, F__law_label⟩ := c.def_ 28 (d := d__law_label) rfl
  have G__law_label : ∀ base : Heap, K.In base → base.Ns mainGlobals mg → FnP P w K mg base 3 "_law_label" c__law_label := fun base kin gns => ⟨_, _, _, (He.glo_ok X G (c.fact 64 (f := .glo "_law_label") rfl)), F__law_label.kp, (FunD.bindsN (ps := ["_law_purse_here"]) F__law_label fun _ _ _ _ _ _ us hl => match us, hl with | [_], _ => rfl), ok__law_label T F__law_label (G__law_draw base kin gns) (G__law_pick base kin gns)⟩
  obtain ⟨fd__law_labels, F__law_labels⟩ := c.def_ 29 (d := d__law_labels) rfl
  have G__law_labels : ∀ base : Heap, K.In base → base.Ns mainGlobals mg → FnP P w K mg base 4 "_law_labels" c__law_labels := fun base kin gns => ⟨_, _, _, (He.glo_ok X G (c.fact 65 (f := .glo "_law_labels") rfl)), F__law_labels.kp, (FunD.bindsN (ps := ["_law_purse_here", "_law_many"]) F__law_labels fun _ _ _ _ _ _ us hl => match us, hl with | [_, _], _ => rfl), ok__law_labels T F__law_labels (G__law_draw base kin gns) (G__law_label base kin gns) (G__law_pick base kin gns)⟩
  obtain ⟨fd__law_count, F__law_count⟩ := c.def_ 30 (d := d__law_count) rfl
  have G__law_count : ∀ base : Heap, K.In base → base.Ns mainGlobals mg → FnP P w K mg base 3 "_law_count" c__law_count := fun base kin gns => ⟨_, _, _, (He.glo_ok X G (c.fact 66 (f := .glo "_law_count") rfl)), F__law_count.kp, (FunD.bindsN (ps := ["_law_purse_here"]) F__law_count fun _ _ _ _ _ _ us hl => match us, hl with | [_], _ => rfl), ok__law_count T F__law_count (G__law_draw base kin gns) (G__law_pick base kin gns)⟩
  obtain ⟨fd__law_word, F__law_word⟩ := c.def_ 31 (d := d__law_word) rfl
  have G__law_word : ∀ base : Heap, K.In base → base.Ns mainGlobals mg → FnP P w K mg base 4 "_law_word" c__law_word := fun base kin gns => ⟨_, _, _, (He.glo_ok X G (c.fact 67 (f := .glo "_law_word") rfl)), F__law_word.kp, (FunD.bindsN (ps := ["_law_purse_here"]) F__law_word fun _ _ _ _ _ _ us hl => match us, hl with | [_], _ => rfl), ok__law_word T F__law_word (G__law_count base kin gns) (G__law_pick base kin gns)⟩
  obtain ⟨fd__law_option, F__law_option⟩ := c.def_ 32 (d := d__law_option) rfl
  have G__law_option : ∀ base : Heap, K.In base → base.Ns mainGlobals mg → FnP P w K mg base 5 "_law_option" c__law_option := fun base kin gns => ⟨_, _, _, (He.glo_ok X G (c.fact 68 (f := .glo "_law_option") rfl)), F__law_option.kp, (FunD.bindsN (ps := ["_law_purse_here", "_law_deep", "_law_most"]) F__law_option fun _ _ _ _ _ _ us hl => match us, hl with | [_, _, _], _ => rfl), ok__law_option T F__law_option (G__law_draw base kin gns) (G__law_word base kin gns)⟩
  obtain ⟨fd__law_shift, F__law_shift⟩ := c.def_ 33 (d := d__law_shift) rfl
  have G__law_shift : ∀ base : Heap, K.In base → base.Ns mainGlobals mg → FnGD P w K mg base 1 "_law_shift" c__law_shift := fun base kin gns => ⟨_, _, _, (He.glo_ok X G (c.fact 69 (f := .glo "_law_shift") rfl)), F__law_shift.kp, (FunD.bindsN (ps := ["_law_word_here"]) F__law_shift fun _ _ _ _ _ _ us hl => match us, hl with | [_], _ => rfl), ok__law_shift T F__law_shift ⟩
  obtain ⟨fd__law_number, F__law_number⟩ := c.def_ 34 (d := d__law_number) rfl
  have G__law_number : ∀ base : Heap, K.In base → base.Ns mainGlobals mg → FnGD P w K mg base 2 "_law_number" c__law_number := fun base kin gns => ⟨_, _, _, (He.glo_ok X G (c.fact 70 (f := .glo "_law_number") rfl)), F__law_number.kp, (FunD.bindsN (ps := ["_law_word_here", "_law_size_here"]) F__law_number fun _ _ _ _ _ _ us hl => match us, hl with | [_, _], _ => rfl), ok__law_number T F__law_number (G__law_shift base kin gns)⟩
  obtain ⟨fd__law_due, F__law_due⟩ := c.def_ 35 (d := d__law_due) rfl
  have G__law_due : ∀ base : Heap, K.In base → base.Ns mainGlobals mg → FnGD P w K mg base 3 "_law_due" c__law_due := fun base kin gns => ⟨_, _, _, (He.glo_ok X G (c.fact 71 (f := .glo "_law_due") rfl)), F__law_due.kp, (FunD.bindsN (ps := ["_law_some", "_law_big", "_law_have"]) F__law_due fun _ _ _ _ _ _ us hl => match us, hl with | [_, _, _], _ => rfl), ok__law_due T F__law_due (G__law_number base kin gns)⟩
  obtain ⟨fd__law_size, F__law_size⟩ := c.def_ 36 (d := d__law_size) rfl
  have G__law_size : ∀ base : Heap, K.In base → base.Ns mainGlobals mg → FnP P w K mg base 3 "_law_size" c__law_size := fun base kin gns => ⟨_, _, _, (He.glo_ok X G (c.fact 72 (f := .glo "_law_size") rfl)), F__law_size.kp, (FunD.bindsN (ps := ["_law_purse_here", "_law_span", "_law_near"]) F__law_size fun _ _ _ _ _ _ us hl => match us, hl with | [_, _, _], _ => rfl), ok__law_size T F__law_size (G__law_draw base kin gns) (G__law_pick base kin gns)⟩
  obtain ⟨fd__law_sizes, F__law_sizes⟩ := c.def_ 37 (d := d__law_sizes) rfl
  have G__law_sizes : ∀ base : Heap, K.In base → base.Ns mainGlobals mg → FnP P w K mg base 4 "_law_sizes" c__law_sizes := fun base kin gns => ⟨_, _, _, (He.glo_ok X G (c.fact 73 (f := .glo "_law_sizes") rfl)), F__law_sizes.kp, (FunD.bindsN (ps := ["_law_purse_here", "_law_spans", "_law_row"]) F__law_sizes fun _ _ _ _ _ _ us hl => match us, hl with | [_, _, _], _ => rfl), ok__law_sizes T F__law_sizes (G__law_draw base kin gns) (G__law_shift base kin gns) (G__law_size base kin gns)⟩
  obtain ⟨fd__law_part, F__law_part⟩ := c.def_ 38 (d := d__law_part) rfl
  have G__law_part : ∀ base : Heap, K.In base → base.Ns mainGlobals mg → FnP P w K mg base 3 "_law_part" c__law_part := fun base kin gns => ⟨_, _, _, (He.glo_ok X G (c.fact 74 (f := .glo "_law_part") rfl)), F__law_part.kp, (FunD.bindsN (ps := ["_law_purse_here", "_law_top"]) F__law_part fun _ _ _ _ _ _ us hl => match us, hl with | [_, _], _ => rfl), ok__law_part T F__law_part (G__law_draw base kin gns) (G__law_pick base kin gns)⟩
  obtain ⟨fd__law_moved, F__law_moved⟩ := c.def_ 39 (d := d__law_moved) rfl
  have G__law_moved : ∀ base : Heap, K.In base → base.Ns mainGlobals mg → FnP P w K mg base 4 "_law_moved" c__law_moved := fun base kin gns => ⟨_, _, _, (He.glo_ok X G (c.fact 75 (f := .glo "_law_moved") rfl)), F__law_moved.kp, (FunD.bindsN (ps := ["_law_purse_here", "_law_big", "_law_have", "_law_due_here"]) F__law_moved fun _ _ _ _ _ _ us hl => match us, hl with | [_, _, _, _], _ => rfl), ok__law_moved T F__law_moved (G__law_draw base kin gns) (G__law_part base kin gns)⟩
  obtain ⟨fd__law_right, F__law_right⟩ := c.def_ 40 (d := d__law_right) rfl
  have G__law_right : ∀ base : Heap, K.In base → base.Ns mainGlobals mg → FnP P w K mg base 9 "_law_right" c__law_right := fun base kin gns => ⟨_, _, _, (He.glo_ok X G (c.fact 76 (f := .glo "_law_right") rfl)), F__law_right.kp, (FunD.bindsN (ps := ["_law_purse_here"]) F__law_right fun _ _ _ _ _ _ us hl => match us, hl with | [_], _ => rfl), ok__law_right T F__law_right (E_Plan base kin gns) (M_Plan_is_quorum base kin gns) (G__law_draw base kin gns) (G__law_due base kin gns) (G__law_labels base kin gns) (G__law_moved base kin gns) (G__law_number base kin gns) (G__law_option base kin gns) (G__law_pick base kin gns) (G__law_sizes base kin gns)⟩
  obtain ⟨fd_law, F_law⟩ := c.def_ 41 (d := d_law) rfl
  have e := hfa.symm.trans (He.glo_ok X G (c.fact 77 (f := .glo "law") rfl))
  cases e
  have b := FunD.bindsA (ps := ["_law_script"]) F_law fun _ _ _ _ _ _ us hl => match us, hl with | [_], _ => rfl
  exact ⟨fd_law, fun s v => b s [v] rfl, fun base kin gns => ok_law T F_law (G__law_purse base kin gns) (G__law_right base kin gns)⟩
end W
open PySem PySem.W PySem.Calls PyProof.Rows
set_option maxRecDepth 100000 in
theorem PySem.Challenge.cw_quorumlots_k18_whole_quorums_that_stay_holds : PySem.Challenge.rw_quorumlots_k18_whole_quorums_that_stay.Holds := by
  w_on; o_law
  refine HandSHeadRun.head_any (r := OpenLaw.row PySem.Challenge.rw_quorumlots_k18_whole_quorums_that_stay) (q := view (OpenLaw.row PySem.Challenge.rw_quorumlots_k18_whole_quorums_that_stay).prog [63]) (H := W.hk) (ob := W.ob) (M := 6000) (loose := W.names) (d := HandSHeadRun.topDef (OpenLaw.row PySem.Challenge.rw_quorumlots_k18_whole_quorums_that_stay).prog 63) (kwd := []) W.ob_eq
    (by kernel_rfl) (fun s => by kernel_rfl) W.run (by kernel_rfl) (by kernel_rfl) (by kernel_rfl) (by rfl) (by first | assumption | decide +kernel) (by decide +kernel) ⟨rfl, rfl, rfl, rfl, rfl, by decide +kernel⟩ ?hw ?hc
  case hw => w_witness2
  case hc =>
    refine Q.walkB (l := PySem.Challenge.rw_quorumlots_k18_whole_quorums_that_stay) (n := 63) (k := 10) (x := "_law_script") rfl (by decide) (by kernel_rfl) ⟨rfl, by decide, by decide⟩ ?F
    intro w mg fa h Y G hmg0
    obtain ⟨K, KX, c⟩ := Y
    have hmg : mg ("law" : PySem.Str) = some (.ref fa) := by
      have e : (HandSHeadRun.topDef (OpenLaw.row PySem.Challenge.rw_quorumlots_k18_whole_quorums_that_stay).prog 63).name = ("law" : PySem.Str) := by kernel_rfl
      rw [← e]
      exact hmg0
    obtain ⟨fd, hb, hF⟩ := W.facts (P := (PySem.Challenge.rw_quorumlots_k18_whole_quorums_that_stay).prog) (w := w) KX G hmg c
    exact ⟨K, fd, Q.spD ⟨K, mg⟩ W.c_law, KX, hb, Q.law_spD (fun ns k kx h z => ⟨_, rfl, ns, rfl, h, z⟩), hF⟩
