import PyProof.Rows.All
import Wide.All
import OpenK.AllK
import Wide.FinOn
import KE.KItem
import KE.KAssignIn
import Lean
import PySem.Challenge.RW_tk0097_02
set_option Elab.async false
set_option autoImplicit false
set_option linter.unusedVariables false
set_option linter.unusedSimpArgs false
section
namespace Mine
open PySem PySem.W PyProof.Rows PySem.Calls

inductive D where
  | none
  | bool (b : Bool)
  | int (i : Int)
  | str (s : Str)
  | bytes (b : List UInt8)
  | tup (xs : List D)
  | lst (xs : List D)

inductive V where
  | d (d : D)
  | r (k : Nat)

inductive Cell where
  | list (xs : List D)
  | inst (C : Addr) (attrs : List D)
  | dead

structure S where
  vars : List (Option V)
  heap : List Cell
  prot : Nat

noncomputable abbrev tupObj (vs : List Value) (n : Nat) : Obj := { cls := .type "tuple", data := .seq vs.toArray n }
noncomputable abbrev lstObj (vs : List Value) (n : Nat) : Obj := { cls := .type "list", data := .seq vs.toArray n }

mutual
noncomputable def RepD (N : Addr → Prop) (h : Heap) : D → Value → Prop
  | .none, v => v = .none
  | .bool b, v => v = .bool b
  | .int i, v => ∃ t, v = .int i t
  | .str x, v => ∃ t, v = .str x t
  | .bytes b, v => ∃ t, v = .bytes b.toArray t
  | .tup xs, v => ∃ a vs n, v = .ref a ∧ ¬ N a ∧ h.get? a = some (tupObj vs n) ∧ RepDs N h xs vs
  | .lst xs, v => ∃ a vs n, v = .ref a ∧ ¬ N a ∧ h.get? a = some (lstObj vs n) ∧ RepDs N h xs vs
noncomputable def RepDs (N : Addr → Prop) (h : Heap) : List D → List Value → Prop
  | [], vs => vs = []
  | d :: ds, vs => ∃ v r, vs = v :: r ∧ RepD N h d v ∧ RepDs N h ds r
end

noncomputable def KeepSeq (N : Addr → Prop) (h : Heap) (N' : Addr → Prop) (h' : Heap) : Prop :=
  ∀ a o, ¬ N a → h.get? a = some o → (∃ vs n, o = tupObj vs n ∨ o = lstObj vs n) → h'.get? a = some o ∧ ¬ N' a

mutual
theorem RepD.keep {N N' : Addr → Prop} {h h' : Heap} (k : KeepSeq N h N' h') : ∀ (d : D) (v : Value), RepD N h d v → RepD N' h' d v
  | .none, _, x => x
  | .bool _, _, x => x
  | .int _, _, x => x
  | .str _, _, x => x
  | .bytes _, _, x => x
  | .tup xs, _, ⟨a, vs, n, e, na, ho, hs⟩ => let ⟨p, q⟩ := k a _ na ho ⟨vs, n, .inl rfl⟩; ⟨a, vs, n, e, q, p, RepDs.keep k xs vs hs⟩
  | .lst xs, _, ⟨a, vs, n, e, na, ho, hs⟩ => let ⟨p, q⟩ := k a _ na ho ⟨vs, n, .inr rfl⟩; ⟨a, vs, n, e, q, p, RepDs.keep k xs vs hs⟩
theorem RepDs.keep {N N' : Addr → Prop} {h h' : Heap} (k : KeepSeq N h N' h') : ∀ (ds : List D) (vs : List Value), RepDs N h ds vs → RepDs N' h' ds vs
  | [], _, x => x
  | d :: ds, _, ⟨v, r, e, hv, hr⟩ => ⟨v, r, e, RepD.keep k d v hv, RepDs.keep k ds r hr⟩
end

theorem RepDs.length {N : Addr → Prop} {h : Heap} : ∀ {ds : List D} {vs : List Value}, RepDs N h ds vs → vs.length = ds.length
  | [], _, x => by rw [show _ = [] from x]; rfl
  | d :: ds, _, ⟨v, r, e, _, hr⟩ => by rw [e, List.length_cons, List.length_cons, RepDs.length hr]

theorem RepDs.get {N : Addr → Prop} {h : Heap} : ∀ {ds : List D} {vs : List Value} {i : Nat} {d : D}, RepDs N h ds vs → ds[i]? = some d → ∃ v, vs[i]? = some v ∧ RepD N h d v
  | [], _, i, d, _, e => by simp at e
  | d' :: ds, _, 0, d, ⟨v, r, e, hv, _⟩, q => by simp at q; subst q; exact ⟨v, by rw [e]; rfl, hv⟩
  | d' :: ds, _, i + 1, d, ⟨v, r, e, _, hr⟩, q => by
    obtain ⟨u, hu, hd⟩ := RepDs.get (i := i) hr (by simpa using q)
    exact ⟨u, by rw [e]; simpa using hu, hd⟩

theorem RepDs.append {N : Addr → Prop} {h : Heap} : ∀ {ds es : List D} {vs us : List Value}, RepDs N h ds vs → RepDs N h es us → RepDs N h (ds ++ es) (vs ++ us)
  | [], _, _, _, x, y => by rw [show _ = [] from x]; exact y
  | d :: ds, _, _, _, ⟨v, r, e, hv, hr⟩, y => ⟨v, r ++ _, by rw [e]; rfl, hv, RepDs.append hr y⟩

theorem RepDs.take {N : Addr → Prop} {h : Heap} : ∀ {ds : List D} {vs : List Value} (n : Nat), RepDs N h ds vs → RepDs N h (ds.take n) (vs.take n)
  | [], _, n, x => by rw [show _ = [] from x]; cases n <;> exact rfl
  | d :: ds, _, 0, _ => rfl
  | d :: ds, _, n + 1, ⟨v, r, e, hv, hr⟩ => by rw [e]; exact ⟨v, _, rfl, hv, RepDs.take n hr⟩
theorem RepDs.drop {N : Addr → Prop} {h : Heap} : ∀ {ds : List D} {vs : List Value} (n : Nat), RepDs N h ds vs → RepDs N h (ds.drop n) (vs.drop n)
  | [], _, n, x => by rw [show _ = [] from x]; cases n <;> exact rfl
  | d :: ds, _, 0, x => x
  | d :: ds, _, n + 1, ⟨v, r, e, _, hr⟩ => by rw [e]; exact RepDs.drop n hr

noncomputable def RepV (N : Addr → Prop) (as : List (Addr × Addr)) (h : Heap) : V → Value → Prop
  | .d d, v => RepD N h d v
  | .r k, v => ∃ p, as[k]? = some p ∧ v = .ref p.1
noncomputable def RepVs (N : Addr → Prop) (as : List (Addr × Addr)) (h : Heap) : List V → List Value → Prop
  | [], vs => vs = []
  | d :: ds, vs => ∃ v r, vs = v :: r ∧ RepV N as h d v ∧ RepVs N as h ds r

noncomputable def attrNames : List Str := ["limit", "state", "written", "sent_to", "acked", "lost", "is_finished", "owes_end", "is_end_acked", "reset_code", "owes_reset"]
noncomputable def Keys : List Str → List DictEntry → Prop
  | _, [] => True
  | [], _ :: _ => False
  | n :: ns, e :: es => (∃ t, e.key = .str n t) ∧ Keys ns es

noncomputable def liveAt (p : Addr × Addr) : Cell → Option Addr
  | .list _ => some p.1
  | .inst _ _ => some p.2
  | .dead => none

noncomputable def LiveK (as : List (Addr × Addr)) (hp : List Cell) (k : Nat) (a : Addr) : Prop := ∃ p c, as[k]? = some p ∧ hp[k]? = some c ∧ liveAt p c = some a
noncomputable def Live (n : Nat) (as : List (Addr × Addr)) (hp : List Cell) (a : Addr) : Prop := ∃ k, n ≤ k ∧ LiveK as hp k a

inductive Slot where
  | loc (n : Str)
  | cell (n : Str) (c : Addr)
  | rc (n : Str) (c : Addr)
  | no

structure FI where
  env : Env
  slots : List Slot
  X : Addr → Prop

noncomputable def FI.Ex (Φ : FI) (as : List (Addr × Addr)) (hp : List Cell) (a : Addr) : Prop := Φ.X a ∨ Live 0 as hp a
noncomputable def FI.IsCell (Φ : FI) (a : Addr) : Prop := ∃ (i : Nat) (n : Str), Φ.slots[i]? = some (.cell n a)
noncomputable def CellAt (Φ : FI) (i : Nat) (n : Str) (c : Addr) : Prop := Φ.slots[i]? = some (.cell n c) ∨ Φ.slots[i]? = some (.rc n c)
noncomputable def FI.Own (Φ : FI) (n : Nat) (as : List (Addr × Addr)) (hp : List Cell) (a : Addr) : Prop := a = Φ.env.locals ∨ Φ.IsCell a ∨ Live n as hp a

noncomputable def CellOk (N : Addr → Prop) (h : Heap) (p : Addr × Addr) : Cell → Prop
  | .list xs => ∃ vs n, h.get? p.1 = some (lstObj vs n) ∧ RepDs N h xs vs
  | .inst C attrs => h.get? p.1 = some (instObj C p.2) ∧ ∃ es n, h.get? p.2 = some (dictOf es n) ∧ Keys attrNames es ∧ RepDs N h attrs (es.map (·.val))
  | .dead => True

structure FOk (Φ : FI) : Prop where
  kind : Φ.env.scope.kind = .function
  loc : ∀ (i : Nat) (n : Str), Φ.slots[i]? = some (.loc n) → Φ.env.kindOf n = some .local
  cell : ∀ (i : Nat) (n : Str) (c : Addr), CellAt Φ i n c → (Φ.env.kindOf n = some .cell) ∧ Φ.env.cells.lookup n = some c
  locD : ∀ (i j : Nat) (n : Str), Φ.slots[i]? = some (.loc n) → Φ.slots[j]? = some (.loc n) → i = j
  cellD : ∀ (i j : Nat) (n n' : Str) (c : Addr), CellAt Φ i n c → CellAt Φ j n' c → i = j
  cellL : ∀ (i : Nat) (n : Str) (c : Addr), CellAt Φ i n c → c ≠ Φ.env.locals
  glob : Φ.env.globals = mainGlobals
  bui : Φ.env.builtins = builtinsNs

structure View (h₀ : Heap) (Φ : FI) (as : List (Addr × Addr)) (σ : S) (h : Heap) : Prop where
  keep : ∀ b o, h₀.get? b = some o → h.get? b = some o
  len : as.length = σ.heap.length
  loc : ∃ m, h.Ns Φ.env.locals m ∧ ∀ (i : Nat) (n : Str) (d : V), Φ.slots[i]? = some (.loc n) → σ.vars[i]? = some (some d) → ∃ v, m n = some v ∧ RepV (Φ.Ex as σ.heap) as h d v
  cel : ∀ (i : Nat) (n : Str) (c : Addr), CellAt Φ i n c → ∃ ov, h.IsCell c ov ∧ ∀ d : V, σ.vars[i]? = some (some d) → ∃ v, ov = some v ∧ RepV (Φ.Ex as σ.heap) as h d v
  led : ∀ (k : Nat) p c, as[k]? = some p → σ.heap[k]? = some c → CellOk (Φ.Ex as σ.heap) h p c
  xs : ∀ a, Φ.X a → ∃ o, h.get? a = some o
  ex0 : ∀ a, Φ.Ex as σ.heap a → h₀.get? a = none

structure St (h₀ : Heap) (Φ : FI) (as : List (Addr × Addr)) (σ : S) (h : Heap) : Prop extends View h₀ Φ as σ h where
  sepL : ∀ (k k' : Nat) a, LiveK as σ.heap k a → LiveK as σ.heap k' a → k = k'
  sepF : ∀ a, Live 0 as σ.heap a → a ≠ Φ.env.locals ∧ ¬ Φ.IsCell a
  fr0 : ∀ a, Φ.Own 0 as σ.heap a → h₀.get? a = none
  sepX : ∀ a, Φ.Own 0 as σ.heap a → ¬ Φ.X a

noncomputable def Ext (h h' : Heap) : Prop := ∀ b o, h.get? b = some o → h'.get? b = some o
theorem Ext.refl (h : Heap) : Ext h h := fun _ _ e => e
theorem Ext.trans {h₁ h₂ h₃ : Heap} (x : Ext h₁ h₂) (y : Ext h₂ h₃) : Ext h₁ h₃ := fun b o e => y b o (x b o e)
theorem Ext.push (h : Heap) (o : Obj) : Ext h (h.push o) := fun _ _ e => Heap.get?_push_of_some o e

structure Step (Φ : FI) (as : List (Addr × Addr)) (σ : S) (h : Heap) (as' : List (Addr × Addr)) (σ' : S) (h' : Heap) : Prop where
  pre : ∃ t, as' = as ++ t
  prot : σ'.prot = σ.prot
  low : ∀ (k : Nat) (c : Cell), k < σ.prot → σ.heap[k]? = some c → σ'.heap[k]? = some c
  keep : ∀ a o, ¬ Φ.Own σ.prot as σ.heap a → h.get? a = some o → h'.get? a = some o
  fresh : ∀ a, Live 0 as' σ'.heap a → Live 0 as σ.heap a ∨ h.get? a = none
  own : ∀ a, Live σ.prot as' σ'.heap a → Live σ.prot as σ.heap a ∨ h.get? a = none
  ex : ∀ a, h'.get? a = none → h.get? a = none

structure TI where
  prog : Program
  w : World
  h₀ : Heap
  K : Frag
  mg : Str → Option Value
  mb : Str → Option Value
  X : K.In h₀
  g : h₀.Ns mainGlobals mg
  b : h₀.Ns builtinsNs mb
  hb : ∀ x : Str, x ≠ "__name__" → mb x = bootBuiltins x
  nolimit : h₀.NoLimit

structure RoomA (r : Nat) (A : Around) : Prop where
  handled : A.handled = none
  depth : A.depth + r < recursionLimit
  units : A.units + 8 * r + 100 < cLine

theorem Ext.keepSeq {h h' : Heap} {N : Addr → Prop} (x : Ext h h') : KeepSeq N h N h' := fun a o na e _ => ⟨x a o e, na⟩

theorem RepV.keep {N N' : Addr → Prop} {as : List (Addr × Addr)} {h h' : Heap} (k : KeepSeq N h N' h') (t : List (Addr × Addr)) : ∀ {d : V} {v : Value}, RepV N as h d v → RepV N' (as ++ t) h' d v
  | .d d, v, x => RepD.keep k d v x
  | .r _, _, ⟨p, hp, e⟩ => ⟨p, by rw [List.getElem?_append_left (List.getElem?_eq_some_iff.mp hp).1]; exact hp, e⟩
theorem RepV.keep0 {N N' : Addr → Prop} {as : List (Addr × Addr)} {h h' : Heap} (k : KeepSeq N h N' h') {d : V} {v : Value} (x : RepV N as h d v) : RepV N' as h' d v := by
  have := x.keep k []
  rwa [List.append_nil] at this
theorem RepVs.keep {N N' : Addr → Prop} {as : List (Addr × Addr)} {h h' : Heap} (k : KeepSeq N h N' h') (t : List (Addr × Addr)) : ∀ {ds : List V} {vs : List Value}, RepVs N as h ds vs → RepVs N' (as ++ t) h' ds vs
  | [], _, x => x
  | _ :: _, _, ⟨v, r, e, hv, hr⟩ => ⟨v, r, e, hv.keep k t, RepVs.keep k t hr⟩
theorem RepVs.keep0 {N N' : Addr → Prop} {as : List (Addr × Addr)} {h h' : Heap} (k : KeepSeq N h N' h') {d : List V} {v : List Value} (x : RepVs N as h d v) : RepVs N' as h' d v := by
  have := x.keep k []
  rwa [List.append_nil] at this

theorem CellOk.keep {N N' : Addr → Prop} {h h' : Heap} (k : KeepSeq N h N' h') {p : Addr × Addr} : ∀ {c : Cell}, CellOk N h p c → (∀ a o, liveAt p c = some a ∨ a = p.1 → h.get? a = some o → h'.get? a = some o) → CellOk N' h' p c
  | .list xs, ⟨vs, n, ho, hs⟩, e => ⟨vs, n, e _ _ (.inl rfl) ho, hs.keep k⟩
  | .inst C attrs, ⟨ho, es, n, hd, hk, hr⟩, e => ⟨e _ _ (.inr rfl) ho, es, n, e _ _ (.inl rfl) hd, hk, hr.keep k⟩
  | .dead, _, _ => trivial

theorem View.ext {h₀ : Heap} {Φ : FI} {as : List (Addr × Addr)} {σ : S} {h h' : Heap} (x : View h₀ Φ as σ h) (e : Ext h h') : View h₀ Φ as σ h' where
  keep := fun b o q => e b o (x.keep b o q)
  len := x.len
  loc := let ⟨m, hm, hl⟩ := x.loc; ⟨m, hm.at' fun o q => e _ _ q, fun i n d hi hd => let ⟨v, hv, r⟩ := hl i n d hi hd; ⟨v, hv, r.keep0 e.keepSeq⟩⟩
  cel := fun i n c hi => let ⟨ov, hc, hl⟩ := x.cel i n c hi; ⟨ov, hc.keeps e, fun d hd => let ⟨v, hv, r⟩ := hl d hd; ⟨v, hv, r.keep0 e.keepSeq⟩⟩
  led := fun k p c hp hc => (x.led k p c hp hc).keep e.keepSeq fun a o _ q => e a o q
  xs := fun a ha => let ⟨o, ho⟩ := x.xs a ha; ⟨o, e a o ho⟩
  ex0 := x.ex0
theorem St.ext {h₀ : Heap} {Φ : FI} {as : List (Addr × Addr)} {σ : S} {h h' : Heap} (x : St h₀ Φ as σ h) (e : Ext h h') : St h₀ Φ as σ h' where
  toView := x.toView.ext e
  sepL := x.sepL
  sepF := x.sepF
  fr0 := x.fr0
  sepX := x.sepX

theorem Step.ofExt {Φ : FI} {as : List (Addr × Addr)} {σ : S} {h h' : Heap} (e : Ext h h') : Step Φ as σ h as σ h' where
  pre := ⟨[], by simp⟩
  prot := rfl
  low := fun _ _ _ h => h
  keep := fun a o _ q => e a o q
  fresh := fun _ q => .inl q
  own := fun _ q => .inl q
  ex := fun a q => by
    cases e' : h.get? a with
    | none => rfl
    | some o => rw [e a o e'] at q; cases q

theorem Live.mono {n n' : Nat} {as : List (Addr × Addr)} {hp : List Cell} {a : Addr} (h : n' ≤ n) (x : Live n as hp a) : Live n' as hp a := let ⟨k, hk, r⟩ := x; ⟨k, Nat.le_trans h hk, r⟩

theorem Step.trans {Φ : FI} {as₁ as₂ as₃ : List (Addr × Addr)} {σ₁ σ₂ σ₃ : S} {h₁ h₂ h₃ : Heap} (x : Step Φ as₁ σ₁ h₁ as₂ σ₂ h₂) (y : Step Φ as₂ σ₂ h₂ as₃ σ₃ h₃) : Step Φ as₁ σ₁ h₁ as₃ σ₃ h₃ where
  pre := let ⟨t, e⟩ := x.pre; let ⟨u, e'⟩ := y.pre; ⟨t ++ u, by rw [e', e, List.append_assoc]⟩
  prot := y.prot.trans x.prot
  low := fun k c hk h => y.low k c (by rw [x.prot]; exact hk) (x.low k c hk h)
  keep := fun a o na e => by
    refine y.keep a o (fun q => ?_) (x.keep a o na e)
    rcases q with q | q | q
    · exact na (.inl q)
    · exact na (.inr (.inl q))
    · rw [x.prot] at q
      rcases x.own a q with q | q
      · exact na (.inr (.inr q))
      · rw [q] at e; cases e
  fresh := fun a q => (y.fresh a q).elim (x.fresh a) fun q => .inr (x.ex a q)
  own := fun a q => by
    rcases y.own a (by rw [x.prot]; exact q) with q | q
    · rw [x.prot] at q; exact x.own a q
    · exact .inr (x.ex a q)
  ex := fun a q => x.ex a (y.ex a q)

theorem tup_not_cell {h : Heap} {a : Addr} {ov : Option Value} (hc : h.IsCell a ov) {o : Obj} (ho : h.get? a = some o) (hs : ∃ vs n, o = tupObj vs n ∨ o = lstObj vs n) : False := by
  obtain ⟨o', ho', hd⟩ := hc
  rw [ho] at ho'; cases ho'
  obtain ⟨vs, n, rfl | rfl⟩ := hs <;> cases hd
theorem tup_not_ns {h : Heap} {a : Addr} {m : Str → Option Value} (hc : h.Ns a m) {o : Obj} (ho : h.get? a = some o) (hs : ∃ vs n, o = tupObj vs n ∨ o = lstObj vs n) : False := by
  obtain ⟨o', es, ep, ho', hd, _⟩ := hc
  rw [ho] at ho'; cases ho'
  obtain ⟨vs, n, rfl | rfl⟩ := hs <;> cases hd

theorem View.seq_not_own {h₀ : Heap} {Φ : FI} {as : List (Addr × Addr)} {σ : S} {h : Heap} (x : View h₀ Φ as σ h) {a : Addr} {o : Obj} (n : Nat) (na : ¬ Φ.Ex as σ.heap a) (ho : h.get? a = some o)
    (hs : ∃ vs n, o = tupObj vs n ∨ o = lstObj vs n) : ¬ Φ.Own n as σ.heap a := by
  rintro (q | ⟨i, n', q⟩ | q)
  · obtain ⟨m, hm, _⟩ := x.loc
    exact tup_not_ns (q ▸ hm) ho hs
  · obtain ⟨ov, hc, _⟩ := x.cel i n' a (.inl q)
    exact tup_not_cell hc ho hs
  · exact na (.inr (q.mono (Nat.zero_le _)))

theorem Step.keepSeq {h₀ : Heap} {Φ : FI} {as as' : List (Addr × Addr)} {σ σ' : S} {h h' : Heap} (x : View h₀ Φ as σ h) (y : Step Φ as σ h as' σ' h') : KeepSeq (Φ.Ex as σ.heap) h (Φ.Ex as' σ'.heap) h' := by
  intro a o na ho hs
  refine ⟨y.keep a o (x.seq_not_own _ na ho hs) ho, ?_⟩
  rintro (q | q)
  · exact na (.inl q)
  · rcases y.fresh a q with q | q
    · exact na (.inr q)
    · rw [ho] at q; cases q
theorem Step.repV {h₀ : Heap} {Φ : FI} {as as' : List (Addr × Addr)} {σ σ' : S} {h h' : Heap} (x : View h₀ Φ as σ h) (y : Step Φ as σ h as' σ' h') {d : V} {v : Value} (r : RepV (Φ.Ex as σ.heap) as h d v) : RepV (Φ.Ex as' σ'.heap) as' h' d v := by
  obtain ⟨t, rfl⟩ := y.pre
  exact r.keep (y.keepSeq x) t
theorem Step.repD {h₀ : Heap} {Φ : FI} {as as' : List (Addr × Addr)} {σ σ' : S} {h h' : Heap} (x : View h₀ Φ as σ h) (y : Step Φ as σ h as' σ' h') {d : D} {v : Value} (r : RepD (Φ.Ex as σ.heap) h d v) : RepD (Φ.Ex as' σ'.heap) h' d v := r.keep (y.keepSeq x)
theorem Step.repVs {h₀ : Heap} {Φ : FI} {as as' : List (Addr × Addr)} {σ σ' : S} {h h' : Heap} (x : View h₀ Φ as σ h) (y : Step Φ as σ h as' σ' h') {d : List V} {v : List Value} (r : RepVs (Φ.Ex as σ.heap) as h d v) : RepVs (Φ.Ex as' σ'.heap) as' h' d v := by
  obtain ⟨t, rfl⟩ := y.pre
  exact r.keep (y.keepSeq x) t

theorem View.freshEx {h₀ : Heap} {Φ : FI} {as : List (Addr × Addr)} {σ : S} {h : Heap} (x : View h₀ Φ as σ h) {a : Addr} (ha : h.get? a = none) : ¬ Φ.Ex as σ.heap a := by
  rintro (q | ⟨k, _, p, c, hp, hc, hl⟩)
  · obtain ⟨o, ho⟩ := x.xs a q
    rw [ha] at ho; cases ho
  · have := x.led k p c hp hc
    cases c with
    | list xs => obtain ⟨vs, n, ho, _⟩ := this; cases hl; rw [ha] at ho; cases ho
    | inst C at' => obtain ⟨_, _, _, ho, _⟩ := this; cases hl; rw [ha] at ho; cases ho
    | dead => cases hl
theorem get?_size (h : Heap) : h.get? h.objs.size = none := by
  cases e : h.get? h.objs.size with
  | none => rfl
  | some o => exact absurd (Heap.lt_size e) (Nat.lt_irrefl _)

noncomputable def PvOk (T : TI) (A : Around) (Φ : FI) (e : Expr) (p : S → Option D) : Prop :=
  ∀ (σ : S) (d : D) (as : List (Addr × Addr)) (s : Shared) (Q : Value → Shared → Prop) (E : Value → Shared → Prop), p σ = some d → View T.h₀ Φ as σ s.heap →
    (∀ v h' tk, Ext s.heap h' → RepD (Φ.Ex as σ.heap) h' d v → Q v { s with heap := h', toks := tk }) → wpAny (model T.prog T.w) A (eval e Φ.env) Q E s
noncomputable def TvOk (T : TI) (A : Around) (Φ : FI) (e : Expr) (p : S → Option Bool) : Prop :=
  ∀ (σ : S) (b : Bool) (as : List (Addr × Addr)) (s : Shared) (Q : Bool → Shared → Prop) (E : Value → Shared → Prop), p σ = some b → View T.h₀ Φ as σ s.heap →
    (∀ h' tk, Ext s.heap h' → Q b { s with heap := h', toks := tk }) → wpAny (model T.prog T.w) A (isTrue e Φ.env (eval e Φ.env)) Q E s
noncomputable def PvsOk (T : TI) (A : Around) (Φ : FI) (es : List Expr) (p : S → Option (List D)) : Prop :=
  ∀ (σ : S) (ds : List D) (as : List (Addr × Addr)) (s : Shared) (pos : Pos) (Q : List Value → Shared → Prop) (E : Value → Shared → Prop), p σ = some ds → View T.h₀ Φ as σ s.heap →
    (∀ vs h' tk, Ext s.heap h' → RepDs (Φ.Ex as σ.heap) h' ds vs → Q vs { s with heap := h', toks := tk }) → wpAny (model T.prog T.w) A (spliced (backTo pos (starEach es Φ.env))) Q E s
noncomputable def AvsOk (T : TI) (A : Around) (Φ : FI) (es : List Expr) (p : S → Option (List V)) : Prop :=
  ∀ (σ : S) (ds : List V) (as : List (Addr × Addr)) (s : Shared) (pos : Pos) (Q : List Value → Shared → Prop) (E : Value → Shared → Prop), p σ = some ds → View T.h₀ Φ as σ s.heap →
    (∀ vs h' tk, Ext s.heap h' → RepVs (Φ.Ex as σ.heap) as h' ds vs → Q vs { s with heap := h', toks := tk }) → wpAny (model T.prog T.w) A (spliced (backTo pos (starEach es Φ.env))) Q E s
noncomputable def EvOk (T : TI) (A : Around) (Φ : FI) (e : Expr) (f : S → Option (V × S)) : Prop :=
  ∀ (σ : S) (d : V) (σ' : S) (as : List (Addr × Addr)) (s : Shared) (Q : Value → Shared → Prop) (E : Value → Shared → Prop), f σ = some (d, σ') → St T.h₀ Φ as σ s.heap →
    (∀ v as' h' tk, Step Φ as σ s.heap as' σ' h' → St T.h₀ Φ as' σ' h' → RepV (Φ.Ex as' σ'.heap) as' h' d v → Q v { s with heap := h', toks := tk }) → wpAny (model T.prog T.w) A (eval e Φ.env) Q E s
noncomputable def EvsOk (T : TI) (A : Around) (Φ : FI) (es : List Expr) (f : S → Option (List V × S)) : Prop :=
  ∀ (σ : S) (ds : List V) (σ' : S) (as : List (Addr × Addr)) (s : Shared) (pos : Pos) (Q : List Value → Shared → Prop) (E : Value → Shared → Prop), f σ = some (ds, σ') → St T.h₀ Φ as σ s.heap →
    (∀ vs as' h' tk, Step Φ as σ s.heap as' σ' h' → St T.h₀ Φ as' σ' h' → RepVs (Φ.Ex as' σ'.heap) as' h' ds vs → Q vs { s with heap := h', toks := tk }) → wpAny (model T.prog T.w) A (spliced (backTo pos (starEach es Φ.env))) Q E s

inductive Fl where
  | next
  | ret (d : D)
noncomputable def RepFl (N : Addr → Prop) (h : Heap) : Fl → Flow → Prop
  | .next, f => f = .next
  | .ret d, f => ∃ v, f = .ret v ∧ RepD N h d v
noncomputable def BkOk (T : TI) (A : Around) (Φ : FI) (b : List Stmt) (f : S → Option (Fl × S)) : Prop :=
  ∀ (σ : S) (d : Fl) (σ' : S) (as : List (Addr × Addr)) (s : Shared) (Q : Flow → Shared → Prop) (E : Value → Shared → Prop), f σ = some (d, σ') → St T.h₀ Φ as σ s.heap →
    (∀ v as' h' tk, Step Φ as σ s.heap as' σ' h' → St T.h₀ Φ as' σ' h' → RepFl (Φ.Ex as' σ'.heap) h' d v → Q v { s with heap := h', toks := tk }) → wpAny (model T.prog T.w) A (execs b Φ.env) Q E s
noncomputable def SkOk (T : TI) (A : Around) (Φ : FI) (b : Stmt) (f : S → Option (Fl × S)) : Prop :=
  ∀ (σ : S) (d : Fl) (σ' : S) (as : List (Addr × Addr)) (s : Shared) (Q : Flow → Shared → Prop) (E : Value → Shared → Prop), f σ = some (d, σ') → St T.h₀ Φ as σ s.heap →
    (∀ v as' h' tk, Step Φ as σ s.heap as' σ' h' → St T.h₀ Φ as' σ' h' → RepFl (Φ.Ex as' σ'.heap) h' d v → Q v { s with heap := h', toks := tk }) → wpAny (model T.prog T.w) A (exec b Φ.env) Q E s
noncomputable def AsOk (T : TI) (A : Around) (Φ : FI) (t : Expr) (f : V → S → Option S) : Prop :=
  ∀ (d : V) (v : Value) (σ σ' : S) (as : List (Addr × Addr)) (s : Shared) (Q : Unit → Shared → Prop) (E : Value → Shared → Prop), f d σ = some σ' → St T.h₀ Φ as σ s.heap → RepV (Φ.Ex as σ.heap) as s.heap d v →
    (∀ as' h' tk, Step Φ as σ s.heap as' σ' h' → St T.h₀ Φ as' σ' h' → Q () { s with heap := h', toks := tk }) → wpAny (model T.prog T.w) A (assign t Φ.env v) Q E s
end Mine
end
section
namespace Mine
open PySem PySem.W PyProof.Rows PySem.Calls

section
variable {T : TI} {A : Around} {Φ : FI}

theorem RepD.base {h₀ h : Heap} {N : Addr → Prop} {d : D} {v : Value} (r : RepD (fun _ => False) h₀ d v) (k : ∀ b o, h₀.get? b = some o → h.get? b = some o) (hN : ∀ a, N a → h₀.get? a = none) : RepD N h d v :=
  r.keep fun a o _ ho _ => ⟨k a o ho, fun q => by rw [hN a q] at ho; cases ho⟩

noncomputable def vget (i : Nat) (σ : S) : Option D := match σ.vars[i]? with
  | some (some (.d d)) => some d
  | _ => none
noncomputable def rget (i : Nat) (σ : S) : Option Nat := match σ.vars[i]? with
  | some (some (.r k)) => some k
  | _ => none
theorem vget_some {i : Nat} {σ : S} {d : D} (h : vget i σ = some d) : σ.vars[i]? = some (some (.d d)) := by
  unfold vget at h
  split at h
  · rename_i q; cases h; exact q
  · cases h
theorem rget_some {i : Nat} {σ : S} {k : Nat} (h : rget i σ = some k) : σ.vars[i]? = some (some (.r k)) := by
  unfold rget at h
  split at h
  · rename_i q; cases h; exact q
  · cases h

noncomputable def SlotIs (Φ : FI) (i : Nat) (n : Str) : Prop := Φ.slots[i]? = some (.loc n) ∨ ∃ c, CellAt Φ i n c
noncomputable def StoreIs (Φ : FI) (i : Nat) (n : Str) : Prop := Φ.slots[i]? = some (.loc n) ∨ ∃ c, Φ.slots[i]? = some (.cell n c)
theorem name_slot {i : Nat} {n : Str} {pos : Pos} {v : V} {σ : S} {as : List (Addr × Addr)} {s : Shared} {Q : Value → Shared → Prop} {E : Value → Shared → Prop} (F : FOk Φ) (hs : SlotIs Φ i n) (x : View T.h₀ Φ as σ s.heap)
    (hv : σ.vars[i]? = some (some v)) (h : ∀ u, RepV (Φ.Ex as σ.heap) as s.heap v u → Q u s) (hd : (n == ("__debug__" : Str)) = false) :
    wpAny (model T.prog T.w) A (eval (.Name n pos) Φ.env) Q E s := by
  rcases hs with hs | ⟨c, hs⟩
  · obtain ⟨m, hm, hl⟩ := x.loc
    obtain ⟨u, hu, r⟩ := hl i n v hs hv
    exact wpAny_Name (wpAny_loadName_local F.kind (F.loc i n hs) hm hu (h u r)) hd
  · obtain ⟨ov, hc, hl⟩ := x.cel i n c hs
    obtain ⟨u, rfl, r⟩ := hl v hv
    exact wpAny_Name (wpAny_loadName_cell F.kind (F.cell i n c hs).1 (F.cell i n c hs).2 hc (h u r)) hd

theorem PvOk.name {n : Str} {pos : Pos} (i : Nat) (F : FOk Φ) (hs : SlotIs Φ i n) (hd : (n == ("__debug__" : Str)) = false) : PvOk T A Φ (.Name n pos) (vget i) := by
  intro σ d as s Q E h x k
  exact name_slot F hs x (vget_some h) (fun u r => k u s.heap s.toks (Ext.refl _) r) hd

theorem PvOk.const_none {k : Nat} {pos : Pos} : PvOk T A Φ (.Constant .none k pos) (fun _ => some .none) := by
  intro σ d as s Q E h x q; cases h
  exact wpAny_Constant_none (q _ s.heap s.toks (Ext.refl _) rfl)
theorem PvOk.const_bool {b : Bool} {k : Nat} {pos : Pos} : PvOk T A Φ (.Constant (.bool b) k pos) (fun _ => some (.bool b)) := by
  intro σ d as s Q E h x q; cases h
  exact wpAny_Constant_bool (q _ s.heap s.toks (Ext.refl _) rfl)
theorem PvOk.const_int {i : Int} {k : Nat} {pos : Pos} : PvOk T A Φ (.Constant (.int i) k pos) (fun _ => some (.int i)) := by
  intro σ d as s Q E h x q; cases h
  exact wpAny_Constant_int (q _ s.heap _ (Ext.refl _) ⟨_, rfl⟩)
theorem PvOk.const_bytes {i : List UInt8} {k : Nat} {pos : Pos} : PvOk T A Φ (.Constant (.bytes i) k pos) (fun _ => some (.bytes i)) := by
  intro σ d as s Q E h x q; cases h
  exact Constant_bytes (q _ s.heap _ (Ext.refl _) ⟨_, rfl⟩)


theorem glob_name {n : Str} (F : FOk Φ) (hk : Φ.env.kindOf n = some .globalImplicit) {pos : Pos} {v : Value} {as : List (Addr × Addr)} {σ : S} {s : Shared} {Q : Value → Shared → Prop} {E : Value → Shared → Prop} (x : View T.h₀ Φ as σ s.heap)
    (hg : nsIn T.K mainGlobals n = some (some v)) (h : Q v s) (hd : (n == ("__debug__" : Str)) = false) : wpAny (model T.prog T.w) A (eval (.Name n pos) Φ.env) Q E s :=
  Calls.Name_function_global F.kind hk (Calls.loadGlobal_global (by rw [F.glob]; exact T.g.keeps x.keep) (mg_of T.X T.g hg) h) hd
theorem built_name {n : Str} (F : FOk Φ) (hk : Φ.env.kindOf n = some .globalImplicit) {pos : Pos} {v : Value} {as : List (Addr × Addr)} {σ : S} {s : Shared} {Q : Value → Shared → Prop} {E : Value → Shared → Prop} (x : View T.h₀ Φ as σ s.heap)
    (hg : nsIn T.K mainGlobals n = some none) (hb : bootBuiltins n = some v) (h : Q v s) (hd : (n == ("__debug__" : Str)) = false) (hn : n ≠ "__name__") : wpAny (model T.prog T.w) A (eval (.Name n pos) Φ.env) Q E s :=
  Calls.Name_function_global F.kind hk (Calls.loadGlobal_builtin (by rw [F.glob]; exact T.g.keeps x.keep) (mg_none_of T.X T.g hg) (by rw [F.bui]; exact T.b.keeps x.keep) ((T.hb n hn).trans hb) h) hd

theorem PvOk.glob {n : Str} {pos : Pos} {v : Value} {d : D} (F : FOk Φ) (hk : Φ.env.kindOf n = some .globalImplicit) (hg : nsIn T.K mainGlobals n = some (some v)) (hr : RepD (fun _ => False) T.h₀ d v) (hd : (n == ("__debug__" : Str)) = false) :
    PvOk T A Φ (.Name n pos) (fun _ => some d) := by
  intro σ d' as s Q E h x k; cases h
  exact glob_name F hk x hg (k v s.heap s.toks (Ext.refl _) (hr.base x.keep x.ex0)) hd

noncomputable def P0Ok (T : TI) (A : Around) (Φ : FI) (e : Expr) (p : S → Option D) : Prop :=
  ∀ (σ : S) (d : D) (as : List (Addr × Addr)) (s : Shared) (Q : Value → Shared → Prop) (E : Value → Shared → Prop), p σ = some d → View T.h₀ Φ as σ s.heap →
    (∀ v h' tk, Ext s.heap h' → RepD (fun _ => False) h' d v → Q v { s with heap := h', toks := tk }) → wpAny (model T.prog T.w) A (eval e Φ.env) Q E s
theorem RepD.zero {N : Addr → Prop} {h : Heap} {d : D} {v : Value} (r : RepD N h d v) : RepD (fun _ => False) h d v := r.keep fun a o _ ho _ => ⟨ho, fun q => q⟩
theorem RepDs.zero {N : Addr → Prop} {h : Heap} {d : List D} {v : List Value} (r : RepDs N h d v) : RepDs (fun _ => False) h d v := r.keep fun a o _ ho _ => ⟨ho, fun q => q⟩
theorem PvOk.zero {e : Expr} {p : S → Option D} (h : PvOk T A Φ e p) : P0Ok T A Φ e p := fun σ d as s Q E hp x k => h σ d as s Q E hp x fun v h' tk e r => k v h' tk e r.zero
noncomputable def snap (i : Nat) (σ : S) : Option D := (rget i σ).bind fun k => match σ.heap[k]? with
  | some (.list xs) => some (.lst xs)
  | _ => none
theorem snap_some {i : Nat} {σ : S} {d : D} (h : snap i σ = some d) : ∃ k xs, σ.vars[i]? = some (some (.r k)) ∧ σ.heap[k]? = some (.list xs) ∧ d = .lst xs := by
  unfold snap at h
  cases hr : rget i σ with
  | none => rw [hr] at h; cases h
  | some k =>
    rw [hr] at h
    simp only [Option.bind_some] at h
    split at h
    · rename_i xs hx; cases h; exact ⟨k, xs, rget_some hr, hx, rfl⟩
    · cases h
noncomputable def BinOk (T : TI) (A : Around) (op : Operator) (g : D → D → Option D) : Prop :=
  ∀ (a b c : D) (N : Addr → Prop) (va vb : Value) (s : Shared) (Q : Value → Shared → Prop) (E : Value → Shared → Prop), g a b = some c → (∀ x, s.heap.get? x = none → ¬ N x) → RepD N s.heap a va → RepD N s.heap b vb →
    (∀ v h' tk, Ext s.heap h' → RepD N h' c v → Q v { s with heap := h', toks := tk }) → wpAny (model T.prog T.w) A (binaryOp op va vb) Q E s
noncomputable def binP (g : D → D → Option D) (pl pr : S → Option D) (σ : S) : Option D := (pl σ).bind fun a => (pr σ).bind fun b => g a b
theorem binP_some {g : D → D → Option D} {pl pr : S → Option D} {σ : S} {d : D} (h : binP g pl pr σ = some d) : ∃ a b, pl σ = some a ∧ pr σ = some b ∧ g a b = some d := by
  unfold binP at h
  cases ha : pl σ with
  | none => rw [ha] at h; cases h
  | some a =>
    rw [ha] at h
    cases hb : pr σ with
    | none => rw [hb] at h; cases h
    | some b => rw [hb] at h; exact ⟨a, b, rfl, rfl, h⟩

theorem PvOk.bin {l r : Expr} {op : Operator} {pos : Pos} {g : D → D → Option D} {pl pr : S → Option D} (hg : BinOk T A op g) (hl : PvOk T A Φ l pl) (hr : PvOk T A Φ r pr) : PvOk T A Φ (.BinOp l op r pos) (binP g pl pr) := by
  intro σ d as s Q E h x k
  obtain ⟨a, b, ha, hb, hc⟩ := binP_some h
  refine wpAny_BinOp (hl σ a as s _ E ha x fun va h₁ t₁ e₁ ra => ?_)
  refine hr σ b as { s with heap := h₁, toks := t₁ } _ E hb (x.ext e₁) fun vb h₂ t₂ e₂ rb => ?_
  have x₂ := (x.ext e₁).ext e₂
  refine hg a b d _ va vb { s with heap := h₂, toks := t₂ } Q E hc (fun y hy => x₂.freshEx hy) (ra.keep e₂.keepSeq) rb fun v h' tk e r => ?_
  exact k v h' tk ((e₁.trans e₂).trans e) r

noncomputable def addD : D → D → Option D
  | .int a, .int b => some (.int (a + b))
  | .bytes a, .bytes b => if a.length + b.length ≤ 16777216 then some (.bytes (a ++ b)) else none
  | .lst a, .lst b => if a.length + b.length ≤ 16777216 then some (.lst (a ++ b)) else none
  | _, _ => none
theorem addOk : BinOk T A .Add addD := by
  intro a b c N va vb s Q E h hN ra rb k
  cases a <;> cases b <;> try (cases h; done)
  · obtain ⟨t, rfl⟩ := ra; obtain ⟨u, rfl⟩ := rb; cases h
    exact PySem.P.add_int (k _ s.heap _ (Ext.refl _) ⟨_, rfl⟩)
  · rename_i x y
    obtain ⟨t, rfl⟩ := ra; obtain ⟨u, rfl⟩ := rb
    simp only [addD] at h
    split at h
    · rename_i hsz; cases h
      exact KBy.add_bytes (by simpa using hsz) fun t' n => k _ s.heap n (Ext.refl _) ⟨t', by simp⟩
    · cases h
  · rename_i x y
    obtain ⟨l, vs, n, rfl, nl, hl, rl⟩ := ra; obtain ⟨b, us, m, rfl, nb, hb, rb⟩ := rb
    simp only [addD] at h
    split at h
    · rename_i hsz; cases h
      refine PySem.P.add_list hl hb ?_ (by rw [List.size_toArray, List.size_toArray, rl.length, rb.length, sizeLine_eq]; exact hsz)
      refine k _ _ s.toks (Ext.push _ _) ⟨s.heap.objs.size, vs ++ us, 0, rfl, hN _ (get?_size _), ?_, ?_⟩
      · show _ = some ({ cls := .type "list", data := .seq (vs ++ us).toArray 0 } : Obj)
        rw [show (vs ++ us).toArray = vs.toArray ++ us.toArray by simp]; exact Heap.get?_push_size _ rfl
      · exact (rl.append rb).keep (Ext.push _ _).keepSeq
    · cases h
noncomputable def subD : D → D → Option D
  | .int a, .int b => some (.int (a - b))
  | _, _ => none
theorem subOk : BinOk T A .Sub subD := by
  intro a b c N va vb s Q E h hN ra rb k
  cases a <;> cases b <;> try (cases h; done)
  obtain ⟨t, rfl⟩ := ra; obtain ⟨u, rfl⟩ := rb; cases h
  exact PySem.P.sub_int (k _ s.heap _ (Ext.refl _) ⟨_, rfl⟩)
noncomputable def modD : D → D → Option D
  | .int a, .int b => if 0 < b then some (.int (a % b)) else none
  | _, _ => none
theorem modOk : BinOk T A .Mod modD := by
  intro a b c N va vb s Q E h hN ra rb k
  cases a <;> cases b <;> try (cases h; done)
  obtain ⟨t, rfl⟩ := ra; obtain ⟨u, rfl⟩ := rb
  simp only [modD] at h
  split at h
  · rename_i hb; cases h
    refine PyProof.Rows.mod_int (Int.ne_of_gt hb) ?_
    rw [Int.fmod_eq_emod_of_nonneg _ (Int.le_of_lt hb)]
    exact k _ s.heap _ (Ext.refl _) ⟨_, rfl⟩
  · cases h
end
end Mine
end
section
namespace Mine
open PySem PySem.W PyProof.Rows PySem.Calls PySem.SeqAt

noncomputable def allEq (e : D → D → Option Bool) : List D → List D → Option Bool
  | [], [] => some true
  | x :: xs, y :: ys => (e x y).bind fun a => (allEq e xs ys).bind fun b => some (a && b)
  | _, _ => none
noncomputable def eqB : Nat → D → D → Option Bool
  | _, .none, .none => some true
  | _, .bool a, .bool b => some (a == b)
  | _, .int a, .int b => some (a == b)
  | _, .str a, .str b => some (a == b)
  | _, .bytes a, .bytes b => some (decide (a = b))
  | n + 1, .tup xs, .tup ys => allEq (eqB n) xs ys
  | n + 1, .lst xs, .lst ys => if xs.length = ys.length then allEq (eqB n) xs ys else some false
  | _, _, _ => none

theorem allEq_at {e : D → D → Option Bool} : ∀ {xs ys : List D} {r : Bool}, allEq e xs ys = some r → xs.length = ys.length ∧ ∃ f : Nat → Bool, (∀ (j : Nat) x y, xs[j]? = some x → ys[j]? = some y → e x y = some (f j)) ∧ (List.range xs.length).all f = r
  | [], [], r, h => by cases h; exact ⟨rfl, fun _ => true, fun j x y hx => by simp at hx, by simp⟩
  | [], _ :: _, _, h => by cases h
  | _ :: _, [], _, h => by cases h
  | x :: xs, y :: ys, r, h => by
    unfold allEq at h
    cases ha : e x y with
    | none => rw [ha] at h; cases h
    | some a =>
      cases hb : allEq e xs ys with
      | none => rw [ha, hb] at h; cases h
      | some b =>
        rw [ha, hb] at h; cases h
        obtain ⟨hl, f, hf, hr⟩ := allEq_at hb
        refine ⟨by simp [hl], fun j => match j with | 0 => a | j + 1 => f j, fun j u v hu hv => ?_, ?_⟩
        · cases j with
          | zero => simp at hu hv; subst hu hv; exact ha
          | succ j => exact hf j u v (by simpa using hu) (by simpa using hv)
        · rw [List.length_cons, List.range_succ_eq_map, List.all_cons, List.all_map, ← hr]; rfl

theorem eqBytes_at {A : Around} {s : Shared} (b c : List UInt8) (t u : Tok) : EqAt A s (.bytes b.toArray t) (.bytes c.toArray u) (decide (b = c)) := fun prog w E Q h => eqBool_bytes (by simpa using h)
theorem rcBytes_at {A : Around} {s : Shared} (b c : List UInt8) (t u : Tok) : RcAt A s (.bytes b.toArray t) (.bytes c.toArray u) (decide (b = c)) := fun prog w E Q h =>
  W.eq_bytes (by rw [show ((b.toArray.toList == c.toArray.toList) = decide (b = c)) by rw [Bool.eq_iff_iff]; simp]; exact h)
theorem rcNeBytes_at {A : Around} {s : Shared} (b c : List UInt8) (t u : Tok) : RcNeAt A s (.bytes b.toArray t) (.bytes c.toArray u) (!decide (b = c)) := fun prog w E Q h =>
  W.ne_bytes (by rw [show ((b.toArray.toList != c.toArray.toList) = !decide (b = c)) by rw [bne, show ((b.toArray.toList == c.toArray.toList) = decide (b = c)) by rw [Bool.eq_iff_iff]; simp]]; exact h)
theorem eqNone_at {A : Around} {s : Shared} : EqAt A s .none .none true := EqAt.same _


theorem arr_inj {α : Type} {a b : List α} (h : a.toArray = b.toArray) : a = b := by simpa using congrArg Array.toList h

mutual
theorem RepD.unique {N M : Addr → Prop} {h : Heap} : ∀ (a b : D) (v : Value), RepD N h a v → RepD M h b v → a = b
  | .none, b, v, x, y => by
    rw [show v = _ from x] at y
    cases b with
    | none => rfl
    | bool => cases y
    | int => obtain ⟨_, y⟩ := y; cases y
    | str => obtain ⟨_, y⟩ := y; cases y
    | bytes => obtain ⟨_, y⟩ := y; cases y
    | tup => obtain ⟨_, _, _, y, _⟩ := y; cases y
    | lst => obtain ⟨_, _, _, y, _⟩ := y; cases y
  | .bool i, b, v, x, y => by
    rw [show v = _ from x] at y
    cases b with
    | none => cases y
    | bool => cases y; rfl
    | int => obtain ⟨_, y⟩ := y; cases y
    | str => obtain ⟨_, y⟩ := y; cases y
    | bytes => obtain ⟨_, y⟩ := y; cases y
    | tup => obtain ⟨_, _, _, y, _⟩ := y; cases y
    | lst => obtain ⟨_, _, _, y, _⟩ := y; cases y
  | .int i, b, v, x, y => by
    obtain ⟨t, rfl⟩ := x
    cases b with
    | none => cases y
    | bool => cases y
    | int => obtain ⟨_, y⟩ := y; cases y; rfl
    | str => obtain ⟨_, y⟩ := y; cases y
    | bytes => obtain ⟨_, y⟩ := y; cases y
    | tup => obtain ⟨_, _, _, y, _⟩ := y; cases y
    | lst => obtain ⟨_, _, _, y, _⟩ := y; cases y
  | .str i, b, v, x, y => by
    obtain ⟨t, rfl⟩ := x
    cases b with
    | none => cases y
    | bool => cases y
    | int => obtain ⟨_, y⟩ := y; cases y
    | str => obtain ⟨_, y⟩ := y; cases y; rfl
    | bytes => obtain ⟨_, y⟩ := y; cases y
    | tup => obtain ⟨_, _, _, y, _⟩ := y; cases y
    | lst => obtain ⟨_, _, _, y, _⟩ := y; cases y
  | .bytes i, b, v, x, y => by
    obtain ⟨t, rfl⟩ := x
    cases b with
    | none => cases y
    | bool => cases y
    | int => obtain ⟨_, y⟩ := y; cases y
    | str => obtain ⟨_, y⟩ := y; cases y
    | bytes => obtain ⟨_, y⟩ := y; injection y with y _; rw [arr_inj y]
    | tup => obtain ⟨_, _, _, y, _⟩ := y; cases y
    | lst => obtain ⟨_, _, _, y, _⟩ := y; cases y
  | .tup xs, b, v, x, y => by
    obtain ⟨l, vs, n, rfl, _, hl, rl⟩ := x
    cases b with
    | none => cases y
    | bool => cases y
    | int => obtain ⟨_, y⟩ := y; cases y
    | str => obtain ⟨_, y⟩ := y; cases y
    | bytes => obtain ⟨_, y⟩ := y; cases y
    | tup ys =>
      obtain ⟨l', us, m, e, _, hb, rb⟩ := y
      cases e
      rw [hl] at hb
      injection hb with hb; injection hb with _ _ hb _; injection hb with hb _
      rw [← arr_inj hb] at rb
      rw [RepDs.unique xs ys vs rl rb]
    | lst ys =>
      obtain ⟨l', us, m, e, _, hb, rb⟩ := y
      cases e
      rw [hl] at hb
      injection hb with hb; injection hb with hb _ _ _; injection hb with hb; exact absurd hb (by decide)
  | .lst xs, b, v, x, y => by
    obtain ⟨l, vs, n, rfl, _, hl, rl⟩ := x
    cases b with
    | none => cases y
    | bool => cases y
    | int => obtain ⟨_, y⟩ := y; cases y
    | str => obtain ⟨_, y⟩ := y; cases y
    | bytes => obtain ⟨_, y⟩ := y; cases y
    | lst ys =>
      obtain ⟨l', us, m, e, _, hb, rb⟩ := y
      cases e
      rw [hl] at hb
      injection hb with hb; injection hb with _ _ hb _; injection hb with hb _
      rw [← arr_inj hb] at rb
      rw [RepDs.unique xs ys vs rl rb]
    | tup ys =>
      obtain ⟨l', us, m, e, _, hb, rb⟩ := y
      cases e
      rw [hl] at hb
      injection hb with hb; injection hb with hb _ _ _; injection hb with hb; exact absurd hb (by decide)
theorem RepDs.unique {N M : Addr → Prop} {h : Heap} : ∀ (a b : List D) (v : List Value), RepDs N h a v → RepDs M h b v → a = b
  | [], [], _, _, _ => rfl
  | [], _ :: _, _, x, ⟨_, _, y, _, _⟩ => by rw [show _ = [] from x] at y; cases y
  | _ :: _, [], _, ⟨_, _, y, _, _⟩, x => by rw [show _ = [] from x] at y; cases y
  | a :: as, b :: bs, _, ⟨v, r, e, x, xr⟩, ⟨v', r', e', y, yr⟩ => by
    rw [e] at e'; cases e'
    rw [RepD.unique a b v x y, RepDs.unique as bs r xr yr]
end
theorem allEq_refl {e : D → D → Option Bool} (he : ∀ a r, e a a = some r → r = true) : ∀ {xs : List D} {r : Bool}, allEq e xs xs = some r → r = true
  | [], r, h => by cases h; rfl
  | x :: xs, r, h => by
    unfold allEq at h
    cases ha : e x x with
    | none => rw [ha] at h; cases h
    | some a =>
      cases hb : allEq e xs xs with
      | none => rw [ha, hb] at h; cases h
      | some b =>
        rw [ha, hb] at h; cases h
        rw [he x a ha, allEq_refl he hb]; rfl
theorem eqB_refl : ∀ (n : Nat) (a : D) (r : Bool), eqB n a a = some r → r = true
  | n, .none, r, h => by cases n <;> (cases h; rfl)
  | n, .bool a, r, h => by cases n <;> (cases h; simp)
  | n, .int a, r, h => by cases n <;> (cases h; simp)
  | n, .str a, r, h => by cases n <;> (cases h; simp)
  | n, .bytes a, r, h => by cases n <;> (cases h; simp)
  | 0, .tup xs, r, h => by cases h
  | 0, .lst xs, r, h => by cases h
  | n + 1, .tup xs, r, h => allEq_refl (eqB_refl n) h
  | n + 1, .lst xs, r, h => by
    simp only [eqB, if_true] at h
    exact allEq_refl (eqB_refl n) h

theorem eqB_at : ∀ (n : Nat) (a b : D) (r : Bool) (A : Around) (s : Shared) (N M : Addr → Prop) (va vb : Value), eqB n a b = some r → A.units + n < cLine → RepD N s.heap a va → RepD M s.heap b vb → EqAt A s va vb r ∧ RcAt A s va vb r ∧ RcNeAt A s va vb (!r) := by
  intro n
  induction n with
  | zero =>
    intro a b r A s N M va vb h hu ra rb
    cases a <;> cases b <;> try (cases h; done)
    · cases h; rw [show va = _ from ra, show vb = _ from rb]; exact ⟨eqNone_at, RcAt.none_none, RcNeAt.none_none⟩
    · cases h; rw [show va = _ from ra, show vb = _ from rb]; exact ⟨EqAt.bool_bool _ _, RcAt.bool_bool _ _, RcNeAt.bool_bool _ _⟩
    · cases h; obtain ⟨t, rfl⟩ := ra; obtain ⟨u, rfl⟩ := rb; exact ⟨EqAt.int_int _ _ _ _, RcAt.int_int _ _ _ _, RcNeAt.int_int _ _ _ _⟩
    · cases h; obtain ⟨t, rfl⟩ := ra; obtain ⟨u, rfl⟩ := rb; exact ⟨EqAt.str_str _ _ _ _, RcAt.str_str _ _ _ _, RcNeAt.str_str _ _ _ _⟩
    · cases h; obtain ⟨t, rfl⟩ := ra; obtain ⟨u, rfl⟩ := rb; exact ⟨eqBytes_at _ _ _ _, rcBytes_at _ _ _ _, rcNeBytes_at _ _ _ _⟩
  | succ n ih =>
    intro a b r A s N M va vb h hu ra rb
    have hu0 : A.units < cLine := by (first | lia | omega)
    cases a <;> cases b <;> try (cases h; done)
    · cases h; rw [show va = _ from ra, show vb = _ from rb]; exact ⟨eqNone_at, RcAt.none_none, RcNeAt.none_none⟩
    · cases h; rw [show va = _ from ra, show vb = _ from rb]; exact ⟨EqAt.bool_bool _ _, RcAt.bool_bool _ _, RcNeAt.bool_bool _ _⟩
    · cases h; obtain ⟨t, rfl⟩ := ra; obtain ⟨u, rfl⟩ := rb; exact ⟨EqAt.int_int _ _ _ _, RcAt.int_int _ _ _ _, RcNeAt.int_int _ _ _ _⟩
    · cases h; obtain ⟨t, rfl⟩ := ra; obtain ⟨u, rfl⟩ := rb; exact ⟨EqAt.str_str _ _ _ _, RcAt.str_str _ _ _ _, RcNeAt.str_str _ _ _ _⟩
    · cases h; obtain ⟨t, rfl⟩ := ra; obtain ⟨u, rfl⟩ := rb; exact ⟨eqBytes_at _ _ _ _, rcBytes_at _ _ _ _, rcNeBytes_at _ _ _ _⟩
    · rename_i xs ys
      obtain ⟨l, vs, k, rfl, _, hl, rl⟩ := ra; obtain ⟨b, us, m, rfl, _, hb, rb⟩ := rb
      simp only [eqB] at h
      obtain ⟨hlen, f, hf, hr⟩ := allEq_at h
      have he : ∀ j (h1 : j < vs.toArray.size) (h2 : j < us.toArray.size), EqAt A.in1 s vs.toArray[j] us.toArray[j] (f j) := fun j h1 h2 => by
        have l1 : vs.length = xs.length := rl.length
        have l2 : us.length = ys.length := rb.length
        have j1 : j < xs.length := by simpa [l1] using h1
        have j2 : j < ys.length := by simpa [l2] using h2
        obtain ⟨v, hv, r1⟩ := rl.get (i := j) (d := xs[j]) (by simp [j1])
        obtain ⟨u, hu', r2⟩ := rb.get (i := j) (d := ys[j]) (by simp [j2])
        have := (ih xs[j] ys[j] (f j) A.in1 s N M v u (hf j _ _ (by simp [j1]) (by simp [j2])) (by simp only [Around.in1_units]; (first | lia | omega)) r1 r2).1
        have e1 : vs.toArray[j] = v := by simpa [List.getElem?_eq_some_iff, j1, l1] using hv
        have e2 : us.toArray[j] = u := by simpa [List.getElem?_eq_some_iff, j2, l2] using hu'
        rw [e1, e2]; exact this
      have hl' : s.heap.IsTuple l vs.toArray := ⟨_, hl, rfl, _, rfl⟩
      have hb' : s.heap.IsTuple b us.toArray := ⟨_, hb, rfl, _, rfl⟩
      have sz1 : vs.toArray.size = xs.length := by simp [rl.length]
      have sz2 : us.toArray.size = xs.length := by simp [rb.length, hlen]
      have hrr : ((List.range (min vs.toArray.size us.toArray.size)).all f && vs.toArray.size == us.toArray.size) = r := by
        rw [sz1, sz2, Nat.min_self, hr]; simp
      have R1 := RcAt.tuples hl' hb' hu0 he
      have R2 := RcNeAt.tuples hl' hb' hu0 he
      rw [hrr] at R1 R2
      refine ⟨?_, R1, R2⟩
      by_cases hlb : l = b
      · subst hlb
        have e := RepD.unique (N := fun _ => False) (M := fun _ => False) (.tup xs) (.tup ys) (.ref l) ⟨l, vs, k, rfl, fun q => q, hl, rl.zero⟩ ⟨l, us, m, rfl, fun q => q, hb, rb.zero⟩
        cases e
        rw [allEq_refl (eqB_refl n) h]
        exact EqAt.same _
      · exact EqAt.of_refs hlb R1
    · rename_i xs ys
      obtain ⟨l, vs, k, rfl, _, hl, rl⟩ := ra; obtain ⟨b, us, m, rfl, _, hb, rb⟩ := rb
      simp only [eqB] at h
      have hl' : s.heap.IsList l vs.toArray := ⟨_, hl, rfl, _, rfl⟩
      have hb' : s.heap.IsList b us.toArray := ⟨_, hb, rfl, _, rfl⟩
      have sz1 : vs.toArray.size = xs.length := by simp [rl.length]
      have sz2 : us.toArray.size = ys.length := by simp [rb.length]
      have same : l = b → EqAt A s (.ref l) (.ref b) r := fun e => by
        subst e
        have e := RepD.unique (N := fun _ => False) (M := fun _ => False) (.lst xs) (.lst ys) (.ref l) ⟨l, vs, k, rfl, fun q => q, hl, rl.zero⟩ ⟨l, us, m, rfl, fun q => q, hb, rb.zero⟩
        cases e
        rw [if_pos rfl] at h
        rw [allEq_refl (eqB_refl n) h]
        exact EqAt.same _
      split at h
      · rename_i hlen'
        obtain ⟨hlen, f, hf, hr⟩ := allEq_at h
        have he : ∀ j (h1 : j < vs.toArray.size) (h2 : j < us.toArray.size), EqAt A.in1 s vs.toArray[j] us.toArray[j] (f j) := fun j h1 h2 => by
          have l1 : vs.length = xs.length := rl.length
          have l2 : us.length = ys.length := rb.length
          have j1 : j < xs.length := by simpa [l1] using h1
          have j2 : j < ys.length := by simpa [l2] using h2
          obtain ⟨v, hv, r1⟩ := rl.get (i := j) (d := xs[j]) (by simp [j1])
          obtain ⟨u, hu', r2⟩ := rb.get (i := j) (d := ys[j]) (by simp [j2])
          have := (ih xs[j] ys[j] (f j) A.in1 s N M v u (hf j _ _ (by simp [j1]) (by simp [j2])) (by simp only [Around.in1]; (first | lia | omega)) r1 r2).1
          have e1 : vs.toArray[j] = v := by simpa [List.getElem?_eq_some_iff, j1, l1] using hv
          have e2 : us.toArray[j] = u := by simpa [List.getElem?_eq_some_iff, j2, l2] using hu'
          rw [e1, e2]; exact this
        have R1 := RcAt.lists hl' hb' (by (first | lia | omega)) hu0 he
        have R2 := RcNeAt.lists hl' hb' (by (first | lia | omega)) hu0 he
        rw [sz1, hr] at R1 R2
        refine ⟨?_, R1, R2⟩
        by_cases hlb : l = b
        · exact same hlb
        · exact EqAt.of_refs hlb R1
      · rename_i hlen
        cases h
        have R1 := RcAt.lists_lengths hl' hb' (by simpa [sz1, sz2] using hlen) hu0
        have R2 := RcNeAt.lists_lengths hl' hb' (by simpa [sz1, sz2] using hlen) hu0
        refine ⟨?_, R1, R2⟩
        by_cases hlb : l = b
        · exact same hlb
        · exact EqAt.of_refs hlb R1
end Mine
end
section
namespace Mine
open PySem PySem.W PyProof.Rows PySem.Calls PySem.SeqAt

section
variable {T : TI} {A : Around} {Φ : FI}

noncomputable def CmpOk (T : TI) (A : Around) (op : CmpOp) (g : D → D → Option Bool) : Prop :=
  ∀ (a b : D) (c : Bool) (va vb : Value) (s : Shared) (Q : Value → Shared → Prop) (E : Value → Shared → Prop), g a b = some c → RepD (fun _ => False) s.heap a va → RepD (fun _ => False) s.heap b vb →
    (∀ h' tk, Ext s.heap h' → Q (.bool c) { s with heap := h', toks := tk }) → wpAny (model T.prog T.w) A (compareOp op va vb) Q E s
noncomputable def cmpP (g : D → D → Option Bool) (pl pr : S → Option D) (σ : S) : Option Bool := (pl σ).bind fun a => (pr σ).bind fun b => g a b
theorem bind2_some {α β γ : Type} {x : Option α} {y : α → Option β} {g : α → β → Option γ} {d : γ} (h : (x.bind fun a => (y a).bind fun b => g a b) = some d) : ∃ a b, x = some a ∧ y a = some b ∧ g a b = some d := by
  cases x with
  | none => cases h
  | some a =>
    rw [Option.bind_some] at h
    cases hb : y a with
    | none => rw [hb] at h; cases h
    | some b => rw [hb] at h; exact ⟨a, b, rfl, hb, h⟩
noncomputable def boolP (p : S → Option Bool) (σ : S) : Option D := (p σ).map .bool
theorem boolP_some {p : S → Option Bool} {σ : S} {d : D} (h : boolP p σ = some d) : ∃ b, p σ = some b ∧ d = .bool b := by
  unfold boolP at h
  cases hp : p σ with
  | none => rw [hp] at h; cases h
  | some b => rw [hp] at h; cases h; exact ⟨b, rfl, rfl⟩

theorem cmp_core {l r : Expr} {op : CmpOp} {g : D → D → Option Bool} {pl pr : S → Option D} (hg : CmpOk T A op g) (hl : P0Ok T A Φ l pl) (hr : P0Ok T A Φ r pr) {σ : S} {c : Bool} {as : List (Addr × Addr)} {s : Shared} {Q : Value → Shared → Prop} {E : Value → Shared → Prop}
    (h : cmpP g pl pr σ = some c) (x : View T.h₀ Φ as σ s.heap) (k : ∀ h' tk, Ext s.heap h' → Q (.bool c) { s with heap := h', toks := tk }) :
    wpAny (model T.prog T.w) A (eval l Φ.env) (fun a s₁ => wpAny (model T.prog T.w) A (eval r Φ.env) (fun b s₂ => wpAny (model T.prog T.w) A (compareOp op a b) Q E s₂) E s₁) E s := by
  obtain ⟨a, b, ha, hb, hc⟩ := bind2_some h
  refine hl σ a as s _ E ha x fun va h₁ t₁ e₁ ra => ?_
  refine hr σ b as { s with heap := h₁, toks := t₁ } _ E hb (x.ext e₁) fun vb h₂ t₂ e₂ rb => ?_
  refine hg a b c va vb { s with heap := h₂, toks := t₂ } Q E hc (ra.keep e₂.keepSeq) rb fun h' tk e => ?_
  exact k h' tk ((e₁.trans e₂).trans e)

theorem PvOk.cmp {l r : Expr} {op : CmpOp} {pos : Pos} {g : D → D → Option Bool} {pl pr : S → Option D} (hg : CmpOk T A op g) (hl : P0Ok T A Φ l pl) (hr : P0Ok T A Φ r pr) (hm : behindInMarks op r = false) :
    PvOk T A Φ (.Compare l [op] [r] pos) (boolP (cmpP g pl pr)) := by
  intro σ d as s Q E h x k
  obtain ⟨b, hb, rfl⟩ := boolP_some h
  exact wpAny_Compare1 (cmp_core hg hl hr hb x fun h' tk e => k _ h' tk e rfl) hm
theorem TvOk.cmp {l r : Expr} {op : CmpOp} {pos : Pos} {g : D → D → Option Bool} {pl pr : S → Option D} (hg : CmpOk T A op g) (hl : P0Ok T A Φ l pl) (hr : P0Ok T A Φ r pr) (hm : behindInMarks op r = false) :
    TvOk T A Φ (.Compare l [op] [r] pos) (cmpP g pl pr) := by
  intro σ b as s Q E h x k
  exact wpAny_isTrue_Compare1 (cmp_core hg hl hr h x fun h' tk e => wpAny_truthy_bool (k h' tk e)) hm

noncomputable def ltD : D → D → Option Bool
  | .int a, .int b => some (decide (a < b))
  | _, _ => none
noncomputable def leD : D → D → Option Bool
  | .int a, .int b => some (decide (a ≤ b))
  | _, _ => none
noncomputable def gtD : D → D → Option Bool
  | .int a, .int b => some (decide (b < a))
  | _, _ => none
theorem ltOk : CmpOk T A .Lt ltD := by
  intro a b c va vb s Q E h ra rb k
  cases a <;> cases b <;> try (cases h; done)
  obtain ⟨t, rfl⟩ := ra; obtain ⟨u, rfl⟩ := rb; cases h
  exact PySem.P.lt_int (k s.heap s.toks (Ext.refl _))
theorem leOk : CmpOk T A .LtE leD := by
  intro a b c va vb s Q E h ra rb k
  cases a <;> cases b <;> try (cases h; done)
  obtain ⟨t, rfl⟩ := ra; obtain ⟨u, rfl⟩ := rb; cases h
  exact PySem.P.le_int (k s.heap s.toks (Ext.refl _))
theorem gtOk : CmpOk T A .Gt gtD := by
  intro a b c va vb s Q E h ra rb k
  cases a <;> cases b <;> try (cases h; done)
  obtain ⟨t, rfl⟩ := ra; obtain ⟨u, rfl⟩ := rb; cases h
  exact PySem.P.gt_int (k s.heap s.toks (Ext.refl _))
noncomputable def eqD (a b : D) : Option Bool := eqB 8 a b
noncomputable def neD (a b : D) : Option Bool := (eqB 8 a b).map (!·)
theorem eqOk (R : A.units + 8 < cLine) : CmpOk T A .Eq eqD := by
  intro a b c va vb s Q E h ra rb k
  exact (eqB_at 8 a b c A s _ _ va vb h R ra rb).2.1 _ _ E Q (k s.heap s.toks (Ext.refl _))
theorem neOk (R : A.units + 8 < cLine) : CmpOk T A .NotEq neD := by
  intro a b c va vb s Q E h ra rb k
  unfold neD at h
  cases he : eqB 8 a b with
  | none => rw [he] at h; cases h
  | some r =>
    rw [he] at h; cases h
    exact (eqB_at 8 a b r A s _ _ va vb he R ra rb).2.2 _ _ E Q (k s.heap s.toks (Ext.refl _))
noncomputable def isNoneD : D → D → Option Bool
  | .none, .none => some true
  | _, .none => some false
  | _, _ => none
theorem isNoneOk : CmpOk T A .Is isNoneD := by
  intro a b c va vb s Q E h ra rb k
  cases b <;> try (cases a <;> cases h; done)
  rw [show vb = _ from rb]
  refine is_none ?_
  cases a
  · cases h; rw [show va = _ from ra]; exact k s.heap s.toks (Ext.refl _)
  · cases h; rw [show va = _ from ra]; exact k s.heap s.toks (Ext.refl _)
  · cases h; obtain ⟨t, rfl⟩ := ra; exact k s.heap s.toks (Ext.refl _)
  · cases h; obtain ⟨t, rfl⟩ := ra; exact k s.heap s.toks (Ext.refl _)
  · cases h; obtain ⟨t, rfl⟩ := ra; exact k s.heap s.toks (Ext.refl _)
  · cases h; obtain ⟨_, _, _, rfl, _⟩ := ra; exact k s.heap s.toks (Ext.refl _)
  · cases h; obtain ⟨_, _, _, rfl, _⟩ := ra; exact k s.heap s.toks (Ext.refl _)
noncomputable def inL (x : D) : List D → Option Bool
  | [] => some false
  | y :: ys => (eqB 8 y x).bind fun a => (inL x ys).bind fun b => some (a || b)
noncomputable def inD : D → D → Option Bool
  | x, .lst ys => inL x ys
  | x, .tup ys => inL x ys
  | _, _ => none
noncomputable def notInD (a b : D) : Option Bool := (inD a b).map (!·)
theorem inL_at {x : D} : ∀ {ys : List D} {r : Bool}, inL x ys = some r → ∃ f : D → Bool, (∀ y ∈ ys, eqB 8 y x = some (f y)) ∧ ys.any f = r
  | [], r, h => by cases h; exact ⟨fun _ => true, fun _ h => by simp at h, rfl⟩
  | y :: ys, r, h => by
    obtain ⟨a, b, ha, hb, hr⟩ := bind2_some (y := fun _ => inL x ys) (g := fun a b => some (a || b)) h
    obtain ⟨f, hf, hr'⟩ := inL_at hb
    refine ⟨fun z => (eqB 8 z x).getD false, fun z hz => ?_, ?_⟩
    · show _ = some ((eqB 8 z x).getD false)
      rcases List.mem_cons.mp hz with rfl | hz
      · rw [ha]; rfl
      · rw [hf z hz]; rfl
    · cases hr
      rw [List.any_cons, ha, ← hr']
      congr 1
      rw [Bool.eq_iff_iff, List.any_eq_true, List.any_eq_true]
      constructor
      · rintro ⟨z, hz, e⟩; rw [hf z hz] at e; exact ⟨z, hz, e⟩
      · rintro ⟨z, hz, e⟩; exact ⟨z, hz, by rw [hf z hz]; exact e⟩
open Classical in
noncomputable def valE (h : Heap) (f : D → Bool) (v : Value) : Bool := if ∃ d, RepD (fun _ => False) h d v ∧ f d = true then true else false
theorem valE_rep {h : Heap} {f : D → Bool} {d : D} {v : Value} (r : RepD (fun _ => False) h d v) : valE h f v = f d := by
  unfold valE
  cases hf : f d with
  | true => rw [if_pos ⟨d, r, hf⟩]
  | false =>
    rw [if_neg]
    rintro ⟨d', r', h'⟩
    rw [RepD.unique d' d v r' r, hf] at h'
    cases h'
theorem RepDs.mem {N : Addr → Prop} {h : Heap} : ∀ {ds : List D} {vs : List Value} {v : Value}, RepDs N h ds vs → v ∈ vs → ∃ d ∈ ds, RepD N h d v
  | [], _, v, r, m => by rw [show _ = [] from r] at m; cases m
  | d :: ds, _, v, ⟨u, r, e, hu, hr⟩, m => by
    rw [e] at m
    rcases List.mem_cons.mp m with rfl | m
    · exact ⟨d, .head _, hu⟩
    · obtain ⟨d', hd, r'⟩ := RepDs.mem hr m
      exact ⟨d', .tail _ hd, r'⟩
theorem RepDs.any {h : Heap} {f : D → Bool} : ∀ {ds : List D} {vs : List Value}, RepDs (fun _ => False) h ds vs → vs.any (valE h f) = ds.any f
  | [], _, r => by rw [show _ = [] from r]; rfl
  | d :: ds, _, ⟨u, r, e, hu, hr⟩ => by rw [e, List.any_cons, List.any_cons, RepDs.any hr, valE_rep hu]
theorem notInOk (R : A.units + 9 < cLine) : CmpOk T A .NotIn notInD := by
  intro a b c va vb s Q E h ra rb k
  cases b <;> try (cases h; done)
  · rename_i ys
    obtain ⟨l, vs, n, rfl, _, hl, rl⟩ := rb
    unfold notInD at h
    cases hi : inD a (.tup ys) with
    | none => rw [hi] at h; cases h
    | some c' =>
    rw [hi] at h; cases h
    obtain ⟨f, hf, hr⟩ := inL_at (show inL a ys = some c' from hi)
    refine notIn_tupleAt (valE s.heap f) ⟨_, hl, rfl, _, rfl⟩ (fun y hy => ?_) ?_
    · obtain ⟨d, hd, r⟩ := rl.mem (by simpa using hy)
      rw [valE_rep r]
      exact (eqB_at 8 d a _ A.in1 s _ _ y va (hf d hd) (by simp only [Around.in1]; (first | lia | omega)) r ra).1
    · rw [show vs.toArray.any (valE s.heap f) = c' by rw [List.any_toArray, rl.any, hr]]
      exact k s.heap s.toks (Ext.refl _)
  · rename_i ys
    obtain ⟨l, vs, n, rfl, _, hl, rl⟩ := rb
    unfold notInD at h
    cases hi : inD a (.lst ys) with
    | none => rw [hi] at h; cases h
    | some c' =>
    rw [hi] at h; cases h
    obtain ⟨f, hf, hr⟩ := inL_at (show inL a ys = some c' from hi)
    refine notIn_listAt (valE s.heap f) ⟨_, hl, rfl, _, rfl⟩ (fun y hy => ?_) ?_
    · obtain ⟨d, hd, r⟩ := rl.mem (by simpa using hy)
      rw [valE_rep r]
      exact (eqB_at 8 d a _ A.in1 s _ _ y va (hf d hd) (by simp only [Around.in1]; (first | lia | omega)) r ra).1
    · rw [show vs.toArray.any (valE s.heap f) = c' by rw [List.any_toArray, rl.any, hr]]
      exact k s.heap s.toks (Ext.refl _)

noncomputable def truthD : D → Option Bool
  | .bool b => some b
  | _ => none
theorem truthy_D {d : D} {b : Bool} {v : Value} {N : Addr → Prop} {s : Shared} {Q : Bool → Shared → Prop} {E : Value → Shared → Prop} (h : truthD d = some b) (r : RepD N s.heap d v) (k : Q b s) : wpAny (model T.prog T.w) A (truthy v) Q E s := by
  cases d <;> try (cases h; done)
  cases h
  rw [show v = _ from r]
  exact wpAny_truthy_bool k
noncomputable def truthP (p : S → Option D) (σ : S) : Option Bool := (p σ).bind truthD
theorem TvOk.value {e : Expr} {p : S → Option D} (hp : PvOk T A Φ e p) (he : ∀ whole, isTrue e Φ.env whole = (do let v ← whole; standAt e.pos; holding [v] (truthy v))) : TvOk T A Φ e (truthP p) := by
  intro σ b as s Q E h x k
  unfold truthP at h
  cases hd : p σ with
  | none => rw [hd] at h; cases h
  | some d =>
    rw [hd] at h
    refine wpAny_isTrue_value ?_ (he _)
    exact hp σ d as s _ E hd x fun v h' tk e r => truthy_D h r (k h' tk e)
noncomputable def notP (p : S → Option Bool) (σ : S) : Option Bool := (p σ).map (!·)
theorem TvOk.not {e : Expr} {pos : Pos} {p : S → Option Bool} (hp : TvOk T A Φ e p) : TvOk T A Φ (.UnaryOp .Not e pos) (notP p) := by
  intro σ b as s Q E h x k
  unfold notP at h
  cases hd : p σ with
  | none => rw [hd] at h; cases h
  | some c =>
    rw [hd] at h; cases h
    exact PyProof.Rows.isTrue_not (hp σ c as s _ E hd x fun h' tk e => k h' tk e)
noncomputable def andT : List (S → Option Bool) → S → Option Bool
  | [], _ => some true
  | p :: ps, σ => (p σ).bind fun b => if b then andT ps σ else some false
noncomputable def orT : List (S → Option Bool) → S → Option Bool
  | [], _ => some false
  | p :: ps, σ => (p σ).bind fun b => if b then some true else orT ps σ
inductive TvsOk (T : TI) (A : Around) (Φ : FI) : List Expr → List (S → Option Bool) → Prop
  | nil : TvsOk T A Φ [] []
  | cons {e : Expr} {p : S → Option Bool} {es : List Expr} {ps : List (S → Option Bool)} : TvOk T A Φ e p → TvsOk T A Φ es ps → TvsOk T A Φ (e :: es) (p :: ps)
theorem TvOk.and {es : List Expr} {pos : Pos} {ps : List (S → Option Bool)} (hp : TvsOk T A Φ es ps) : TvOk T A Φ (.BoolOp .And es pos) (andT ps) := by
  intro σ b as s Q E h x k
  refine wpAny_isTrue_BoolOp ?_
  induction hp generalizing s with
  | nil => cases h; exact wpAny_allTrue_And_nil (k s.heap s.toks (Ext.refl _))
  | @cons e p es ps h1 h2 ih =>
    unfold andT at h
    cases hd : p σ with
    | none => rw [hd] at h; cases h
    | some c =>
      rw [hd, Option.bind_some] at h
      refine wpAny_allTrue_And_cons (h1 σ c as s _ E hd x fun h' tk e => ?_)
      cases c with
      | true => exact ih { s with heap := h', toks := tk } h (x.ext e) fun h'' tk' e' => k h'' tk' (e.trans e')
      | false => cases h; exact k h' tk e
theorem TvOk.or {es : List Expr} {pos : Pos} {ps : List (S → Option Bool)} (hp : TvsOk T A Φ es ps) : TvOk T A Φ (.BoolOp .Or es pos) (orT ps) := by
  intro σ b as s Q E h x k
  refine wpAny_isTrue_BoolOp ?_
  induction hp generalizing s with
  | nil => cases h; exact wpAny_allTrue_Or_nil (k s.heap s.toks (Ext.refl _))
  | @cons e p es ps h1 h2 ih =>
    unfold orT at h
    cases hd : p σ with
    | none => rw [hd] at h; cases h
    | some c =>
      rw [hd, Option.bind_some] at h
      refine wpAny_allTrue_Or_cons (h1 σ c as s _ E hd x fun h' tk e => ?_)
      cases c with
      | false => exact ih { s with heap := h', toks := tk } h (x.ext e) fun h'' tk' e' => k h'' tk' (e.trans e')
      | true => cases h; exact k h' tk e
noncomputable def iteP {α : Type} (t : S → Option Bool) (p q : S → Option α) (σ : S) : Option α := (t σ).bind fun b => if b then p σ else q σ
theorem PvOk.ite {t a b : Expr} {pos : Pos} {pt : S → Option Bool} {pa pb : S → Option D} (ht : TvOk T A Φ t pt) (ha : PvOk T A Φ a pa) (hb : PvOk T A Φ b pb) : PvOk T A Φ (.IfExp t a b pos) (iteP pt pa pb) := by
  intro σ d as s Q E h x k
  unfold iteP at h
  cases hd : pt σ with
  | none => rw [hd] at h; cases h
  | some c =>
    rw [hd, Option.bind_some] at h
    refine wpAny_IfExp (ht σ c as s _ E hd x fun h' tk e => ?_)
    cases c with
    | true => exact ha σ d as { s with heap := h', toks := tk } Q E h (x.ext e) fun v h'' tk' e' r => k v h'' tk' (e.trans e') r
    | false => exact hb σ d as { s with heap := h', toks := tk } Q E h (x.ext e) fun v h'' tk' e' r => k v h'' tk' (e.trans e') r

inductive PvsEach (T : TI) (A : Around) (Φ : FI) : List Expr → List (S → Option D) → Prop
  | nil : PvsEach T A Φ [] []
  | cons {e : Expr} {p : S → Option D} {es : List Expr} {ps : List (S → Option D)} : PvOk T A Φ e p → PvsEach T A Φ es ps → PvsEach T A Φ (e :: es) (p :: ps)
noncomputable def andV : List (S → Option D) → S → Option D
  | [], _ => none
  | [p], σ => p σ
  | p :: q :: ps, σ => (p σ).bind fun d => (truthD d).bind fun b => if b then andV (q :: ps) σ else some d
noncomputable def orV : List (S → Option D) → S → Option D
  | [], _ => none
  | [p], σ => p σ
  | p :: q :: ps, σ => (p σ).bind fun d => (truthD d).bind fun b => if b then some d else orV (q :: ps) σ
theorem PvOk.andV {es : List Expr} {pos : Pos} {ps : List (S → Option D)} (hp : PvsEach T A Φ es ps) : PvOk T A Φ (.BoolOp .And es pos) (andV ps) := by
  intro σ d as s Q E h x k
  rw [arm_eval_BoolOp]
  induction hp generalizing s with
  | nil => cases h
  | @cons e p es ps h1 h2 ih =>
    cases h2 with
    | nil => exact h1 σ d as s Q E h x k
    | @cons e' p' es' ps' h3 h4 =>
      obtain ⟨a, b, ha, hb, hr⟩ := bind2_some (y := truthD) (g := fun d b => if b then Mine.andV (p' :: ps') σ else some d) h
      show wpAny _ A (eval e Φ.env >>= fun v => standAt pos >>= fun _ => holding [v] (truthy v) >>= fun t => _) Q E s
      refine wpAny_bind (h1 σ a as s _ E ha x fun v h' tk e' r => ?_)
      refine wpAny_bind (wpAny_standAt (wpAny_bind (wpAny_holding (truthy_D hb r ?_))))
      cases b with
      | true => exact ih { s with heap := h', toks := tk } hr (x.ext e') fun v h'' tk' e'' r => k v h'' tk' (e'.trans e'') r
      | false => cases hr; exact wpAny_pure (k v h' tk e' r)
theorem PvOk.orV {es : List Expr} {pos : Pos} {ps : List (S → Option D)} (hp : PvsEach T A Φ es ps) : PvOk T A Φ (.BoolOp .Or es pos) (orV ps) := by
  intro σ d as s Q E h x k
  rw [arm_eval_BoolOp]
  induction hp generalizing s with
  | nil => cases h
  | @cons e p es ps h1 h2 ih =>
    cases h2 with
    | nil => exact h1 σ d as s Q E h x k
    | @cons e' p' es' ps' h3 h4 =>
      obtain ⟨a, b, ha, hb, hr⟩ := bind2_some (y := truthD) (g := fun d b => if b then some d else Mine.orV (p' :: ps') σ) h
      show wpAny _ A (eval e Φ.env >>= fun v => standAt pos >>= fun _ => holding [v] (truthy v) >>= fun t => _) Q E s
      refine wpAny_bind (h1 σ a as s _ E ha x fun v h' tk e' r => ?_)
      refine wpAny_bind (wpAny_standAt (wpAny_bind (wpAny_holding (truthy_D hb r ?_))))
      cases b with
      | false => exact ih { s with heap := h', toks := tk } hr (x.ext e') fun v h'' tk' e'' r => k v h'' tk' (e'.trans e'') r
      | true => cases hr; exact wpAny_pure (k v h' tk e' r)
noncomputable def negD : D → Option D
  | .int a => some (.int (-a))
  | _ => none
theorem PvOk.neg {e : Expr} {pos : Pos} {p : S → Option D} (hp : PvOk T A Φ e p) : PvOk T A Φ (.UnaryOp .USub e pos) (fun σ => (p σ).bind negD) := by
  intro σ d as s Q E h x k
  cases hd : p σ with
  | none => simp only [hd] at h; cases h
  | some a =>
    simp only [hd, Option.bind_some] at h
    cases a <;> try (cases h; done)
    cases h
    show wpAny _ A (eval e Φ.env >>= fun v => standAt pos >>= fun _ => holding [v] (unaryOp .USub v)) Q E s
    refine wpAny_bind (hp σ _ as s _ E hd x fun v h' tk e' r => ?_)
    obtain ⟨t, rfl⟩ := r
    exact wpAny_bind (wpAny_standAt (wpAny_holding (PySem.P.neg_int (k _ h' _ e' ⟨_, rfl⟩))))
end
end Mine
end
section
namespace Mine
open PySem PySem.W PyProof.Rows PySem.Calls PySem.SeqAt

section
variable {T : TI} {A : Around} {Φ : FI}

noncomputable def consP {α : Type} (p : S → Option α) (ps : S → Option (List α)) (σ : S) : Option (List α) := (p σ).bind fun d => (ps σ).bind fun ds => some (d :: ds)
noncomputable def nilP {α : Type} (_ : S) : Option (List α) := some []
theorem consP_some {α : Type} {p : S → Option α} {ps : S → Option (List α)} {σ : S} {l : List α} (h : consP p ps σ = some l) : ∃ d ds, p σ = some d ∧ ps σ = some ds ∧ l = d :: ds := by
  obtain ⟨a, b, ha, hb, hc⟩ := bind2_some (y := fun _ => ps σ) (g := fun d ds => some (d :: ds)) h
  cases hc; exact ⟨a, b, ha, hb, rfl⟩
theorem PvsOk.nil : PvsOk T A Φ [] nilP := by
  intro σ ds as s pos Q E h x k; cases h
  exact wpAny_items_nil (k [] s.heap s.toks (Ext.refl _) rfl)
theorem PvsOk.cons {e : Expr} {es : List Expr} {p : S → Option D} {ps : S → Option (List D)} (he : PvOk T A Φ e p) (hes : PvsOk T A Φ es ps) (hst : starEach (e :: es) Φ.env = (false, eval e Φ.env) :: starEach es Φ.env) : PvsOk T A Φ (e :: es) (consP p ps) := by
  intro σ ds as s pos Q E h x k
  obtain ⟨d, ds, hd, hds, rfl⟩ := consP_some h
  refine wpAny_items_cons (he σ d as s _ E hd x fun v h₁ t₁ e₁ r₁ => ?_) hst
  refine hes σ ds as { s with heap := h₁, toks := t₁ } pos _ E hds (x.ext e₁) fun vs h₂ t₂ e₂ r₂ => ?_
  exact k (v :: vs) h₂ t₂ (e₁.trans e₂) ⟨v, vs, rfl, r₁.keep e₂.keepSeq, r₂⟩
noncomputable def tupP (ps : S → Option (List D)) (σ : S) : Option D := (ps σ).bind fun ds => if ds.length ≤ 1000 then some (.tup ds) else none
noncomputable def lstP (ps : S → Option (List D)) (σ : S) : Option D := (ps σ).bind fun ds => if ds.length ≤ 1000 then some (.lst ds) else none
theorem tupP_some {ps : S → Option (List D)} {σ : S} {d : D} (h : tupP ps σ = some d) : ∃ ds, ps σ = some ds ∧ ds.length ≤ 1000 ∧ d = .tup ds := by
  unfold tupP at h
  cases hp : ps σ with
  | none => rw [hp] at h; cases h
  | some ds =>
    rw [hp, Option.bind_some] at h
    split at h
    · rename_i hl; cases h; exact ⟨ds, rfl, hl, rfl⟩
    · cases h
theorem lstP_some {ps : S → Option (List D)} {σ : S} {d : D} (h : lstP ps σ = some d) : ∃ ds, ps σ = some ds ∧ ds.length ≤ 1000 ∧ d = .lst ds := by
  unfold lstP at h
  cases hp : ps σ with
  | none => rw [hp] at h; cases h
  | some ds =>
    rw [hp, Option.bind_some] at h
    split at h
    · rename_i hl; cases h; exact ⟨ds, rfl, hl, rfl⟩
    · cases h
theorem PvOk.tuple {es : List Expr} {n : Nat} {pos : Pos} {ps : S → Option (List D)} (hp : PvsOk T A Φ es ps) : PvOk T A Φ (.Tuple es n pos) (tupP ps) := by
  intro σ d as s Q E h x k
  obtain ⟨ds, hds, hl, rfl⟩ := tupP_some h
  refine wpAny_Tuple (hp σ ds as s pos _ E hds x fun vs h' tk e r => ⟨by rw [r.length, sizeLine_eq]; (first | lia | omega), ?_⟩)
  exact k _ _ tk (e.trans (Ext.push _ _)) ⟨h'.objs.size, vs, 0, rfl, (x.ext e).freshEx (get?_size _), Heap.get?_push_size _ rfl, r.keep (Ext.push _ _).keepSeq⟩
theorem PvOk.list {es : List Expr} {pos : Pos} {ps : S → Option (List D)} (hp : PvsOk T A Φ es ps) : PvOk T A Φ (.List es pos) (lstP ps) := by
  intro σ d as s Q E h x k
  obtain ⟨ds, hds, hl, rfl⟩ := lstP_some h
  refine wpAny_List (hp σ ds as s pos _ E hds x fun vs h' tk e r => ⟨by rw [r.length, sizeLine_eq]; (first | lia | omega), ?_⟩)
  exact k _ _ tk (e.trans (Ext.push _ _)) ⟨h'.objs.size, vs, 0, rfl, (x.ext e).freshEx (get?_size _), Heap.get?_push_size _ rfl, r.keep (Ext.push _ _).keepSeq⟩

theorem subTail {value slice : Expr} {o i : Value} {Tn id : String} {s : Shared} {Q : Value → Shared → Prop} {E : Value → Shared → Prop} (hT : s.TypeIs o Tn)
    (hl : typeLookup (.type Tn) "__getitem__" = pure (some (.builtin id))) (h : wpAny (model T.prog T.w) A (getItem o i) Q E s) : wpAny (model T.prog T.w) A (subscriptTail value slice o i) Q E s := by
  unfold subscriptTail
  refine wpAny_bind ?_
  rw [getitemInPython_of_ne hT.not_modules]
  refine wpAny_bind (wpAny_specialOf hT hl ?_)
  have fin : wpAny (model T.prog T.w) A (subscripted slice false o i) (fun r s₃ => wpAny (model T.prog T.w) A (letTemporaryGo value o r >>= fun _ => pure r) Q E s₃) E s := by
    have h' : wpAny (model T.prog T.w) A (getItem o i) (fun r s₃ => wpAny (model T.prog T.w) A (letTemporaryGo value o r >>= fun _ => pure r) Q E s₃) E s :=
      wpAny_mono h (fun r s₃ h₃ => wpAny_bind (wpAny_letTemporaryGo (wpAny_pure h₃))) fun _ _ x => x
    unfold subscripted
    split
    · exact wpAny_operating h'
    · rename_i q; cases q
    · exact wpAny_operating h'
  first
    | exact wpAny_pure (wpAny_bind fin)
    | exact wpAny_bind (wpAny_pure (wpAny_bind fin))
    | exact wpAny_bind fin

noncomputable def getI (xs : List D) (i : Int) : Option D :=
  if 0 ≤ i ∧ i < 1000000 then xs[i.toNat]? else if -1000000 < i ∧ i < 0 ∧ 0 ≤ (xs.length : Int) + i then xs[((xs.length : Int) + i).toNat]? else none
noncomputable def idxD : D → D → Option D
  | .lst xs, .int i => getI xs i
  | .tup xs, .int i => getI xs i
  | _, _ => none
theorem getItem_core {a : Addr} {vs : List Value} {n : Nat} {i : Int} {t : Tok} {xs : List D} {d : D} {N : Addr → Prop} {s : Shared} {Q : Value → Shared → Prop} {E : Value → Shared → Prop} (ho : s.heap.get? a = some (lstObj vs n) ∨ s.heap.get? a = some (tupObj vs n))
    (rs : RepDs N s.heap xs vs) (h : getI xs i = some d) (k : ∀ v, RepD N s.heap d v → Q v s) (value slice : Expr) : wpAny (model T.prog T.w) A (subscriptTail value slice (.ref a) (.int i t)) Q E s := by
  unfold getI at h
  have hlen := rs.length
  split at h
  · rename_i hi
    obtain ⟨v, hv, r⟩ := rs.get h
    have hlt : i.toNat < vs.length := (List.getElem?_eq_some_iff.mp hv).1
    rcases ho with ho | ho
    · refine subTail ⟨_, ho, rfl⟩ slot_list_getitem.lookup (wpAny_getItem_list ⟨_, ho, rfl, _, rfl⟩ hi.1 (by (first | lia | omega)) (by simpa using hv) (k v r))
    · refine subTail ⟨_, ho, rfl⟩ slot_tuple_getitem.lookup (PySem.P.getItem_tuple ho (by (first | lia | omega)) (by (first | lia | omega)) (k := i.toNat) ?_ (by simpa using hv) (k v r))
      have h0 : ¬ i < 0 := by (first | lia | omega)
      have h1 : i < (vs.length : Int) := by (first | lia | omega)
      simp [seqIndex?, h0, hi.1, h1]
  · split at h
    · rename_i hi
      obtain ⟨v, hv, r⟩ := rs.get h
      rcases ho with ho | ho
      · refine subTail ⟨_, ho, rfl⟩ slot_list_getitem.lookup (wpAny_getItem_list_neg ⟨_, ho, rfl, _, rfl⟩ hi.2.1 (by simp only [List.size_toArray, hlen]; (first | lia | omega)) (by (first | lia | omega)) ?_ (k v r))
        simp only [List.size_toArray, hlen]
        rw [show (i + (xs.length : Int)) = ((xs.length : Int) + i) by (first | lia | omega)]
        simpa using hv
      · refine subTail ⟨_, ho, rfl⟩ slot_tuple_getitem.lookup (PySem.P.getItem_tuple ho (by (first | lia | omega)) (by (first | lia | omega)) (k := ((xs.length : Int) + i).toNat) ?_ (by simpa using hv) (k v r))
        have h1 : 0 ≤ i + (xs.length : Int) := by (first | lia | omega)
        have h2 : i + (xs.length : Int) < xs.length := by (first | lia | omega)
        simp [seqIndex?, hi.2.1, hlen, h1, h2]
        (first | lia | omega)
    · cases h
theorem PvOk.index {e i : Expr} {pos : Pos} {p q : S → Option D} (hp : PvOk T A Φ e p) (hq : PvOk T A Φ i q) : PvOk T A Φ (.Subscript e i pos) (binP idxD p q) := by
  intro σ d as s Q E h x k
  obtain ⟨a, b, ha, hb, hc⟩ := binP_some h
  refine Subscript_ (hp σ a as s _ E ha x fun va h₁ t₁ e₁ ra => ?_)
  refine hq σ b as { s with heap := h₁, toks := t₁ } _ E hb (x.ext e₁) fun vb h₂ t₂ e₂ rb => ?_
  have ra' := ra.keep e₂.keepSeq
  cases a <;> cases b <;> try (cases hc; done)
  · obtain ⟨l, vs, n, rfl, _, hl, rs⟩ := ra'; obtain ⟨t, rfl⟩ := rb
    exact getItem_core (s := { s with heap := h₂, toks := t₂ }) (.inr hl) rs hc (fun v r => k v h₂ t₂ (e₁.trans e₂) r) _ _
  · obtain ⟨l, vs, n, rfl, _, hl, rs⟩ := ra'; obtain ⟨t, rfl⟩ := rb
    exact getItem_core (s := { s with heap := h₂, toks := t₂ }) (.inl hl) rs hc (fun v r => k v h₂ t₂ (e₁.trans e₂) r) _ _
noncomputable def idxR (i : Nat) (q : S → Option D) (σ : S) : Option D := (snap i σ).bind fun a => (q σ).bind fun b => idxD a b
theorem PvOk.indexR {n : Str} {i : Expr} {np pos : Pos} {q : S → Option D} (j : Nat) (F : FOk Φ) (hs : SlotIs Φ j n) (hd : (n == ("__debug__" : Str)) = false) (hq : PvOk T A Φ i q) : PvOk T A Φ (.Subscript (.Name n np) i pos) (idxR j q) := by
  intro σ d as s Q E h x k
  obtain ⟨a, b, ha, hb, hc⟩ := bind2_some (y := fun _ => q σ) h
  obtain ⟨c, xs, hv, hx, rfl⟩ := snap_some ha
  refine Subscript_ (name_slot F hs x hv (fun u r => ?_) hd)
  obtain ⟨p, hp, rfl⟩ := r
  refine hq σ b as s _ E hb x fun vb h₂ t₂ e₂ rb => ?_
  obtain ⟨vs, m, ho, hr⟩ := (x.ext e₂).led c p _ hp hx
  cases b <;> try (cases hc; done)
  obtain ⟨t, rfl⟩ := rb
  exact getItem_core (s := { s with heap := h₂, toks := t₂ }) (.inl ho) hr hc (fun v r => k v h₂ t₂ e₂ r) _ _

noncomputable def PoOk (T : TI) (A : Around) (Φ : FI) (e : Option Expr) (p : S → Option (Option Int)) : Prop :=
  ∀ (σ : S) (d : Option Int) (as : List (Addr × Addr)) (s : Shared) (Q : Value → Shared → Prop) (E : Value → Shared → Prop), p σ = some d → View T.h₀ Φ as σ s.heap →
    (∀ v h' tk, Ext s.heap h' → IsPart v d → Q v { s with heap := h', toks := tk }) → wpAny (model T.prog T.w) A (evalPart e Φ.env) Q E s
noncomputable def partD : D → Option (Option Int)
  | .int i => if 0 ≤ i then some (some i) else none
  | _ => none
theorem PoOk.none : PoOk T A Φ none (fun _ => some none) := by
  intro σ d as s Q E h x k; cases h
  rw [evalPart_none]
  exact wpAny_pure (k .none s.heap s.toks (Ext.refl _) .none)
theorem PoOk.some {e : Expr} {p : S → Option D} (hp : PvOk T A Φ e p) : PoOk T A Φ (some e) (fun σ => (p σ).bind partD) := by
  intro σ d as s Q E h x k
  rw [evalPart_some]
  cases hd : p σ with
  | none => simp only [hd] at h; cases h
  | some a =>
    simp only [hd, Option.bind_some] at h
    cases a <;> try (cases h; done)
    simp only [partD] at h
    split at h
    · cases h
      refine hp σ _ as s _ E hd x fun v h' tk e r => ?_
      obtain ⟨t, rfl⟩ := r
      exact k _ h' tk e (.int _ t)
    · cases h
noncomputable def cutL {α : Type} (xs : List α) (lo hi : Option Int) : List α := (xs.take (hi.elim xs.length Int.toNat)).drop (lo.elim 0 Int.toNat)
theorem cut_clip {α : Type} (xs : List α) (lo hi : Option Int) (hlo : 0 ≤ lo.getD 0) (hhi : 0 ≤ hi.getD 0) :
    (xs.drop (lo.elim 0 (clipAt xs.length))).take (hi.elim xs.length (clipAt xs.length) - lo.elim 0 (clipAt xs.length)) = cutL xs lo hi := by
  have c : ∀ i : Int, 0 ≤ i → clipAt xs.length i = min i.toNat xs.length := fun i h => by
    have := clipAt_nat xs.length i.toNat
    rwa [Int.toNat_of_nonneg h] at this
  obtain ⟨a, ha, ha'⟩ : ∃ a : Nat, lo.elim 0 Int.toNat = a ∧ lo.elim 0 (clipAt xs.length) = min a xs.length := by
    cases lo with
    | none => exact ⟨0, rfl, by simp⟩
    | some i => exact ⟨i.toNat, rfl, c i hlo⟩
  obtain ⟨b, hb, hb'⟩ : ∃ b : Nat, hi.elim xs.length Int.toNat = b ∧ hi.elim xs.length (clipAt xs.length) = min b xs.length := by
    cases hi with
    | none => exact ⟨xs.length, rfl, by simp⟩
    | some i => exact ⟨i.toNat, rfl, c i hhi⟩
  unfold cutL
  rw [ha, hb, ha', hb', List.drop_take]
  by_cases hlt : a < xs.length
  · rw [Nat.min_eq_left (Nat.le_of_lt hlt), List.take_eq_take_iff, List.length_drop]
    (first | lia | omega)
  · have e : min a xs.length = xs.length := by (first | lia | omega)
    rw [e, List.drop_of_length_le (Nat.le_refl _), List.drop_of_length_le (by (first | lia | omega))]
    simp
theorem cutL_length {α : Type} (xs : List α) (lo hi : Option Int) : (cutL xs lo hi).length ≤ xs.length := by
  unfold cutL; rw [List.length_drop, List.length_take]; (first | lia | omega)
theorem RepDs.cut {N : Addr → Prop} {h : Heap} {ds : List D} {vs : List Value} (r : RepDs N h ds vs) (lo hi : Option Int) : RepDs N h (cutL ds lo hi) (cutL vs lo hi) := by
  unfold cutL
  rw [r.length]
  exact (r.take _).drop _
noncomputable def sliceD (a : D) (l u : Option Int) : Option D := match a with
  | .lst xs => if xs.length ≤ 16777216 ∧ 0 ≤ l.getD 0 ∧ 0 ≤ u.getD 0 then some (.lst (cutL xs l u)) else none
  | .bytes xs => if xs.length ≤ 16777216 ∧ 0 ≤ l.getD 0 ∧ 0 ≤ u.getD 0 then some (.bytes (cutL xs l u)) else none
  | _ => none
noncomputable def sliceP (p : S → Option D) (lo hi : S → Option (Option Int)) (σ : S) : Option D := (p σ).bind fun a => (lo σ).bind fun l => (hi σ).bind fun u => sliceD a l u
theorem bytes_slice {b : List UInt8} {t : Tok} {sl : Addr} {vl vu : Value} {l u : Option Int} {s : Shared} {Q : Value → Shared → Prop} {E : Value → Shared → Prop} (hs : s.heap.IsSliceOf sl vl vu .none) (hl : IsPart vl l) (hu : IsPart vu u) (hsz : b.length ≤ 16777216)
    (h0 : 0 ≤ l.getD 0) (h1 : 0 ≤ u.getD 0) (k : ∀ t' tk, Q (.bytes (cutL b l u).toArray t') { s with toks := tk }) : wpAny (model T.prog T.w) A (getItem (.bytes b.toArray t) (.ref sl)) Q E s := by
  have e : KBy.picked b.toArray l u = (cutL b l u).toArray := by
    rw [KBc.picked_eq, ← cut_clip b l u h0 h1]
    simp
  refine getItem_meets (typeIs_bytes _ _ _) (by decide) FB.slot_bytes_getitem FB.entry_bytes_getitem (FB.args_bytes_getitem_2 _ _) (KBc.meets_slice2 b.toArray t _ hl hu)
    ⟨hs, Nat.le_trans (KBc.size_picked_le _ l u) (by rw [List.size_toArray, sizeLine_eq]; exact hsz), fun t' tk => ?_⟩
  rw [e]
  exact k t' tk
theorem PvOk.slice {e : Expr} {lo hi : Option Expr} {p1 pos : Pos} {p : S → Option D} {pl pu : S → Option (Option Int)} (hp : PvOk T A Φ e p) (hl : PoOk T A Φ lo pl) (hu : PoOk T A Φ hi pu) :
    PvOk T A Φ (.Subscript e (.Slice lo hi none p1) pos) (sliceP p pl pu) := by
  intro σ d as s Q E h x k
  unfold sliceP at h
  cases ha : p σ with
  | none => rw [ha] at h; cases h
  | some a =>
  rw [ha, Option.bind_some] at h
  obtain ⟨l, u, hl', hu', hc⟩ := bind2_some (y := fun _ => pu σ) h
  refine Subscript_ (hp σ a as s _ E ha x fun va h₁ t₁ e₁ ra => ?_)
  refine wpAny_Slice (hl σ l as { s with heap := h₁, toks := t₁ } _ E hl' (x.ext e₁) fun vl h₂ t₂ e₂ il => ?_)
  refine hu σ u as { s with heap := h₂, toks := t₂ } _ E hu' ((x.ext e₁).ext e₂) fun vu h₃ t₃ e₃ iu => ?_
  rw [evalPart_none]
  refine wpAny_pure ?_
  have x₃ := ((x.ext e₁).ext e₂).ext e₃
  have ra' := (ra.keep e₂.keepSeq).keep e₃.keepSeq
  have hsl := Heap.IsSliceOf.new h₃ vl vu .none
  have e4 := Ext.push h₃ ({ cls := .type "slice", data := .fields #[vl, vu, .none] } : Obj)
  have e5 := ((e₁.trans e₂).trans e₃).trans e4
  cases a <;> try (cases hc; done)
  · rename_i xs
    simp only [sliceD] at hc
    split at hc
    · rename_i hz; cases hc
      obtain ⟨t, rfl⟩ := ra'
      refine subTail (typeIs_bytes _ _ _) FB.slot_bytes_getitem.lookup (bytes_slice hsl il iu hz.1 hz.2.1 hz.2.2 fun t' tk => ?_)
      exact k _ _ tk e5 ⟨t', rfl⟩
    · cases hc
  · rename_i xs
    simp only [sliceD] at hc
    split at hc
    · rename_i hz; cases hc
      obtain ⟨a, vs, n, rfl, na, ho, rs⟩ := ra'
      have ho' := e4 _ _ ho
      refine subTail ⟨_, ho', rfl⟩ slot_list_getitem.lookup (wpAny_getItem_list_slice ⟨_, ho', rfl, _, rfl⟩ hsl il iu .none (fun q => nomatch q) ?_ (by rw [List.size_toArray, rs.length, sizeLine_eq]; exact hz.1))
      rw [slicePick_plain]
      refine k _ _ t₃ (e5.trans (Ext.push _ _)) ⟨_, cutL vs l u, 0, rfl, (x₃.ext e4).freshEx (get?_size _), ?_, ((rs.keep e4.keepSeq).cut l u).keep (Ext.push _ _).keepSeq⟩
      have q : (vs.toArray.toList.drop (l.elim 0 (clipAt vs.toArray.size))).take (u.elim vs.toArray.size (clipAt vs.toArray.size) - l.elim 0 (clipAt vs.toArray.size)) = cutL vs l u := by
        rw [← cut_clip vs l u hz.2.1 hz.2.2]; simp
      rw [q]
      exact Heap.get?_push_size _ rfl
    · cases hc
end
end Mine
end
section
namespace Mine
open PySem PySem.W PyProof.Rows PySem.Calls PySem.SeqAt

section
variable {T : TI} {A : Around} {Φ : FI}

noncomputable def S.setVar (σ : S) (i : Nat) (v : Option V) : S := { σ with vars := σ.vars.set i v }
theorem sameBut_ex {a : Addr} {h h' : Heap} (hs : Heap.SameBut a h h') {o : Obj} (ho : h'.get? a = some o) : ∀ b, h'.get? b = none → h.get? b = none := by
  intro b hb
  by_cases e : b = a
  · subst e; rw [hb] at ho; cases ho
  · rw [← hs.2 b e]; exact hb

theorem keepSeq_sameBut {h h' : Heap} {a : Addr} {N : Addr → Prop} (hs : Heap.SameBut a h h') (na : ∀ o, h.get? a = some o → ¬ ∃ vs n, o = tupObj vs n ∨ o = lstObj vs n) : KeepSeq N h N h' := by
  intro b o nb ho hq
  have : b ≠ a := by rintro rfl; exact na o ho hq
  exact ⟨(hs.2 b this).trans ho, nb⟩

theorem live_kind {h₀ : Heap} {as : List (Addr × Addr)} {σ : S} {h : Heap} (x : View h₀ Φ as σ h) {a : Addr} (ha : Live 0 as σ.heap a) : ∃ o, h.get? a = some o := by
  obtain ⟨k, _, p, c, hp, hc, hl⟩ := ha
  have := x.led k p c hp hc
  cases c with
  | list xs => obtain ⟨vs, n, ho, _⟩ := this; cases hl; exact ⟨_, ho⟩
  | inst C at' => obtain ⟨_, _, _, ho, _⟩ := this; cases hl; exact ⟨_, ho⟩
  | dead => cases hl

theorem cellOk_sameBut {h h' : Heap} {a : Addr} {N : Addr → Prop} {p : Addr × Addr} {c : Cell} (hs : Heap.SameBut a h h') (k : KeepSeq N h N h') (hc : CellOk N h p c) (hl : liveAt p c ≠ some a) (hi : ∀ o, h.get? a = some o → o.data ≠ .plain) : CellOk N h' p c := by
  cases c with
  | dead => trivial
  | list xs =>
    refine hc.keep k fun b o hb ho => ?_
    have : b ≠ a := by
      rintro rfl
      rcases hb with hb | rfl
      · exact hl hb
      · exact hl rfl
    exact (hs.2 b this).trans ho
  | inst C at' =>
    refine hc.keep k fun b o hb ho => ?_
    have : b ≠ a := by
      rintro rfl
      rcases hb with hb | rfl
      · exact hl hb
      · rw [hc.1] at ho
        exact hi _ hc.1 rfl
    exact (hs.2 b this).trans ho

theorem setVar_get {σ : S} {i j : Nat} {v : V} {d : V} (h : (σ.setVar i (some v)).vars[j]? = some (some d)) : (i = j ∧ d = v) ∨ (i ≠ j ∧ σ.vars[j]? = some (some d)) := by
  unfold S.setVar at h
  rw [List.getElem?_set] at h
  by_cases e : i = j
  · subst e
    rw [if_pos rfl] at h
    split at h
    · cases h; exact .inl ⟨rfl, rfl⟩
    · cases h
  · rw [if_neg e] at h; exact .inr ⟨e, h⟩

theorem Step.of_sameBut {as : List (Addr × Addr)} {σ σ' : S} {h h' : Heap} {a : Addr} (hs : Heap.SameBut a h h') (ho : Φ.Own σ.prot as σ.heap a) (hp : σ'.prot = σ.prot) (hh : σ'.heap = σ.heap) (he : ∃ o, h'.get? a = some o) : Step Φ as σ h as σ' h' where
  pre := ⟨[], by simp⟩
  prot := hp
  low := fun _ _ _ h => by rw [hh]; exact h
  keep := fun b o nb e => (hs.2 b (fun q => nb (q ▸ ho))).trans e
  fresh := fun b q => by rw [hh] at q; exact .inl q
  own := fun b q => by rw [hh] at q; exact .inl q
  ex := let ⟨o, ho⟩ := he; sameBut_ex hs ho

structure VL (h₀ : Heap) (Φ : FI) (as : List (Addr × Addr)) (σ : S) (h : Heap) : Prop extends View h₀ Φ as σ h where
  l0 : h₀.get? Φ.env.locals = none
  lL : ¬ Live 0 as σ.heap Φ.env.locals
  lX : ¬ Φ.X Φ.env.locals
theorem loc_store {i : Nat} {n : Str} {v : V} {u : Value} {σ : S} {as : List (Addr × Addr)} {s : Shared} {Q : Unit → Shared → Prop} {E : Value → Shared → Prop} (F : FOk Φ) (hsl : Φ.slots[i]? = some (.loc n)) (x : VL T.h₀ Φ as σ s.heap)
    (r : RepV (Φ.Ex as σ.heap) as s.heap v u) (k : ∀ h' tk, Heap.SameBut Φ.env.locals s.heap h' → (∃ o, h'.get? Φ.env.locals = some o) → KeepSeq (Φ.Ex as σ.heap) s.heap (Φ.Ex as σ.heap) h' → VL T.h₀ Φ as (σ.setVar i (some v)) h' → Q () { s with heap := h', toks := tk }) :
    wpAny (model T.prog T.w) A (storeName Φ.env n u) Q E s := by
  obtain ⟨m, hm, hl⟩ := x.loc
  refine wpAny_storeName_local (F.loc i n hsl) hm (fun h' hn' hs => ?_) (by rw [F.kind]; rfl)
  obtain ⟨o, es, ep, ho, hd, _⟩ := id hm
  have hk : ∀ o', s.heap.get? Φ.env.locals = some o' → o'.data ≠ .plain := fun o' q => by rw [ho] at q; cases q; rw [hd]; exact fun z => nomatch z
  have KS : KeepSeq (Φ.Ex as σ.heap) s.heap (Φ.Ex as σ.heap) h' := keepSeq_sameBut hs fun o' q z => tup_not_ns hm q z
  refine k h' _ hs (let ⟨o', _, _, q, _⟩ := hn'; ⟨o', q⟩) KS ⟨⟨fun b o' q => ?_, x.len, ⟨_, hn', fun j n' d hj hd' => ?_⟩, fun j n' c hj => ?_, fun j p c hp hc => ?_, fun a ha => ?_, x.ex0⟩, x.l0, x.lL, x.lX⟩
  · have : b ≠ Φ.env.locals := by rintro rfl; rw [x.l0] at q; cases q
    exact (hs.2 b this).trans (x.keep b o' q)
  · rcases setVar_get hd' with ⟨rfl, rfl⟩ | ⟨hne, hd'⟩
    · rw [hsl] at hj; cases hj
      exact ⟨u, by simp, r.keep0 KS⟩
    · obtain ⟨w, hw, rw'⟩ := hl j n' d hj hd'
      have : n' ≠ n := by rintro rfl; exact hne (F.locD i j n' hsl hj)
      exact ⟨w, by rw [if_neg this]; exact hw, rw'.keep0 KS⟩
  · obtain ⟨ov, hc, hcl⟩ := x.cel j n' c hj
    refine ⟨ov, hc.sameBut hs (F.cellL j n' c hj), fun d hd' => ?_⟩
    rcases setVar_get hd' with ⟨rfl, rfl⟩ | ⟨hne, hd'⟩
    · rcases hj with hj | hj <;> (rw [hsl] at hj; cases hj)
    · obtain ⟨w, hw, rw'⟩ := hcl d hd'
      exact ⟨w, hw, rw'.keep0 KS⟩
  · exact cellOk_sameBut hs KS (x.led j p c hp hc) (fun q => x.lL ⟨j, Nat.zero_le _, p, c, hp, hc, q⟩) hk
  · obtain ⟨o', q⟩ := x.xs a ha
    have : a ≠ Φ.env.locals := by rintro rfl; exact x.lX ha
    exact ⟨o', (hs.2 a this).trans q⟩
theorem frame_store {i : Nat} {n : Str} {v : V} {u : Value} {σ : S} {as : List (Addr × Addr)} {s : Shared} {Q : Unit → Shared → Prop} {E : Value → Shared → Prop} (F : FOk Φ) (hsl : StoreIs Φ i n) (x : St T.h₀ Φ as σ s.heap)
    (r : RepV (Φ.Ex as σ.heap) as s.heap v u) (k : ∀ h' tk, Step Φ as σ s.heap as (σ.setVar i (some v)) h' → St T.h₀ Φ as (σ.setVar i (some v)) h' → Q () { s with heap := h', toks := tk }) :
    wpAny (model T.prog T.w) A (storeName Φ.env n u) Q E s := by
  rcases hsl with hsl | ⟨c, hsl⟩
  · refine loc_store F hsl ⟨x.toView, x.fr0 _ (.inl rfl), fun q => (x.sepF _ q).1 rfl, x.sepX _ (.inl rfl)⟩ r fun h' tk hs he KS x' => ?_
    exact k h' tk (Step.of_sameBut hs (.inl rfl) rfl rfl he) ⟨x'.toView, x.sepL, x.sepF, x.fr0, x.sepX⟩
  · obtain ⟨ov, hcell, hcl⟩ := x.cel i n c (.inl hsl)
    refine wpAny_storeName_cell F.kind (F.cell i n c (.inl hsl)).1 (F.cell i n c (.inl hsl)).2 hcell fun h' hc' hs => ?_
    obtain ⟨o, ho, hd⟩ := id hcell
    have hk : ∀ o', s.heap.get? c = some o' → o'.data ≠ .plain := fun o' q => by rw [ho] at q; cases q; rw [hd]; exact fun z => nomatch z
    have KS : KeepSeq (Φ.Ex as σ.heap) s.heap (Φ.Ex as σ.heap) h' := keepSeq_sameBut hs fun o' q z => tup_not_cell hcell q z
    have own : Φ.Own σ.prot as σ.heap c := .inr (.inl ⟨i, n, hsl⟩)
    have own0 : Φ.Own 0 as σ.heap c := .inr (.inl ⟨i, n, hsl⟩)
    have hst : Step Φ as σ s.heap as (σ.setVar i (some v)) h' := Step.of_sameBut hs own rfl rfl (let ⟨o', q, _⟩ := hc'; ⟨o', q⟩)
    obtain ⟨m, hm, hl⟩ := x.loc
    refine k h' s.toks hst ⟨⟨fun b o' q => ?_, x.len, ⟨m, hm.sameBut hs (fun q => F.cellL i n c (.inl hsl) q.symm), fun j n' d hj hd' => ?_⟩, fun j n' c' hj => ?_, fun j p c' hp hc => ?_, fun a ha => ?_, x.ex0⟩, x.sepL, x.sepF, x.fr0, x.sepX⟩
    · have : b ≠ c := by rintro rfl; rw [x.fr0 _ own0] at q; cases q
      exact (hs.2 b this).trans (x.keep b o' q)
    · rcases setVar_get hd' with ⟨rfl, rfl⟩ | ⟨hne, hd'⟩
      · rw [hsl] at hj; cases hj
      · obtain ⟨w, hw, rw'⟩ := hl j n' d hj hd'
        exact ⟨w, hw, rw'.keep0 KS⟩
    · by_cases e : i = j
      · subst e
        have hj' : c' = c := by rcases hj with hj | hj <;> (rw [hsl] at hj; cases hj); rfl
        subst hj'
        refine ⟨_, hc', fun d hd' => ?_⟩
        rcases setVar_get hd' with ⟨_, rfl⟩ | ⟨hne, _⟩
        · exact ⟨u, rfl, r.keep0 KS⟩
        · exact absurd rfl hne
      · obtain ⟨ov', hc2, hcl2⟩ := x.cel j n' c' hj
        have : c' ≠ c := by rintro rfl; exact e (F.cellD i j n n' c' (.inl hsl) hj)
        refine ⟨ov', hc2.sameBut hs this, fun d hd' => ?_⟩
        rcases setVar_get hd' with ⟨rfl, _⟩ | ⟨_, hd'⟩
        · exact absurd rfl e
        · obtain ⟨w, hw, rw'⟩ := hcl2 d hd'
          exact ⟨w, hw, rw'.keep0 KS⟩
    · exact cellOk_sameBut hs KS (x.led j p c' hp hc) (fun q => (x.sepF _ ⟨j, Nat.zero_le _, p, c', hp, hc, q⟩).2 ⟨i, n, hsl⟩) hk
    · obtain ⟨o', q⟩ := x.xs a ha
      have : a ≠ c := by rintro rfl; exact x.sepX _ own0 ha
      exact ⟨o', (hs.2 a this).trans q⟩

inductive Tgt where
  | one (i : Nat)
  | tup (is : List Nat)
noncomputable def asgs : List Nat → List D → S → Option S
  | [], [], σ => some σ
  | i :: is, d :: ds, σ => asgs is ds (σ.setVar i (some (.d d)))
  | _, _, _ => none
noncomputable def Tgt.asg : Tgt → V → S → Option S
  | .one i, v, σ => some (σ.setVar i (some v))
  | .tup is, .d (.tup ds), σ => asgs is ds σ
  | .tup _, _, _ => none
theorem AsOk.name {i : Nat} {n : Str} {pos : Pos} (F : FOk Φ) (hsl : StoreIs Φ i n) : AsOk T A Φ (.Name n pos) (Tgt.asg (.one i)) := by
  intro d v σ σ' as s Q E h x r k
  cases h
  exact wpAny_assign_Name (frame_store F hsl x r fun h' tk st x' => k as h' tk st x')
inductive NamesOk (Φ : FI) : List Expr → List Nat → Prop
  | nil : NamesOk Φ [] []
  | cons {n : Str} {pos : Pos} {i : Nat} {es : List Expr} {is : List Nat} : StoreIs Φ i n → NamesOk Φ es is → NamesOk Φ (.Name n pos :: es) (i :: is)
theorem NamesOk.each {es : List Expr} {is : List Nat} (h : NamesOk Φ es is) : (assignEach es Φ.env).length = es.length ∧ (assignEach es Φ.env).findIdx? (·.1) = none := by
  induction h with
  | nil => exact ⟨rfl, rfl⟩
  | @cons n pos i es is hs _ ih =>
    have e : assignEach (.Name n pos :: es) Φ.env = (false, assign (.Name n pos) Φ.env) :: assignEach es Φ.env := rfl
    rw [e]
    refine ⟨by simp [ih.1], ?_⟩
    rw [List.findIdx?_cons]
    simp [ih.2]
theorem names_store (F : FOk Φ) {es : List Expr} {is : List Nat} (hn : NamesOk Φ es is) : ∀ {ds : List D} {vs : List Value} {σ σ' : S} {as : List (Addr × Addr)} {s : Shared} {Q : Unit → Shared → Prop} {E : Value → Shared → Prop}, asgs is ds σ = some σ' → St T.h₀ Φ as σ s.heap →
    RepDs (Φ.Ex as σ.heap) s.heap ds vs → (∀ h' tk, Step Φ as σ s.heap as σ' h' → St T.h₀ Φ as σ' h' → Q () { s with heap := h', toks := tk }) →
    wpAny (model T.prog T.w) A (assignInOrder ((assignEach es Φ.env).map (·.2)) vs) Q E s := by
  induction hn with
  | nil =>
    intro ds vs σ σ' as s Q E h x r k
    cases ds with
    | cons d ds => cases h
    | nil =>
      cases h
      rw [show vs = [] from r]
      exact wpAny_assignInOrder_none (k s.heap s.toks (Step.ofExt (Ext.refl _)) x)
  | @cons n pos i es is hs _ ih =>
    intro ds vs σ σ' as s Q E h x r k
    cases ds with
    | nil => cases h
    | cons d ds =>
      obtain ⟨v, vs', rfl, r1, r2⟩ := r
      have e : assignEach (.Name n pos :: es) Φ.env = (false, assign (.Name n pos) Φ.env) :: assignEach es Φ.env := rfl
      rw [e]
      refine wpAny_assignInOrder_more (wpAny_assign_Name (frame_store F hs x (v := .d d) r1 fun h' tk st x' => ?_))
      refine ih (s := { s with heap := h', toks := tk }) h x' (r2.keep (st.keepSeq x.toView)) fun h'' tk' st' x'' => ?_
      exact k h'' tk' (st.trans st') x''
theorem AsOk.names {es : List Expr} {m : Nat} {is : List Nat} {pos : Pos} (hh : A.handled = none) (F : FOk Φ) (hn : NamesOk Φ es is) (hlen : es.length = is.length) : AsOk T A Φ (.Tuple es m pos) (Tgt.asg (.tup is)) := by
  intro d v σ σ' as s Q E h x r k
  cases d with
  | r j => cases h
  | d d =>
    cases d <;> try (cases h; done)
    rename_i ds
    obtain ⟨a, vs, n, rfl, na, ho, rs⟩ := r
    have hl : ds.length = is.length := by
      have : ∀ (is : List Nat) (ds : List D) (σ : S) (σ' : S), asgs is ds σ = some σ' → ds.length = is.length := by
        intro is
        induction is with
        | nil => intro ds σ σ' h; cases ds with | nil => rfl | cons => cases h
        | cons i is ih => intro ds σ σ' h; cases ds with | nil => cases h | cons d ds => simp only [List.length_cons]; rw [ih ds _ _ h]
      exact this _ _ _ _ h
    refine wpAny_assign_Tuple hh ⟨_, ho, rfl, _, rfl⟩ (by rw [hn.each.1, List.size_toArray, rs.length, hl, hlen]) hn.each.2 fun h' he => ?_
    have e : Ext s.heap h' := fun b o q => he b o (by rintro rfl; rw [get?_size] at q; cases q) q
    refine names_store F hn (s := { s with heap := h' }) h (x.ext e) (rs.keep e.keepSeq) fun h'' tk st x' => ?_
    exact k as h'' tk ((Step.ofExt e).trans st) x'

noncomputable def CtOk (T : TI) (A : Around) (Φ : FI) (t : Expr) (a : V → S → Option S) : Prop :=
  ∀ (d : D) (v : Value) (σ σ' : S) (as : List (Addr × Addr)) (s : Shared) (Q : Unit → Shared → Prop) (E : Value → Shared → Prop), a (.d d) σ = some σ' → VL T.h₀ Φ as σ s.heap → RepD (Φ.Ex as σ.heap) s.heap d v →
    (∀ h' tk, (∀ b o, b ≠ Φ.env.locals → s.heap.get? b = some o → h'.get? b = some o) → σ'.heap = σ.heap → KeepSeq (Φ.Ex as σ.heap) s.heap (Φ.Ex as σ.heap) h' → VL T.h₀ Φ as σ' h' → Q () { s with heap := h', toks := tk }) → wpAny (model T.prog T.w) A (assign t Φ.env v) Q E s
theorem CtOk.name {i : Nat} {n : Str} {pos : Pos} (F : FOk Φ) (hsl : Φ.slots[i]? = some (.loc n)) : CtOk T A Φ (.Name n pos) (Tgt.asg (.one i)) := by
  intro d v σ σ' as s Q E h x r k
  cases h
  exact wpAny_assign_Name (loc_store F hsl x (v := .d d) r fun h' tk hs _ KS x' => k h' tk (fun b o hb e => (hs.2 b hb).trans e) rfl KS x')
inductive LocsOk (Φ : FI) : List Expr → List Nat → Prop
  | nil : LocsOk Φ [] []
  | cons {n : Str} {pos : Pos} {i : Nat} {es : List Expr} {is : List Nat} : Φ.slots[i]? = some (.loc n) → LocsOk Φ es is → LocsOk Φ (.Name n pos :: es) (i :: is)
theorem VL.ext {h₀ : Heap} {as : List (Addr × Addr)} {σ : S} {h h' : Heap} (x : VL h₀ Φ as σ h) (e : Ext h h') : VL h₀ Φ as σ h' := ⟨x.toView.ext e, x.l0, x.lL, x.lX⟩
end
end Mine
end
section
namespace Mine
open PySem PySem.W PyProof.Rows PySem.Calls PySem.SeqAt

section
variable {T : TI} {A : Around} {Φ : FI}

noncomputable def CbOk (T : TI) (A : Around) (f : Value) (g : List D → Option D) : Prop :=
  ∀ (ds : List D) (c : D) (N : Addr → Prop) (vs : List Value) (s : Shared) (Q : Value → Shared → Prop) (E : Value → Shared → Prop), g ds = some c → (∀ x, s.heap.get? x = none → ¬ N x) → RepDs N s.heap ds vs →
    (∀ v h' tk, Ext s.heap h' → RepD N h' c v → Q v { s with heap := h', toks := tk }) → wpAny (model T.prog T.w) A (call f vs) Q E s
noncomputable def Cb0Ok (T : TI) (A : Around) (f : Value) (g : List D → Option D) : Prop :=
  ∀ (ds : List D) (c : D) (N : Addr → Prop) (vs : List Value) (s : Shared) (Q : Value → Shared → Prop) (E : Value → Shared → Prop), g ds = some c → (∀ x, s.heap.get? x = none → ¬ N x) → RepDs (fun _ => False) s.heap ds vs →
    (∀ v h' tk, Ext s.heap h' → RepD N h' c v → Q v { s with heap := h', toks := tk }) → wpAny (model T.prog T.w) A (call f vs) Q E s
noncomputable def P0sOk (T : TI) (A : Around) (Φ : FI) (es : List Expr) (p : S → Option (List D)) : Prop :=
  ∀ (σ : S) (ds : List D) (as : List (Addr × Addr)) (s : Shared) (pos : Pos) (Q : List Value → Shared → Prop) (E : Value → Shared → Prop), p σ = some ds → View T.h₀ Φ as σ s.heap →
    (∀ vs h' tk, Ext s.heap h' → RepDs (fun _ => False) h' ds vs → Q vs { s with heap := h', toks := tk }) → wpAny (model T.prog T.w) A (spliced (backTo pos (starEach es Φ.env))) Q E s
theorem P0sOk.nil : P0sOk T A Φ [] nilP := by
  intro σ ds as s pos Q E h x k; cases h
  exact wpAny_items_nil (k [] s.heap s.toks (Ext.refl _) rfl)
theorem P0sOk.cons {e : Expr} {es : List Expr} {p : S → Option D} {ps : S → Option (List D)} (he : P0Ok T A Φ e p) (hes : P0sOk T A Φ es ps) (hst : starEach (e :: es) Φ.env = (false, eval e Φ.env) :: starEach es Φ.env) : P0sOk T A Φ (e :: es) (consP p ps) := by
  intro σ ds as s pos Q E h x k
  obtain ⟨d, ds, hd, hds, rfl⟩ := consP_some h
  refine wpAny_items_cons (he σ d as s _ E hd x fun v h₁ t₁ e₁ r₁ => ?_) hst
  refine hes σ ds as { s with heap := h₁, toks := t₁ } pos _ E hds (x.ext e₁) fun vs h₂ t₂ e₂ r₂ => ?_
  exact k (v :: vs) h₂ t₂ (e₁.trans e₂) ⟨v, vs, rfl, r₁.keep e₂.keepSeq, r₂⟩

noncomputable def Plainly (f : Value) : Prop := (∃ id, f = .builtin id) ∨ ∃ t, f = .type t
theorem callWith_plain {f : Value} (hf : Plainly f) {pos : Pos} {e : Expr} {es : List Expr} {s : Shared} {Q : Value → Shared → Prop} {E : Value → Shared → Prop} (hst : starEach (e :: es) Φ.env = (false, eval e Φ.env) :: starEach es Φ.env)
    (hplain : (backTo pos (starEach es Φ.env)).any (·.1) = false)
    (h : wpAny (model T.prog T.w) A (spliced (backTo pos (starEach (e :: es) Φ.env))) (fun vs s₁ => wpAny (model T.prog T.w) A (call f vs) Q E s₁) E s) :
    wpAny (model T.prog T.w) A (callWith pos f [] (backTo pos (starEach (e :: es) Φ.env)) []) Q E s := by
  rw [hst] at h ⊢
  have hp : (backTo pos ((false, eval e Φ.env) :: starEach es Φ.env)).any (·.1) = false := by show (false || (backTo pos (starEach es Φ.env)).any (·.1)) = false; rw [hplain]; rfl
  rcases hf with ⟨id, rfl⟩ | ⟨t, rfl⟩
  · exact Calls.callWith_builtin hp (evalArgs_plain h)
  · exact PyProof.Rows.callWith_type hp (evalArgs_plain h)
theorem PvOk.callB {n : Str} {f : Value} {np pos : Pos} {e : Expr} {es : List Expr} {g : List D → Option D} {ps : S → Option (List D)} (F : FOk Φ) (hf : Plainly f) (hk : Φ.env.kindOf n = some .globalImplicit) (hg : nsIn T.K mainGlobals n = some none) (hb : bootBuiltins n = some f)
    (hd : (n == ("__debug__" : Str)) = false) (hn : n ≠ "__name__") (hst : starEach (e :: es) Φ.env = (false, eval e Φ.env) :: starEach es Φ.env) (hplain : (backTo pos (starEach es Φ.env)).any (·.1) = false)
    (hc : CbOk T A f g) (hp : PvsOk T A Φ (e :: es) ps) : PvOk T A Φ (.Call (.Name n np) (e :: es) [] pos) (fun σ => (ps σ).bind g) := by
  intro σ d as s Q E h x k
  cases hds : ps σ with
  | none => simp only [hds] at h; cases h
  | some ds =>
    simp only [hds, Option.bind_some] at h
    refine wpAny_Call_ofName (built_name F hk x hg hb ?_ hd hn)
    refine callWith_plain hf hst hplain (hp σ ds as s pos _ E hds x fun vs h' tk e r => ?_)
    exact hc ds d _ vs { s with heap := h', toks := tk } Q E h (fun y hy => (x.ext e).freshEx hy) r fun v h'' tk' e' r' => k v h'' tk' (e.trans e') r'
theorem PvOk.callB0 {n : Str} {f : Value} {np pos : Pos} {e : Expr} {es : List Expr} {g : List D → Option D} {ps : S → Option (List D)} (F : FOk Φ) (hf : Plainly f) (hk : Φ.env.kindOf n = some .globalImplicit) (hg : nsIn T.K mainGlobals n = some none) (hb : bootBuiltins n = some f)
    (hd : (n == ("__debug__" : Str)) = false) (hn : n ≠ "__name__") (hst : starEach (e :: es) Φ.env = (false, eval e Φ.env) :: starEach es Φ.env) (hplain : (backTo pos (starEach es Φ.env)).any (·.1) = false)
    (hc : Cb0Ok T A f g) (hp : P0sOk T A Φ (e :: es) ps) : PvOk T A Φ (.Call (.Name n np) (e :: es) [] pos) (fun σ => (ps σ).bind g) := by
  intro σ d as s Q E h x k
  cases hds : ps σ with
  | none => simp only [hds] at h; cases h
  | some ds =>
    simp only [hds, Option.bind_some] at h
    refine wpAny_Call_ofName (built_name F hk x hg hb ?_ hd hn)
    refine callWith_plain hf hst hplain (hp σ ds as s pos _ E hds x fun vs h' tk e r => ?_)
    exact hc ds d _ vs { s with heap := h', toks := tk } Q E h (fun y hy => (x.ext e).freshEx hy) r fun v h'' tk' e' r' => k v h'' tk' (e.trans e') r'

noncomputable def lenD : List D → Option D
  | [.lst xs] => if xs.length ≤ 16777216 then some (.int xs.length) else none
  | [.tup xs] => if xs.length ≤ 16777216 then some (.int xs.length) else none
  | [.bytes xs] => if xs.length ≤ 16777216 then some (.int xs.length) else none
  | _ => none
theorem lenOk : Cb0Ok T A (.builtin "len") lenD := by
  intro ds c N vs s Q E h hN r k
  match ds, h, r with
  | [.lst xs], h, r =>
    obtain ⟨v, _, rfl, ⟨a, us, n, rfl, _, ho, rs⟩, rfl⟩ := r
    simp only [lenD] at h
    split at h
    · rename_i hz; cases h
      refine PyProof.Rows.len_list ⟨_, ho, rfl, _, rfl⟩ (by rw [List.size_toArray, rs.length]; (first | lia | omega)) ?_
      rw [List.size_toArray, rs.length]
      exact k _ s.heap _ (Ext.refl _) ⟨_, rfl⟩
    · cases h
  | [.tup xs], h, r =>
    obtain ⟨v, _, rfl, ⟨a, us, n, rfl, _, ho, rs⟩, rfl⟩ := r
    simp only [lenD] at h
    split at h
    · rename_i hz; cases h
      refine PySem.P.len_tuple ho (by rw [List.size_toArray, rs.length]; (first | lia | omega)) ?_
      rw [List.size_toArray, rs.length]
      exact k _ s.heap _ (Ext.refl _) ⟨_, rfl⟩
    · cases h
  | [.bytes xs], h, r =>
    obtain ⟨v, _, rfl, ⟨t, rfl⟩, rfl⟩ := r
    simp only [lenD] at h
    split at h
    · rename_i hz; cases h
      refine W.len_bytes (by rw [List.size_toArray]; (first | lia | omega)) ?_
      rw [List.size_toArray]
      exact k _ s.heap _ (Ext.refl _) ⟨_, rfl⟩
    · cases h
noncomputable def min2D : List D → Option D
  | [.int a, .int b] => some (.int (if b < a then b else a))
  | _ => none
noncomputable def max2D : List D → Option D
  | [.int a, .int b] => some (.int (if b > a then b else a))
  | _ => none
theorem min2Ok (R : A.handled = none) : CbOk T A (.builtin "min") min2D := by
  intro ds c N vs s Q E h hN r k
  match ds, h, r with
  | [.int a, .int b], h, r =>
    obtain ⟨v, _, rfl, ⟨t, rfl⟩, ⟨v', _, rfl, ⟨u, rfl⟩, rfl⟩⟩ := r
    cases h
    refine min_two_ints R fun h' tk e => k _ h' tk e ?_
    split
    · exact ⟨u, rfl⟩
    · exact ⟨t, rfl⟩
theorem max2Ok (R : A.handled = none) : CbOk T A (.builtin "max") max2D := by
  intro ds c N vs s Q E h hN r k
  match ds, h, r with
  | [.int a, .int b], h, r =>
    obtain ⟨v, _, rfl, ⟨t, rfl⟩, ⟨v', _, rfl, ⟨u, rfl⟩, rfl⟩⟩ := r
    cases h
    refine max_two_ints R fun h' tk e => k _ h' tk e ?_
    split
    · exact ⟨u, rfl⟩
    · exact ⟨t, rfl⟩
noncomputable def absD : List D → Option D
  | [.int a] => some (.int (if a < 0 then -a else a))
  | _ => none
theorem absOk : CbOk T A (.builtin "abs") absD := by
  intro ds c N vs s Q E h hN r k
  match ds, h, r with
  | [.int a], h, r =>
    obtain ⟨v, _, rfl, ⟨t, rfl⟩, rfl⟩ := r
    cases h
    exact PyProof.Rows.call_abs_int fun u tk => k _ s.heap tk (Ext.refl _) ⟨u, rfl⟩
noncomputable def intD : List D → Option D
  | [.int a] => some (.int a)
  | _ => none
theorem intOk : CbOk T A (.type "int") intD := by
  intro ds c N vs s Q E h hN r k
  match ds, h, r with
  | [.int a], h, r =>
    obtain ⟨v, _, rfl, ⟨t, rfl⟩, rfl⟩ := r
    cases h
    exact call_int_int (k _ s.heap s.toks (Ext.refl _) ⟨t, rfl⟩)
noncomputable def listD : List D → Option D
  | [.lst xs] => if xs.length ≤ 16777216 then some (.lst xs) else none
  | _ => none
theorem listOk : CbOk T A (.type "list") listD := by
  intro ds c N vs s Q E h hN r k
  match ds, h, r with
  | [.lst xs], h, r =>
    obtain ⟨v, _, rfl, ⟨a, us, n, rfl, _, ho, rs⟩, rfl⟩ := r
    simp only [listD] at h
    split at h
    · rename_i hz; cases h
      refine call_list_seq (hsz := by rw [List.size_toArray, rs.length, sizeLine_eq]; exact hz) a (.inl rfl) ho rfl rfl fun h' c' e ho' => ?_
      exact k _ h' s.toks e ⟨_, us, c', rfl, hN _ (get?_size _), ho', rs.keep (Ext.keepSeq e)⟩
    · cases h

noncomputable def intsOf : List D → Option (List Int)
  | [] => some []
  | .int i :: r => (intsOf r).map (i :: ·)
  | _ => none
theorem intsOf_map (ns : List Int) : intsOf (ns.map .int) = some ns := by
  induction ns with
  | nil => rfl
  | cons n r ih => simp [intsOf, ih]
theorem intsOf_eq : ∀ {xs : List D} {ns : List Int}, intsOf xs = some ns → xs = ns.map .int
  | [], ns, h => by cases h; rfl
  | x :: r, ns, h => by
    cases x <;> try (cases h; done)
    simp only [intsOf] at h
    cases hr : intsOf r with
    | none => rw [hr] at h; cases h
    | some ms => rw [hr] at h; cases h; rw [intsOf_eq hr]; rfl
theorem ints_items {N : Addr → Prop} {h : Heap} : ∀ {ns : List Int} {vs : List Value}, RepDs N h (ns.map .int) vs → ∃ ps : List (Int × Tok), ps.map (·.1) = ns ∧ vs = ps.map fun p => Value.int p.1 p.2
  | [], vs, r => ⟨[], rfl, r⟩
  | n :: ns, vs, r => by
    obtain ⟨v, vs', rfl, ⟨t, rfl⟩, r'⟩ := r
    obtain ⟨ps, hp, rfl⟩ := ints_items r'
    exact ⟨(n, t) :: ps, by simp [hp], rfl⟩
theorem ints_are {N : Addr → Prop} {h : Heap} : ∀ {ns : List Int} {vs : List Value}, RepDs N h (ns.map .int) vs → IntsAre vs ns
  | [], vs, r => by rw [show vs = [] from r]; exact .nil
  | n :: ns, vs, r => by
    obtain ⟨v, vs', rfl, ⟨t, rfl⟩, r'⟩ := r
    exact .cons _ _ (ints_are r')
noncomputable def minLD : List D → Option D
  | [.lst xs] => (intsOf xs).bind fun ns => (ns.min?).map .int
  | _ => none
theorem minLOk (R : A.handled = none) : Cb0Ok T A (.builtin "min") minLD := by
  intro ds c N vs s Q E h hN r k
  match ds, h, r with
  | [.lst xs], h, r =>
    obtain ⟨v, _, rfl, ⟨a, us, n, rfl, _, ho, rs⟩, rfl⟩ := r
    simp only [minLD] at h
    cases hi : intsOf xs with
    | none => rw [hi] at h; cases h
    | some ns =>
    rw [hi, Option.bind_some] at h
    cases hm : ns.min? with
    | none => rw [hm] at h; cases h
    | some m =>
    rw [hm] at h; cases h
    rw [intsOf_eq hi] at rs
    obtain ⟨ps, rfl, rfl⟩ := ints_items rs
    have ho' : s.heap.IsList a (intItems ps.toArray) := ⟨_, ho, rfl, n, by simp [intItems]⟩
    have hne : 0 < ps.toArray.size := by
      cases ps with
      | nil => simp at hm
      | cons => simp
    refine min_intList R ho' hne fun v h' tk hv e => ?_
    obtain ⟨t, rfl⟩ := intItems_at hv
    have hlt := (Array.getElem?_eq_some_iff.mp hv).1
    have hb := (argBest_lt (numAt ps.toArray) (ps.toArray.size - 1)).2
    generalize argBest (fun i j => decide (numAt ps.toArray i < numAt ps.toArray j)) (ps.toArray.size - 1) = q at hlt hb hv
    have hlt' : q < ps.length := by simpa [intItems] using hlt
    have hq : numAt ps.toArray q = (ps[q]).1 := by simp [numAt, hlt']
    obtain ⟨m1, m2⟩ := List.min?_eq_some_iff.mp hm
    have e1 : numAt ps.toArray q ≤ m := by
      obtain ⟨p, hp, rfl⟩ := List.mem_map.mp m1
      obtain ⟨j, hj, rfl⟩ := List.mem_iff_getElem.mp hp
      have := hb j (by simp; (first | lia | omega))
      rw [show numAt ps.toArray j = (ps[j]).1 by simp [numAt, hj]] at this
      exact this
    have e2 : m ≤ numAt ps.toArray q := by
      rw [hq]; exact m2 _ (List.mem_map.mpr ⟨_, List.getElem_mem hlt', rfl⟩)
    rw [Int.le_antisymm e1 e2]
    exact k _ h' tk e ⟨t, rfl⟩

noncomputable def byteL (ns : List Int) : List UInt8 := ns.map fun n => n.toNat.toUInt8
noncomputable def bytesLD : List D → Option D
  | [.lst xs] => (intsOf xs).bind fun ns => if (ns.all fun n => decide (0 ≤ n) && decide (n < 256)) ∧ ns.length ≤ 16777216 then some (.bytes (byteL ns)) else none
  | _ => none
theorem bytesLOk (R : A.handled = none) : Cb0Ok T A (.type "bytes") bytesLD := by
  intro ds c N vs s Q E h hN r k
  match ds, h, r with
  | [.lst xs], h, r =>
    obtain ⟨v, _, rfl, ⟨a, us, n, rfl, _, ho, rs⟩, rfl⟩ := r
    simp only [bytesLD] at h
    cases hi : intsOf xs with
    | none => rw [hi] at h; cases h
    | some ns =>
    rw [hi, Option.bind_some] at h
    split at h
    · rename_i hz; cases h
      rw [intsOf_eq hi] at rs
      refine call_bytes_ints ⟨_, ho, rfl, _, rfl⟩ (ints_are rs) (fun m hm => ?_) (by rw [rs.length, List.length_map, sizeLine_eq]; exact hz.2) R fun h' t tk e => ?_
      · have := List.all_eq_true.mp hz.1 m hm
        simpa using this
      · exact k _ h' tk e ⟨t, rfl⟩
    · cases h
end
end Mine
end
section
namespace Mine
open PySem PySem.W PyProof.Rows PySem.Calls PySem.SeqAt
section
variable {T : TI} {A : Around} {Φ : FI}
theorem bytes_slot_bytes : typeLookup (.type "bytes") "__bytes__" = pure (some (.builtin "bytes.__bytes__")) := by rw [typeLookup_type, builtinLookup_eq_fast]; kernel_rfl
noncomputable def bytesBD : List D → Option D
  | [.bytes b] => some (.bytes b)
  | _ => none
theorem bytesBOk : CbOk T A (.type "bytes") bytesBD := by
  intro ds c N vs s Q E h hN r k
  match ds, h, r with
  | [.bytes b], h, r =>
    obtain ⟨v, _, rfl, ⟨t, rfl⟩, rfl⟩ := r
    cases h
    refine callType_codes (Q₁ := fun obj s₁ => s₁.TypeIs obj "bytes" ∧ Q obj s₁) F.bm_called (F.bm_typeCall _) F.entry_object_init ?_ fun obj s₁ h₁ => ?_
    · refine codeAny_of_tree ?_
      show wpAny _ _ (do checkBuiltinCall "bytes.__new__" ⟨[.type "bytes", .bytes b.toArray t], []⟩; again (.builtin "bytes.__new__" ⟨[.type "bytes", .bytes b.toArray t], []⟩)) _ _ s
      refine wpAny_bind (wpAny_of_eq (F.bm_newCall _) (wpAny_pure ⟨plainId_quiet F.bm_plain _, codeAny_builtin F.bm_entry ?_⟩))
      rw [Around.under_plainId F.bm_plain _]
      unfold Builtin.«bytes.__new__»
      refine wpAny_bind (wpAny_of_eq (a := true) rfl ?_)
      refine bm_if_false rfl ?_
      refine wpAny_bind (wpAny_of_eq F.bm_sub ?_)
      refine bm_if_false rfl ?_
      refine wpAny_bind (wpAny_of_eq (F.bm_bind _) ?_)
      refine wpAny_bind (wpAny_of_eq (a := ()) rfl ?_)
      refine wpAny_bind (wpAny_of_eq (a := ()) rfl ?_)
      refine bm_if_false rfl ?_
      refine wpAny_bind (wpAny_specialOf (typeIs_bytes s _ t) bytes_slot_bytes ?_)
      refine wpAny_bind (wpAny_rule ?_)
      refine wpAny_bind (wpAny_typeOf (typeIs_bytes s _ t) ?_)
      refine bm_if_true (by decide) ?_
      show wpAny _ _ (if (Value.type "bytes" == Value.type "bytes") = true then _ else _) _ _ _
      refine bm_if_true (by decide) ?_
      first
        | exact wpAny_pure ⟨typeIs_bytes _ _ _, k _ s.heap s.toks (Ext.refl _) ⟨t, rfl⟩⟩
        | exact wpAny_bind (wpAny_pure (wpAny_pure ⟨typeIs_bytes _ _ _, k _ s.heap s.toks (Ext.refl _) ⟨t, rfl⟩⟩))
    · exact ⟨h₁.1, F.args_object_init_2 obj _, object_init_meets F.bm_called.init.lookup F.bm_called.made (by decide) _ _ A.in1 _ s₁ ⟨h₁.1, rfl, h₁.2⟩⟩

end
end Mine
end
section
namespace Mine
open PySem PySem.W PyProof.Rows PySem.Calls PySem.SeqAt

section
variable {T : TI} {A : Around} {Φ : FI}

theorem own_there {h₀ : Heap} {as : List (Addr × Addr)} {σ : S} {h : Heap} (x : View h₀ Φ as σ h) {n : Nat} {a : Addr} (ha : Φ.Own n as σ.heap a) : ∃ o, h.get? a = some o := by
  rcases ha with rfl | ⟨i, n, q⟩ | q
  · obtain ⟨m, ⟨o, _, _, ho, _⟩, _⟩ := x.loc; exact ⟨o, ho⟩
  · obtain ⟨ov, ⟨o, ho, _⟩, _⟩ := x.cel i n a (.inl q); exact ⟨o, ho⟩
  · exact live_kind x (q.mono (Nat.zero_le _))
theorem fresh_not_own {h₀ : Heap} {as : List (Addr × Addr)} {σ : S} {h : Heap} (x : View h₀ Φ as σ h) {n : Nat} {a : Addr} (ha : h.get? a = none) : ¬ Φ.Own n as σ.heap a := fun q => by
  obtain ⟨o, ho⟩ := own_there x q
  rw [ha] at ho; cases ho

noncomputable def NotOwning (h : Heap) (I : Addr) : Prop := ∃ o vs, h.get? I = some o ∧ o.data = .fields vs ∧ ∀ n, o.cls = .type n → (["enumerate", "zip", "dict_itemiterator", "dict_reverseitemiterator", "odict_iterator", "itertools.zip_longest", "itertools.pairwise"] : List String).contains n = false
theorem NotOwning.letGo {target : Expr} {I : Addr} {v : Value} {s : Shared} {Q : Unit → Shared → Prop} {E : Value → Shared → Prop} (x : NotOwning s.heap I) (h : Q () s) : wpAny (model T.prog T.w) A (letOwnedTupleGo target (.ref I) v) Q E s := by
  obtain ⟨o, _, ho, _, hn⟩ := x
  unfold letOwnedTupleGo
  split
  · split
    · rename_i r a q
      cases q
      refine wpAny_bind (wpAny_load ho ?_)
      split
      · rename_i n vs hc hd
        rw [hn n hc]
        exact wpAny_pure h
      · exact wpAny_pure h
    · exact wpAny_pure h
  · split
    · rename_i r a q
      cases q
      refine wpAny_bind (wpAny_load ho ?_)
      split
      · rename_i n vs hc hd
        rw [hn n hc]
        exact wpAny_pure h
      · exact wpAny_pure h
    · exact wpAny_pure h
  · exact wpAny_pure h

noncomputable def ItOk (T : TI) (A : Around) (Φ : FI) (e : Expr) (p : S → Option (List D)) : Prop :=
  ∀ (σ : S) (ds : List D) (as : List (Addr × Addr)) (s : Shared) (Q : Value → Shared → Prop) (E : Value → Shared → Prop), p σ = some ds → View T.h₀ Φ as σ s.heap →
    (∀ I fp wr n P W h' tk, Ext s.heap h' → Walks T.prog T.w A I fp wr n P W → (∀ i h, W i h → NotOwning h I) → n = ds.length → W 0 h' → (∀ b ∈ fp, (∃ o, h'.get? b = some o) ∧ ¬ Φ.Own 0 as σ.heap b) → I ∈ fp → (s.heap.get? I = none ∧ ∀ b ∈ wr, b = I) →
      (∀ i v, i < n → P i v → ∃ d, ds[i]? = some d ∧ RepD (Φ.Ex as σ.heap) h' d v) → Q (.ref I) { s with heap := h', toks := tk }) →
    wpAny (model T.prog T.w) A (eval e Φ.env) (fun xv s₁ => wpAny (model T.prog T.w) A (pyIter xv) Q E s₁) E s
noncomputable def EiOk (T : TI) (A : Around) (Φ : FI) (e : Expr) (f : S → Option (List D × S)) : Prop :=
  ∀ (σ : S) (ds : List D) (σ' : S) (as : List (Addr × Addr)) (s : Shared) (Q : Value → Shared → Prop) (E : Value → Shared → Prop), f σ = some (ds, σ') → St T.h₀ Φ as σ s.heap →
    (∀ I fp wr n P W as' h' tk, Step Φ as σ s.heap as' σ' h' → St T.h₀ Φ as' σ' h' → Walks T.prog T.w A I fp wr n P W → (∀ i h, W i h → NotOwning h I) → n = ds.length → W 0 h' → (∀ b ∈ fp, (∃ o, h'.get? b = some o) ∧ ¬ Φ.Own 0 as' σ'.heap b) → I ∈ fp → (s.heap.get? I = none ∧ ∀ b ∈ wr, b = I) →
      (∀ i v, i < n → P i v → ∃ d, ds[i]? = some d ∧ RepD (Φ.Ex as' σ'.heap) h' d v) → Q (.ref I) { s with heap := h', toks := tk }) →
    wpAny (model T.prog T.w) A (eval e Φ.env) (fun xv s₁ => wpAny (model T.prog T.w) A (pyIter xv) Q E s₁) E s
noncomputable def pureF {α : Type} (p : S → Option α) (σ : S) : Option (α × S) := (p σ).map fun d => (d, σ)
theorem pureF_some {α : Type} {p : S → Option α} {σ σ' : S} {d : α} (h : pureF p σ = some (d, σ')) : p σ = some d ∧ σ' = σ := by
  unfold pureF at h
  cases hp : p σ with
  | none => rw [hp] at h; cases h
  | some a => rw [hp] at h; cases h; exact ⟨rfl, rfl⟩
theorem ItOk.eff {e : Expr} {p : S → Option (List D)} (hp : ItOk T A Φ e p) : EiOk T A Φ e (pureF p) := by
  intro σ ds σ' as s Q E h x k
  obtain ⟨h, rfl⟩ := pureF_some h
  exact hp σ' ds as s Q E h x.toView fun I fp wr n P W h' tk e hw ho hn hst hfp hI hwr hP => k I fp wr n P W as h' tk (Step.ofExt e) (x.ext e) hw ho hn hst hfp hI hwr hP

noncomputable def itemsD : D → Option (List D)
  | .lst xs => some xs
  | .tup xs => some xs
  | _ => none
theorem ItOk.data {e : Expr} {p : S → Option D} (hh : A.handled = none) (hp : PvOk T A Φ e p) : ItOk T A Φ e (fun σ => (p σ).bind itemsD) := by
  intro σ ds as s Q E h x k
  cases hd : p σ with
  | none => simp only [hd] at h; cases h
  | some d =>
    simp only [hd, Option.bind_some] at h
    refine hp σ d as s _ E hd x fun v h₁ t₁ e₁ r => ?_
    have x₁ := x.ext e₁
    cases d <;> try (cases h; done)
    · cases h
      obtain ⟨a, vs, m, rfl, na, ho, rs⟩ := r
      refine wpAny_pyIter_tuple ⟨_, ho, rfl, _, rfl⟩ ?_
      have hne : a ≠ h₁.objs.size := Nat.ne_of_lt (Heap.lt_size ho)
      have e2 := Ext.push h₁ ({ cls := .type "tuple_iterator", data := .fields #[.ref a, .int 0 0] } : Obj)
      refine k _ _ _ _ _ _ _ t₁ (e₁.trans e2) (Walks.tuple hh _ a hne vs.toArray) (fun i h w => let ⟨o, ho, hc, hd⟩ := w.1; ⟨o, _, ho, hd, fun n hc' => by rw [hc] at hc'; cases hc'; decide⟩) (by simp [rs.length]) ⟨⟨_, Heap.get?_push_size _ rfl, rfl, rfl⟩, ⟨_, Heap.get?_push_of_some _ ho, rfl, _, rfl⟩⟩ ?_ (.head _) ?_ ?_
      · intro b hb
        rcases List.mem_cons.mp hb with rfl | hb
        · exact ⟨⟨_, Heap.get?_push_size _ rfl⟩, fresh_not_own x₁ (get?_size _)⟩
        · rw [List.mem_singleton.mp hb]
          exact ⟨⟨_, Heap.get?_push_of_some _ ho⟩, x₁.seq_not_own 0 na ho ⟨_, _, .inl rfl⟩⟩
      · refine ⟨?_, fun b hb => List.mem_singleton.mp hb⟩
        cases q : s.heap.get? h₁.objs.size with
        | none => rfl
        | some o => exact absurd (Heap.lt_size (e₁ _ _ q)) (Nat.lt_irrefl _)
      · intro i v hi hv
        have hv' : vs[i]? = some v := by simpa using hv
        have hlt : i < vs.length := (List.getElem?_eq_some_iff.mp hv').1
        rw [rs.length] at hlt
        obtain ⟨u, hu, ru⟩ := rs.get (i := i) (d := _) (List.getElem?_eq_getElem hlt)
        rw [hv'] at hu; cases hu
        exact ⟨_, List.getElem?_eq_getElem hlt, ru.keep e2.keepSeq⟩
    · cases h
      obtain ⟨a, vs, m, rfl, na, ho, rs⟩ := r
      refine wpAny_pyIter_list ⟨_, ho, rfl, _, rfl⟩ ?_
      have hne : a ≠ h₁.objs.size := Nat.ne_of_lt (Heap.lt_size ho)
      have e2 := Ext.push h₁ ({ cls := .type "list_iterator", data := .fields #[.ref a, .int 0 0] } : Obj)
      refine k _ _ _ _ _ _ _ t₁ (e₁.trans e2) (Walks.list hh _ a hne vs.toArray) (fun i h w => let ⟨o, ho, hc, hd⟩ := w.1; ⟨o, _, ho, hd, fun n hc' => by rw [hc] at hc'; cases hc'; decide⟩) (by simp [rs.length]) ⟨⟨_, Heap.get?_push_size _ rfl, rfl, rfl⟩, ⟨_, Heap.get?_push_of_some _ ho, rfl, _, rfl⟩⟩ ?_ (.head _) ?_ ?_
      · intro b hb
        rcases List.mem_cons.mp hb with rfl | hb
        · exact ⟨⟨_, Heap.get?_push_size _ rfl⟩, fresh_not_own x₁ (get?_size _)⟩
        · rw [List.mem_singleton.mp hb]
          exact ⟨⟨_, Heap.get?_push_of_some _ ho⟩, x₁.seq_not_own 0 na ho ⟨_, _, .inr rfl⟩⟩
      · refine ⟨?_, fun b hb => List.mem_singleton.mp hb⟩
        cases q : s.heap.get? h₁.objs.size with
        | none => rfl
        | some o => exact absurd (Heap.lt_size (e₁ _ _ q)) (Nat.lt_irrefl _)
      · intro i v hi hv
        have hv' : vs[i]? = some v := by simpa using hv
        have hlt : i < vs.length := (List.getElem?_eq_some_iff.mp hv').1
        rw [rs.length] at hlt
        obtain ⟨u, hu, ru⟩ := rs.get (i := i) (d := _) (List.getElem?_eq_getElem hlt)
        rw [hv'] at hu; cases hu
        exact ⟨_, List.getElem?_eq_getElem hlt, ru.keep e2.keepSeq⟩

noncomputable def upto (a b : Int) : List Int := (List.range (b - a).toNat).map fun (i : Nat) => a + (i : Int)
theorem upto_get {a b : Int} {i : Nat} (h : i < (b - a).toNat) : (upto a b)[i]? = some (a + (i : Int)) := by simp [upto, h]
theorem upto_length (a b : Int) : (upto a b).length = (b - a).toNat := by simp [upto]
theorem range_iter (hh : A.handled = none) {a b : Int} {t u v : Tok} {r : Addr} {s : Shared} {Q : Value → Shared → Prop} {E : Value → Shared → Prop} (hr : IsRange s.heap r a b 1 t u v) (ha : -1000000 < a ∧ a < 1000000) (hb : -1000000 < b ∧ b < 1000000)
    (k : ∀ I fp wr n P W h', Ext s.heap h' → Walks T.prog T.w A I fp wr n P W → (∀ i h, W i h → NotOwning h I) → n = (upto a b).length → W 0 h' → (∀ c ∈ fp, s.heap.get? c = none ∧ ∃ o, h'.get? c = some o) → I ∈ fp → (s.heap.get? I = none ∧ ∀ c ∈ wr, c = I) →
      (∀ i x, i < n → P i x → ∃ d, (upto a b)[i]? = some d ∧ ∃ t, x = .int d t) → Q (.ref I) { s with heap := h' }) : wpAny (model T.prog T.w) A (pyIter (.ref r)) Q E s := by
  have hsm : Builtin.Range.small a b 1 = true := small_one (by (first | lia | omega)) (by (first | lia | omega)) (by (first | lia | omega)) (by (first | lia | omega))
  refine wpAny_pyIter_range hr hsm ?_
  have hn : Builtin.Range.rangeSize a b 1 = ((upto a b).length : Int) := by rw [rangeSize_one, upto_length]; split <;> (first | lia | omega)
  refine k _ _ _ _ _ _ _ (Ext.push _ _) (Walks.range hh s.heap.objs.size a 1 (upto a b).length) (fun i h w => ⟨_, _, w, rfl, fun n hc' => by cases hc'; decide⟩) rfl ?_ ?_ (.head _) ?_ ?_
  · show IsRangeIter _ _ _ _ _
    rw [hn]
    simpa using Heap.get?_push_size _ rfl
  · intro c hc
    rw [List.mem_singleton.mp hc]
    exact ⟨get?_size _, ⟨_, Heap.get?_push_size _ rfl⟩⟩
  · exact ⟨get?_size _, fun c hc => List.mem_singleton.mp hc⟩
  · rintro i x hi ⟨t, rfl⟩
    rw [upto_length] at hi
    exact ⟨_, upto_get hi, t, by rw [Int.mul_one]⟩
theorem range_call {ds : List D} {a b : Int} (hds : ds = [.int b] ∧ a = 0 ∨ ds = [.int a, .int b]) {N : Addr → Prop} {vs : List Value} {s : Shared} {Q : Value → Shared → Prop} {E : Value → Shared → Prop} (r : RepDs N s.heap ds vs)
    (k : ∀ r h' tk t u v, Ext s.heap h' → IsRange h' r a b 1 t u v → Q (.ref r) { s with heap := h', toks := tk }) : wpAny (model T.prog T.w) A (call (.type "range") vs) Q E s := by
  rcases hds with ⟨rfl, rfl⟩ | rfl
  · obtain ⟨v, _, rfl, ⟨t, rfl⟩, rfl⟩ := r
    exact call_range_1 (k _ _ _ _ _ _ (Ext.push _ _) (IsRange.new _ _ _ _ _ _ _))
  · obtain ⟨v, _, rfl, ⟨t, rfl⟩, ⟨v', _, rfl, ⟨t', rfl⟩, rfl⟩⟩ := r
    exact call_range_2 (k _ _ _ _ _ _ (Ext.push _ _) (IsRange.new _ _ _ _ _ _ _))
noncomputable def rangeD : List D → Option (List D)
  | [.int b] => if -1000000 < b ∧ b < 1000000 then some ((upto 0 b).map .int) else none
  | [.int a, .int b] => if (-1000000 < a ∧ a < 1000000) ∧ (-1000000 < b ∧ b < 1000000) then some ((upto a b).map .int) else none
  | _ => none
theorem rangeD_some {ds xs : List D} (h : rangeD ds = some xs) : ∃ a b, (ds = [.int b] ∧ a = 0 ∨ ds = [.int a, .int b]) ∧ (-1000000 < a ∧ a < 1000000) ∧ (-1000000 < b ∧ b < 1000000) ∧ xs = (upto a b).map .int := by
  match ds, h with
  | [.int b], h =>
    simp only [rangeD] at h
    split at h
    · rename_i hb; cases h; exact ⟨0, b, .inl ⟨rfl, rfl⟩, by (first | lia | omega), hb, rfl⟩
    · cases h
  | [.int a, .int b], h =>
    simp only [rangeD] at h
    split at h
    · rename_i hb; cases h; exact ⟨a, b, .inr rfl, hb.1, hb.2, rfl⟩
    · cases h
theorem ItOk.range {n : Str} {np pos : Pos} {e : Expr} {es : List Expr} {ps : S → Option (List D)} (hh : A.handled = none) (F : FOk Φ) (hk : Φ.env.kindOf n = some .globalImplicit) (hg : nsIn T.K mainGlobals n = some none) (hb : bootBuiltins n = some (.type "range"))
    (hd : (n == ("__debug__" : Str)) = false) (hn : n ≠ "__name__") (hst : starEach (e :: es) Φ.env = (false, eval e Φ.env) :: starEach es Φ.env) (hplain : (backTo pos (starEach es Φ.env)).any (·.1) = false)
    (hp : PvsOk T A Φ (e :: es) ps) : ItOk T A Φ (.Call (.Name n np) (e :: es) [] pos) (fun σ => (ps σ).bind rangeD) := by
  intro σ xs as s Q E h x k
  cases hds : ps σ with
  | none => simp only [hds] at h; cases h
  | some ds =>
    simp only [hds, Option.bind_some] at h
    obtain ⟨a, b, hab, ha, hb', rfl⟩ := rangeD_some h
    refine wpAny_Call_ofName (built_name F hk x hg hb ?_ hd hn)
    refine callWith_plain (.inr ⟨_, rfl⟩) hst hplain (hp σ ds as s pos _ E hds x fun vs h₁ t₁ e₁ r => ?_)
    refine range_call hab (s := { s with heap := h₁, toks := t₁ }) r fun r h₂ t₂ t u v e₂ hr => ?_
    refine range_iter hh (s := { s with heap := h₂, toks := t₂ }) hr ha hb' fun I fp wr n P W h₃ e₃ hw ho hn hst hfp hI hwr hP => ?_
    have none_of : ∀ c, h₂.get? c = none → s.heap.get? c = none := fun c hc => by
      cases q : s.heap.get? c with
      | none => rfl
      | some o => rw [e₂ _ _ (e₁ _ _ q)] at hc; cases hc
    refine k I fp wr n P W h₃ t₂ ((e₁.trans e₂).trans e₃) hw ho (by rw [hn, List.length_map]) hst (fun c hc => ⟨(hfp c hc).2, fresh_not_own x (none_of c (hfp c hc).1)⟩) hI ⟨none_of _ hwr.1, hwr.2⟩ fun i v hi hv => ?_
    obtain ⟨d, hd, t, rfl⟩ := hP i v hi hv
    exact ⟨.int d, by simp [hd], t, rfl⟩
end
end Mine
end
section
namespace Mine
open PySem PySem.W PyProof.Rows PySem.Calls PySem.SeqAt

section
variable {T : TI} {A : Around} {Φ : FI}

noncomputable def skip (σ : S) : Option (Fl × S) := some (.next, σ)
noncomputable def seqF (f g : S → Option (Fl × S)) (σ : S) : Option (Fl × S) := (f σ).bind fun r => match r.1 with
  | .next => g r.2
  | .ret d => some (.ret d, r.2)
theorem BkOk.nil : BkOk T A Φ [] skip := by
  intro σ d σ' as s Q E h x k
  cases h
  exact wpAny_execs_nil (k .next as s.heap s.toks (Step.ofExt (Ext.refl _)) x rfl)
theorem BkOk.cons {st : Stmt} {rest : List Stmt} {f g : S → Option (Fl × S)} (hf : SkOk T A Φ st f) (hg : BkOk T A Φ rest g) : BkOk T A Φ (st :: rest) (seqF f g) := by
  intro σ d σ' as s Q E h x k
  unfold seqF at h
  cases hr : f σ with
  | none => rw [hr] at h; cases h
  | some r =>
    obtain ⟨fl, σ₁⟩ := r
    rw [hr, Option.bind_some] at h
    refine wpAny_execs_cons (hf σ fl σ₁ as s _ E hr x fun v as₁ h₁ t₁ st₁ x₁ r₁ => ?_)
    cases fl with
    | next =>
      rw [show v = .next from r₁]
      exact hg σ₁ d σ' as₁ { s with heap := h₁, toks := t₁ } Q E h x₁ fun v as₂ h₂ t₂ st₂ x₂ r₂ => k v as₂ h₂ t₂ (st₁.trans st₂) x₂ r₂
    | ret d' =>
      cases h
      obtain ⟨u, rfl, ru⟩ := r₁
      exact k (.ret u) as₁ h₁ t₁ st₁ x₁ ⟨u, rfl, ru⟩
noncomputable def retF (p : S → Option (V × S)) (σ : S) : Option (Fl × S) := (p σ).bind fun r => match r.1 with
  | .d d => some (.ret d, r.2)
  | .r _ => none
theorem SkOk.ret {e : Expr} {pos : Pos} {f : S → Option (V × S)} (hf : EvOk T A Φ e f) : SkOk T A Φ (.Return (some e) pos) (retF f) := by
  intro σ d σ' as s Q E h x k
  unfold retF at h
  cases hr : f σ with
  | none => rw [hr] at h; cases h
  | some r =>
    obtain ⟨v, σ₁⟩ := r
    rw [hr, Option.bind_some] at h
    cases v with
    | r j => cases h
    | d d' =>
      cases h
      exact wpAny_Return_some (hf σ _ σ₁ as s _ E hr x fun v as₁ h₁ t₁ st₁ x₁ r₁ => k (.ret v) as₁ h₁ t₁ st₁ x₁ ⟨v, rfl, r₁⟩)
noncomputable def dF (p : S → Option D) (σ : S) : Option (V × S) := (p σ).map fun d => (.d d, σ)
theorem EvOk.pure {e : Expr} {p : S → Option D} (hp : PvOk T A Φ e p) : EvOk T A Φ e (dF p) := by
  intro σ d σ' as s Q E h x k
  unfold dF at h
  cases hr : p σ with
  | none => rw [hr] at h; cases h
  | some a =>
    rw [hr] at h; cases h
    exact hp σ a as s Q E hr x.toView fun v h' tk e r => k v as h' tk (Step.ofExt e) (x.ext e) r

noncomputable def TeOk (T : TI) (A : Around) (Φ : FI) (e : Expr) (f : S → Option (Bool × S)) : Prop :=
  ∀ (σ : S) (b : Bool) (σ' : S) (as : List (Addr × Addr)) (s : Shared) (Q : Bool → Shared → Prop) (E : Value → Shared → Prop), f σ = some (b, σ') → St T.h₀ Φ as σ s.heap →
    (∀ as' h' tk, Step Φ as σ s.heap as' σ' h' → St T.h₀ Φ as' σ' h' → Q b { s with heap := h', toks := tk }) → wpAny (model T.prog T.w) A (isTrue e Φ.env (eval e Φ.env)) Q E s
theorem TvOk.eff {e : Expr} {p : S → Option Bool} (hp : TvOk T A Φ e p) : TeOk T A Φ e (pureF p) := by
  intro σ b σ' as s Q E h x k
  obtain ⟨h, rfl⟩ := pureF_some h
  exact hp σ' b as s Q E h x.toView fun h' tk e => k as h' tk (Step.ofExt e) (x.ext e)
noncomputable def ifF (t : S → Option (Bool × S)) (f g : S → Option (Fl × S)) (σ : S) : Option (Fl × S) := (t σ).bind fun r => if r.1 then f r.2 else g r.2
theorem SkOk.if {t : Expr} {body orelse : List Stmt} {pos : Pos} {pt : S → Option (Bool × S)} {f g : S → Option (Fl × S)} (ht : TeOk T A Φ t pt) (hf : BkOk T A Φ body f) (hg : BkOk T A Φ orelse g) : SkOk T A Φ (.If t body orelse pos) (ifF pt f g) := by
  intro σ d σ' as s Q E h x k
  unfold ifF at h
  cases hr : pt σ with
  | none => rw [hr] at h; cases h
  | some r =>
    obtain ⟨b, σ₁⟩ := r
    rw [hr, Option.bind_some] at h
    refine wpAny_If (ht σ b σ₁ as s _ E hr x fun as₁ h₁ t₁ st₁ x₁ => ?_)
    cases b with
    | true => exact hf σ₁ d σ' as₁ { s with heap := h₁, toks := t₁ } Q E h x₁ fun v as₂ h₂ t₂ st₂ x₂ r₂ => k v as₂ h₂ t₂ (st₁.trans st₂) x₂ r₂
    | false => exact hg σ₁ d σ' as₁ { s with heap := h₁, toks := t₁ } Q E h x₁ fun v as₂ h₂ t₂ st₂ x₂ r₂ => k v as₂ h₂ t₂ (st₁.trans st₂) x₂ r₂

noncomputable def asF (f : S → Option (V × S)) (a : V → S → Option S) (σ : S) : Option (Fl × S) := (f σ).bind fun r => (a r.1 r.2).map fun σ' => (.next, σ')
theorem SkOk.assign {t e : Expr} {pos : Pos} {f : S → Option (V × S)} {a : V → S → Option S} (hf : EvOk T A Φ e f) (ha : AsOk T A Φ t a) (hs : swapsWithSole [t] e pos.line Φ.env = pure false) (hw : swappedStores [t] e Φ.env = pure none)
    (hst : assignEach [t] Φ.env = [(false, PySem.assign t Φ.env)]) : SkOk T A Φ (.Assign [t] e pos) (asF f a) := by
  intro σ d σ' as s Q E h x k
  unfold asF at h
  cases hr : f σ with
  | none => rw [hr] at h; cases h
  | some r =>
    obtain ⟨v, σ₁⟩ := r
    rw [hr, Option.bind_some] at h
    cases hq : a v σ₁ with
    | none => simp only [hq] at h; cases h
    | some σ₂ =>
      simp only [hq, Option.map_some] at h
      cases h
      refine wpAny_Assign_stores (hf σ v σ₁ as s _ E hr x fun u as₁ h₁ t₁ st₁ x₁ r₁ => ?_) hs hw
      rw [hst]
      show wpAny _ _ (PySem.assign t Φ.env u) _ _ _
      exact ha v u σ₁ σ' as₁ { s with heap := h₁, toks := t₁ } _ E hq x₁ r₁ fun as₂ h₂ t₂ st₂ x₂ => k .next as₂ h₂ t₂ (st₁.trans st₂) x₂ rfl

noncomputable def asgL : List (V → S → Option S) → List V → S → Option S
  | [], [], σ => some σ
  | a :: as, v :: vs, σ => (a v σ).bind fun σ' => asgL as vs σ'
  | _, _, _ => none
inductive AssOk (T : TI) (A : Around) (Φ : FI) : List Expr → List (V → S → Option S) → Prop
  | nil : AssOk T A Φ [] []
  | cons {t : Expr} {a : V → S → Option S} {ts : List Expr} {as : List (V → S → Option S)} : AsOk T A Φ t a → assignEach (t :: ts) Φ.env = (false, PySem.assign t Φ.env) :: assignEach ts Φ.env → AssOk T A Φ ts as → AssOk T A Φ (t :: ts) (a :: as)
theorem AssOk.each {ts : List Expr} {as : List (V → S → Option S)} (h : AssOk T A Φ ts as) : (assignEach ts Φ.env).length = as.length ∧ (assignEach ts Φ.env).findIdx? (·.1) = none := by
  induction h with
  | nil => exact ⟨rfl, rfl⟩
  | cons _ he _ ih =>
    rw [he]
    refine ⟨by simp [ih.1], ?_⟩
    rw [List.findIdx?_cons]
    simp [ih.2]
theorem asgL_len : ∀ {as : List (V → S → Option S)} {vs : List V} {σ σ' : S}, asgL as vs σ = some σ' → vs.length = as.length
  | [], [], _, _, _ => rfl
  | [], _ :: _, _, _, h => by cases h
  | _ :: _, [], _, _, h => by cases h
  | a :: as, v :: vs, σ, σ', h => by
    unfold asgL at h
    cases hq : a v σ with
    | none => rw [hq] at h; cases h
    | some σ₁ => rw [hq] at h; simp [asgL_len h]
theorem ass_store {ts : List Expr} {as : List (V → S → Option S)} (h : AssOk T A Φ ts as) : ∀ {ds : List V} {vs : List Value} {σ σ' : S} {ad : List (Addr × Addr)} {s : Shared} {Q : Unit → Shared → Prop} {E : Value → Shared → Prop}, asgL as ds σ = some σ' → St T.h₀ Φ ad σ s.heap →
    RepVs (Φ.Ex ad σ.heap) ad s.heap ds vs → (∀ as' h' tk, Step Φ ad σ s.heap as' σ' h' → St T.h₀ Φ as' σ' h' → Q () { s with heap := h', toks := tk }) →
    wpAny (model T.prog T.w) A (assignInOrder ((assignEach ts Φ.env).map (·.2)) vs) Q E s := by
  induction h with
  | nil =>
    intro ds vs σ σ' ad s Q E h x r k
    cases ds with
    | cons d ds => cases h
    | nil =>
      cases h
      rw [show vs = [] from r]
      exact wpAny_assignInOrder_none (k ad s.heap s.toks (Step.ofExt (Ext.refl _)) x)
  | @cons t a ts as ha he _ ih =>
    intro ds vs σ σ' ad s Q E h x r k
    cases ds with
    | nil => cases h
    | cons d ds =>
      obtain ⟨v, vs', rfl, r1, r2⟩ := r
      unfold asgL at h
      cases hq : a d σ with
      | none => rw [hq] at h; cases h
      | some σ₁ =>
        rw [hq, Option.bind_some] at h
        rw [he]
        refine wpAny_assignInOrder_more (ha d v σ σ₁ ad s _ E hq x r1 fun as₁ h₁ t₁ st₁ x₁ => ?_)
        refine ih (s := { s with heap := h₁, toks := t₁ }) h x₁ (st₁.repVs x.toView r2) fun as₂ h₂ t₂ st₂ x₂ => ?_
        exact k as₂ h₂ t₂ (st₁.trans st₂) x₂
theorem RepVs.length {N : Addr → Prop} {as : List (Addr × Addr)} {h : Heap} : ∀ {ds : List V} {vs : List Value}, RepVs N as h ds vs → vs.length = ds.length
  | [], _, x => by rw [show _ = [] from x]; rfl
  | d :: ds, _, ⟨v, r, e, _, hr⟩ => by rw [e, List.length_cons, List.length_cons, RepVs.length hr]
theorem EvsOk.nil : EvsOk T A Φ [] (fun σ => some ([], σ)) := by
  intro σ ds σ' as s pos Q E h x k; cases h
  exact wpAny_items_nil (k [] as s.heap s.toks (Step.ofExt (Ext.refl _)) x rfl)
noncomputable def consF (f : S → Option (V × S)) (g : S → Option (List V × S)) (σ : S) : Option (List V × S) := (f σ).bind fun r => (g r.2).map fun q => (r.1 :: q.1, q.2)
theorem EvsOk.cons {e : Expr} {es : List Expr} {f : S → Option (V × S)} {g : S → Option (List V × S)} (hf : EvOk T A Φ e f) (hg : EvsOk T A Φ es g) (hst : starEach (e :: es) Φ.env = (false, eval e Φ.env) :: starEach es Φ.env) : EvsOk T A Φ (e :: es) (consF f g) := by
  intro σ ds σ' as s pos Q E h x k
  unfold consF at h
  cases hr : f σ with
  | none => rw [hr] at h; cases h
  | some r =>
    obtain ⟨v, σ₁⟩ := r
    rw [hr, Option.bind_some] at h
    cases hq : g σ₁ with
    | none => simp only [hq] at h; cases h
    | some q =>
      obtain ⟨ds', σ₂⟩ := q
      simp only [hq, Option.map_some] at h
      cases h
      refine wpAny_items_cons (hf σ v σ₁ as s _ E hr x fun u as₁ h₁ t₁ st₁ x₁ r₁ => ?_) hst
      refine hg σ₁ ds' σ' as₁ { s with heap := h₁, toks := t₁ } pos _ E hq x₁ fun us as₂ h₂ t₂ st₂ x₂ r₂ => ?_
      exact k (u :: us) as₂ h₂ t₂ (st₁.trans st₂) x₂ ⟨u, us, rfl, st₂.repV x₁.toView r₁, r₂⟩
noncomputable def asTF (f : S → Option (List V × S)) (as : List (V → S → Option S)) (σ : S) : Option (Fl × S) := (f σ).bind fun r => if r.1.length ≤ 1000 then (asgL as r.1 r.2).map fun σ' => (.next, σ') else none
theorem SkOk.assignT {ts es : List Expr} {m n : Nat} {tpos epos pos : Pos} {f : S → Option (List V × S)} {as : List (V → S → Option S)} (hh : A.handled = none) (hf : EvsOk T A Φ es f) (ha : AssOk T A Φ ts as)
    (hs : swapsWithSole [.Tuple ts m tpos] (.Tuple es n epos) pos.line Φ.env = pure false) (hw : swappedStores [.Tuple ts m tpos] (.Tuple es n epos) Φ.env = pure none) : SkOk T A Φ (.Assign [.Tuple ts m tpos] (.Tuple es n epos) pos) (asTF f as) := by
  intro σ d σ' ad s Q E h x k
  unfold asTF at h
  cases hr : f σ with
  | none => rw [hr] at h; cases h
  | some r =>
    obtain ⟨ds, σ₁⟩ := r
    rw [hr, Option.bind_some] at h
    split at h
    case isFalse => cases h
    rename_i hz
    dsimp only at hz h
    cases hq : asgL as ds σ₁ with
    | none => rw [hq] at h; cases h
    | some σ₂ =>
      rw [hq] at h; cases h
      refine PyProof.Rows.Assign_Tuple (wpAny_Tuple_spliced (hf σ ds σ₁ ad s epos _ E hr x fun vs as₁ h₁ t₁ st₁ x₁ r₁ => ⟨by rw [r₁.length, sizeLine_eq]; (first | lia | omega), ?_⟩)) hs hw
      have e1 := Ext.push h₁ ({ cls := .type "tuple", data := .seq vs.toArray } : Obj)
      refine wpAny_assign_Tuple hh ⟨_, Heap.get?_push_size _ rfl, rfl, _, rfl⟩ (by rw [ha.each.1, List.size_toArray, r₁.length, asgL_len hq]) ha.each.2 fun h₂ e2 => ?_
      have e2' : Ext (h₁.push { cls := .type "tuple", data := .seq vs.toArray }) h₂ := fun b o q => e2 b o (by rintro rfl; rw [get?_size] at q; cases q) q
      have e := e1.trans e2'
      refine ass_store ha (s := { s with heap := h₂, toks := t₁ }) hq (x₁.ext e) (r₁.keep0 e.keepSeq) fun as₃ h₃ t₃ st₃ x₃ => ?_
      exact k .next as₃ h₃ t₃ ((st₁.trans (Step.ofExt e)).trans st₃) x₃ rfl
theorem SkOk.assignTr {ts es : List Expr} {m n : Nat} {tpos epos pos : Pos} {f : S → Option (List V × S)} {is : List Nat} {names : List Str} (hh : A.handled = none) (F : FOk Φ) (hf : EvsOk T A Φ es f) (ha : is.length = names.length ∧ ∀ (j : Nat) (i : Nat) (nm : Str), is[j]? = some i → names[j]? = some nm → StoreIs Φ i nm)
    (hs : swapsWithSole [.Tuple ts m tpos] (.Tuple es n epos) pos.line Φ.env = pure false) (hw : swappedStores [.Tuple ts m tpos] (.Tuple es n epos) Φ.env = pure (some names)) :
    SkOk T A Φ (.Assign [.Tuple ts m tpos] (.Tuple es n epos) pos) (fun σ => (f σ).bind fun r => if r.1.length = names.length ∧ r.1.length ≤ 1000 then (asgL (is.reverse.map fun i => Tgt.asg (.one i)) r.1.reverse r.2).map fun σ' => (.next, σ') else none) := by
  intro σ d σ' ad s Q E h x k
  cases hr : f σ with
  | none => simp only [hr] at h; cases h
  | some r =>
    obtain ⟨ds, σ₁⟩ := r
    simp only [hr, Option.bind_some] at h
    split at h
    case isFalse => cases h
    rename_i hz
    cases hq : asgL (is.reverse.map fun i => Tgt.asg (.one i)) ds.reverse σ₁ with
    | none => rw [hq] at h; cases h
    | some σ₂ =>
      rw [hq] at h; cases h
      refine PyProof.Rows.Assign_Tuple_swapped (wpAny_Tuple_spliced (hf σ ds σ₁ ad s epos _ E hr x fun vs as₁ h₁ t₁ st₁ x₁ r₁ => ⟨by rw [r₁.length, sizeLine_eq]; (first | lia | omega), ?_⟩)) hs hw
      have e1 := Ext.push h₁ ({ cls := .type "tuple", data := .seq vs.toArray } : Obj)
      have hlen : names.length = vs.toArray.size := by rw [List.size_toArray, r₁.length, hz.1]
      rw [hlen]
      refine wpAny_unpackItems_tuple hh ⟨_, Heap.get?_push_size _ rfl, rfl, _, rfl⟩ fun h₂ e2 => ?_
      have e2' : Ext (h₁.push { cls := .type "tuple", data := .seq vs.toArray }) h₂ := fun b o q => e2 b o (by rintro rfl; rw [get?_size] at q; cases q) q
      have e := e1.trans e2'
      have go : ∀ (l : List (Nat × Str)) (ds : List V) (vs : List Value) (σ σ' : S) (s : Shared) (Q : Unit → Shared → Prop), (∀ p ∈ l, StoreIs Φ p.1 p.2) → asgL (l.map fun p => Tgt.asg (.one p.1)) ds σ = some σ' → St T.h₀ Φ as₁ σ s.heap → RepVs (Φ.Ex as₁ σ.heap) as₁ s.heap ds vs →
          (∀ h' tk, Step Φ as₁ σ s.heap as₁ σ' h' → St T.h₀ Φ as₁ σ' h' → Q () { s with heap := h', toks := tk }) → wpAny (model T.prog T.w) A (assignInOrder (l.map fun p => bindName Φ.env p.2) vs) Q E s := by
        intro l
        induction l with
        | nil =>
          intro ds vs σ σ' s Q _ h x r k
          cases ds with
          | cons => cases h
          | nil =>
            cases h
            rw [show vs = [] from r]
            exact wpAny_assignInOrder_none (k s.heap s.toks (Step.ofExt (Ext.refl _)) x)
        | cons p l ih =>
          intro ds vs σ σ' s Q hl h x r k
          cases ds with
          | nil => cases h
          | cons d ds =>
            obtain ⟨v, vs', rfl, r1, r2⟩ := r
            refine wpAny_assignInOrder_more (wpAny_bindName (frame_store F (hl p (.head _)) x r1 fun h' tk st x' => ?_))
            refine ih ds vs' (σ.setVar p.1 (some d)) σ' { s with heap := h', toks := tk } Q (fun q hq => hl q (.tail _ hq)) h x' (r2.keep0 (st.keepSeq x.toView)) fun h'' tk' st' x'' => ?_
            exact k h'' tk' (st.trans st') x''
      have hzip : (is.zip names).map (·.1) = is ∧ (is.zip names).map (·.2) = names := ⟨List.map_fst_zip (by (first | lia | omega)), List.map_snd_zip (by (first | lia | omega))⟩
      have hmem : ∀ p ∈ (is.zip names).reverse, StoreIs Φ p.1 p.2 := fun p hp => by
        obtain ⟨j, hj⟩ := List.mem_iff_getElem?.mp (List.mem_reverse.mp hp)
        rw [List.getElem?_zip_eq_some] at hj
        exact ha.2 j p.1 p.2 hj.1 hj.2
      have hrev : RepVs (Φ.Ex as₁ σ₁.heap) as₁ h₂ ds.reverse vs.reverse := by
        have : ∀ (ds : List V) (vs : List Value) (es : List V) (us : List Value), RepVs (Φ.Ex as₁ σ₁.heap) as₁ h₂ ds vs → RepVs (Φ.Ex as₁ σ₁.heap) as₁ h₂ es us → RepVs (Φ.Ex as₁ σ₁.heap) as₁ h₂ (ds.reverseAux es) (vs.reverseAux us) := by
          intro ds
          induction ds with
          | nil => intro vs es us r r'; rw [show vs = [] from r]; exact r'
          | cons d ds ih => intro vs es us r r'; obtain ⟨v, vs', rfl, r1, r2⟩ := r; exact ih vs' (d :: es) (v :: us) r2 ⟨v, us, rfl, r1, r'⟩
        rw [List.reverse, List.reverse]
        exact this ds vs [] [] (r₁.keep0 e.keepSeq) rfl
      have e3 : (names.reverse.map fun n => bindName Φ.env n) = (is.zip names).reverse.map fun p => bindName Φ.env p.2 := by
        rw [← hzip.2, ← List.map_reverse, List.map_map, hzip.2]; rfl
      have e4 : (is.reverse.map fun i => Tgt.asg (.one i)) = (is.zip names).reverse.map fun p => Tgt.asg (.one p.1) := by
        have : is.reverse = (is.zip names).reverse.map (·.1) := by rw [List.map_reverse, hzip.1]
        rw [this, List.map_map]; rfl
      rw [e3]
      rw [e4] at hq
      show wpAny _ _ (assignInOrder _ vs.toArray.toList.reverse) _ _ _
      rw [List.toList_toArray]
      exact go _ ds.reverse vs.reverse σ₁ σ' { s with heap := h₂, toks := t₁ } _ hmem hq (x₁.ext e) hrev fun h₃ t₃ st₃ x₃ => k .next as₁ h₃ t₃ ((st₁.trans (Step.ofExt e)).trans st₃) x₃ rfl
end
end Mine
end
section
namespace Mine
open PySem PySem.W PyProof.Rows PySem.Calls PySem.SeqAt

section
variable {T : TI} {A : Around} {Φ : FI}

theorem iter_keepSeq {h h' : Heap} {I : Addr} {N : Addr → Prop} (hk : ∀ b o, b ≠ I → h.get? b = some o → h'.get? b = some o) (hI : ∃ o vs, h.get? I = some o ∧ o.data = .fields vs) : KeepSeq N h N h' := by
  intro a o na ho hs
  refine ⟨hk a o ?_ ho, na⟩
  rintro rfl
  obtain ⟨o', vs', ho', hd⟩ := hI
  rw [ho] at ho'; cases ho'
  obtain ⟨vs, n, rfl | rfl⟩ := hs <;> cases hd
theorem View.change {h₀ : Heap} {as : List (Addr × Addr)} {σ : S} {h h' : Heap} {I : Addr} (x : View h₀ Φ as σ h) (hk : ∀ b o, b ≠ I → h.get? b = some o → h'.get? b = some o) (hI : ∃ o vs, h.get? I = some o ∧ o.data = .fields vs) (nI : ¬ Φ.Own 0 as σ.heap I)
    (nX : ¬ Φ.X I) (h0 : h₀.get? I = none) : View h₀ Φ as σ h' where
  keep := fun b o q => hk b o (by rintro rfl; rw [h0] at q; cases q) (x.keep b o q)
  len := x.len
  loc := let ⟨m, hm, hl⟩ := x.loc; ⟨m, hm.at' fun o q => hk _ _ (fun e => nI (.inl e.symm)) q, fun i n d hi hd => let ⟨v, hv, r⟩ := hl i n d hi hd; ⟨v, hv, r.keep0 (iter_keepSeq hk hI)⟩⟩
  cel := fun i n c hi => let ⟨ov, ⟨o, ho, hd⟩, hl⟩ := x.cel i n c hi; ⟨ov, ⟨o, hk _ _ (fun e => by obtain ⟨o', vs', ho', hd'⟩ := hI; rw [← e, ho] at ho'; cases ho'; rw [hd] at hd'; cases hd') ho, hd⟩, fun d hd => let ⟨v, hv, r⟩ := hl d hd; ⟨v, hv, r.keep0 (iter_keepSeq hk hI)⟩⟩
  led := fun k p c hp hc => by
    have := x.led k p c hp hc
    cases c with
    | dead => trivial
    | list xs => exact this.keep (iter_keepSeq hk hI) fun a o ha q => hk a o (by rintro rfl; rcases ha with ha | rfl <;> exact nI (.inr (.inr ⟨k, Nat.zero_le _, p, _, hp, hc, by first | exact ha | rfl⟩))) q
    | inst C at' =>
      refine this.keep (iter_keepSeq hk hI) fun a o ha q => hk a o ?_ q
      rintro rfl
      rcases ha with ha | rfl
      · exact nI (.inr (.inr ⟨k, Nat.zero_le _, p, _, hp, hc, ha⟩))
      · obtain ⟨o', vs', ho', hd⟩ := hI
        rw [this.1] at ho'; cases ho'; cases hd
  xs := fun a ha => by
    obtain ⟨o, ho⟩ := x.xs a ha
    exact ⟨o, hk a o (fun e => nX (e ▸ ha)) ho⟩
  ex0 := x.ex0
theorem St.change {h₀ : Heap} {as : List (Addr × Addr)} {σ : S} {h h' : Heap} {I : Addr} (x : St h₀ Φ as σ h) (hk : ∀ b o, b ≠ I → h.get? b = some o → h'.get? b = some o) (hI : ∃ o vs, h.get? I = some o ∧ o.data = .fields vs) (nI : ¬ Φ.Own 0 as σ.heap I)
    (nX : ¬ Φ.X I) (h0 : h₀.get? I = none) : St h₀ Φ as σ h' where
  toView := x.toView.change hk hI nI nX h0
  sepL := x.sepL
  sepF := x.sepF
  fr0 := x.fr0
  sepX := x.sepX

noncomputable def forR (a : V → S → Option S) (body : S → Option (Fl × S)) : List D → S → Option (Fl × S)
  | [], σ => some (.next, σ)
  | d :: ds, σ => (a (.d d) σ).bind fun σ₁ => (body σ₁).bind fun r => match r.1 with
    | .next => forR a body ds r.2
    | .ret v => some (.ret v, r.2)
noncomputable def forF (f : S → Option (List D × S)) (a : V → S → Option S) (body : S → Option (Fl × S)) (σ : S) : Option (Fl × S) := (f σ).bind fun r => forR a body r.1 r.2

theorem Step.own_back {as as' : List (Addr × Addr)} {σ σ' : S} {h h' : Heap} (y : Step Φ as σ h as' σ' h') {b : Addr} (he : ∃ o, h.get? b = some o) (hn : ¬ Φ.Own 0 as σ.heap b) : ¬ Φ.Own 0 as' σ'.heap b := by
  rintro (q | q | q)
  · exact hn (.inl q)
  · exact hn (.inr (.inl q))
  · rcases y.fresh b q with q | q
    · exact hn (.inr (.inr q))
    · obtain ⟨o, ho⟩ := he; rw [ho] at q; cases q
theorem FI.Own.mono {n n' : Nat} {as : List (Addr × Addr)} {hp : List Cell} {a : Addr} (h : n' ≤ n) (x : Φ.Own n as hp a) : Φ.Own n' as hp a := x.imp id (Or.imp id (Live.mono h))

theorem SkOk.for {target iter : Expr} {body : List Stmt} {pos : Pos} {f : S → Option (List D × S)} {a : V → S → Option S} {fb : S → Option (Fl × S)} (hf : EiOk T A Φ iter f) (ha : AsOk T A Φ target a) (hb : BkOk T A Φ body fb)
    (hfold : ∀ x, foldedSetIterable iter Φ.env x = pure x) : SkOk T A Φ (.For target iter body [] pos) (forF f a fb) := by
  intro σ d σ' as s Q E h x k
  unfold forF at h
  cases hr : f σ with
  | none => rw [hr] at h; cases h
  | some r =>
    obtain ⟨ds, σ₀⟩ := r
    rw [hr, Option.bind_some] at h
    refine wpAny_For (hf σ ds σ₀ as s _ E hr x fun I fp wr n P W as₀ h₀ t₀ st₀ x₀ hW hNO hn hw0 hfp hIfp hwr hP => ?_) hfold
    have hI0 : T.h₀.get? I = none := by
      cases q : T.h₀.get? I with
      | none => rfl
      | some o => have := x.keep I o q; rw [hwr.1] at this; cases this
    have kept : ∀ {as₁ : List (Addr × Addr)} {σ₁ : S} {h₁ h₂ : Heap}, Step Φ as σ s.heap as₁ σ₁ h₁ → (∀ b o, b ∉ wr → h₁.get? b = some o → h₂.get? b = some o) → Step Φ as σ s.heap as₁ σ₁ h₂ := fun {as₁ σ₁ h₁ h₂} st hk =>
      ⟨st.pre, st.prot, st.low, fun b o nb e => hk b o (fun hb => by rw [hwr.2 b hb, hwr.1] at e; cases e) (st.keep b o nb e), st.fresh, st.own, fun b e => by
        by_cases hb : b = I
        · rw [hb]; exact hwr.1
        · refine st.ex b ?_
          cases q : h₁.get? b with
          | none => rfl
          | some o => rw [hk b o (fun hm => hb (hwr.2 b hm)) q] at e; cases e⟩
    have nX : ¬ Φ.X I := fun q => by obtain ⟨o, ho⟩ := x.xs I q; rw [hwr.1] at ho; cases ho
    refine codeAny_mono (codeAny_forLoop_any (R := fun r s' => ∃ v as' h' tk, r = .ok v ∧ s' = { s with heap := h', toks := tk } ∧ Step Φ as σ s.heap as' σ' h' ∧ St T.h₀ Φ as' σ' h' ∧ RepFl (Φ.Ex as' σ'.heap) h' d v)
      (fun k s' => ∃ i as₁ σ₁ h₁ t₁, s' = { s with heap := h₁, toks := t₁ } ∧ i ≤ n ∧ k = n - i ∧ Step Φ as σ s.heap as₁ σ₁ h₁ ∧ St T.h₀ Φ as₁ σ₁ h₁ ∧ W i h₁ ∧ forR a fb (ds.drop i) σ₁ = some (d, σ') ∧
        (∀ b ∈ fp, (∃ o, h₁.get? b = some o) ∧ ¬ Φ.Own 0 as₁ σ₁.heap b) ∧ (∀ j v, j < n → P j v → ∃ d, ds[j]? = some d ∧ RepD (Φ.Ex as₁ σ₁.heap) h₁ d v)) ?_ n ⟨0, as₀, σ₀, h₀, t₀, rfl, Nat.zero_le _, rfl, st₀, x₀, hw0, h, hfp, hP⟩) fun r s' hr => ?_
    · rintro k' s' ⟨i, as₁, σ₁, h₁, t₁, rfl, hi, rfl, st₁, x₁, hw₁, hrun, hfp₁, hP₁⟩
      have hIo : ∃ o vs, h₁.get? I = some o ∧ o.data = .fields vs := let ⟨o, vs, ho, hd, _⟩ := hNO i h₁ hw₁; ⟨o, vs, ho, hd⟩
      by_cases hlt : i < n
      · refine hW.item i _ _ _ hlt hw₁ fun v h₂ t₂ hPv hw₂ hk₂ => ?_
        have hk₂' : ∀ b o, b ≠ I → h₁.get? b = some o → h₂.get? b = some o := fun b o hb => hk₂ b o fun hm => hb (hwr.2 b hm)
        have hI₂ : ∃ o, h₂.get? I = some o := let ⟨o, _, ho, _⟩ := hNO _ h₂ hw₂; ⟨o, ho⟩
        have st₂ := kept st₁ hk₂
        have x₂ := x₁.change hk₂' hIo (hfp₁ I hIfp).2 nX hI0
        have KS : KeepSeq (Φ.Ex as₁ σ₁.heap) h₁ (Φ.Ex as₁ σ₁.heap) h₂ := iter_keepSeq hk₂' hIo
        obtain ⟨dv, hdv, rdv⟩ := hP₁ i v hlt hPv
        have hdrop : ds.drop i = dv :: ds.drop (i + 1) := by
          obtain ⟨hlt', e⟩ := List.getElem?_eq_some_iff.mp hdv
          rw [List.drop_eq_getElem_cons hlt', e]
        rw [hdrop] at hrun
        unfold forR at hrun
        cases hq : a (.d dv) σ₁ with
        | none => rw [hq] at hrun; cases hrun
        | some σ₂ =>
        rw [hq, Option.bind_some] at hrun
        cases hb' : fb σ₂ with
        | none => rw [hb'] at hrun; cases hrun
        | some q =>
        obtain ⟨fl, σ₃⟩ := q
        rw [hb', Option.bind_some] at hrun
        refine (hNO _ h₂ hw₂).letGo (s := { s with heap := h₂, toks := t₂ }) ?_
        refine ha (.d dv) v σ₁ σ₂ as₁ { s with heap := h₂, toks := t₂ } _ _ hq x₂ (rdv.keep KS) fun as₃ h₃ t₃ st₃ x₃ => ?_
        refine hb σ₂ fl σ₃ as₃ { s with heap := h₃, toks := t₃ } _ _ hb' x₃ fun v₄ as₄ h₄ t₄ st₄ x₄ r₄ => ?_
        have st₃₄ := st₃.trans st₄
        have stA := st₂.trans st₃₄
        cases fl with
        | next =>
          rw [show v₄ = .next from r₄]
          refine ⟨n - (i + 1), by (first | lia | omega), i + 1, as₄, σ₃, h₄, t₄, rfl, by (first | lia | omega), rfl, stA, x₄, ?_, hrun, fun b hb => ?_, fun j v hj hp => ?_⟩
          · refine hW.frame _ _ _ hw₂ fun b hb o ho => st₃₄.keep b o (fun q => (hfp₁ b hb).2 (q.mono (Nat.zero_le _))) ho
          · obtain ⟨⟨o, ho⟩, hno⟩ := hfp₁ b hb
            have hex₂ : ∃ o, h₂.get? b = some o := by
              by_cases e : b = I
              · subst e; exact hI₂
              · exact ⟨o, hk₂' b o e ho⟩
            obtain ⟨o₂, ho₂⟩ := hex₂
            exact ⟨⟨o₂, st₃₄.keep b o₂ (fun q => hno (q.mono (Nat.zero_le _))) ho₂⟩, st₃₄.own_back ⟨o₂, ho₂⟩ hno⟩
          · obtain ⟨d', hd', r'⟩ := hP₁ j v hj hp
            exact ⟨d', hd', (st₃₄.repD x₂.toView (r'.keep KS))⟩
        | ret dv' =>
          cases hrun
          obtain ⟨u, rfl, ru⟩ := r₄
          exact ⟨.ret u, as₄, h₄, t₄, rfl, rfl, stA, x₄, u, rfl, ru⟩
      · have hin : i = n := by (first | lia | omega)
        subst hin
        refine hW.done _ _ _ hw₁ fun h₂ t₂ hk₂ => wpAny_execs_nil ?_
        have hk₂' : ∀ b o, b ≠ I → h₁.get? b = some o → h₂.get? b = some o := fun b o hb => hk₂ b o fun hm => hb (hwr.2 b hm)
        rw [hn, List.drop_length] at hrun
        cases hrun
        exact ⟨.next, as₁, h₂, t₂, rfl, rfl, kept st₁ hk₂, x₁.change hk₂' hIo (hfp₁ I hIfp).2 nX hI0, rfl⟩
    · obtain ⟨v, as', h', tk, rfl, rfl, st', x', r'⟩ := hr
      exact k v as' h' tk st' x' r'
end
end Mine
end
section
namespace Mine
open PySem PySem.W PyProof.Rows PySem.Calls PySem.SeqAt

section
variable {T : TI} {A : Around} {Φ : FI}

theorem View.changeX {h₀ : Heap} {as : List (Addr × Addr)} {σ : S} {h h' : Heap} {D : Addr} (x : View h₀ Φ as σ h) (hs : Heap.SameBut D h h') (hX : Φ.X D) (nO : ¬ Φ.Own 0 as σ.heap D) (hD : ∃ o vs n, h.get? D = some o ∧ o.data = .seq vs n)
    (hD' : ∃ o, h'.get? D = some o) : View h₀ Φ as σ h' := by
  have KS : KeepSeq (Φ.Ex as σ.heap) h (Φ.Ex as σ.heap) h' := fun a o na ho _ => ⟨(hs.2 a (fun e => na (.inl (e ▸ hX)))).trans ho, na⟩
  have hk : ∀ b o, b ≠ D → h.get? b = some o → h'.get? b = some o := fun b o hb e => (hs.2 b hb).trans e
  obtain ⟨oD, vsD, nD, hoD, hdD⟩ := hD
  refine ⟨fun b o q => hk b o ?_ (x.keep b o q), x.len, ?_, fun i n c hi => ?_, fun k p c hp hc => ?_, fun a ha => ?_, x.ex0⟩
  · rintro rfl; rw [x.ex0 _ (.inl hX)] at q; cases q
  · obtain ⟨m, hm, hl⟩ := x.loc
    exact ⟨m, hm.at' fun o q => hk _ _ (fun e => nO (.inl e.symm)) q, fun i n d hi hd => let ⟨v, hv, r⟩ := hl i n d hi hd; ⟨v, hv, r.keep0 KS⟩⟩
  · obtain ⟨ov, ⟨o, ho, hd⟩, hl⟩ := x.cel i n c hi
    refine ⟨ov, ⟨o, hk _ _ (fun e => ?_) ho, hd⟩, fun d hd => let ⟨v, hv, r⟩ := hl d hd; ⟨v, hv, r.keep0 KS⟩⟩
    rw [e, hoD] at ho; cases ho; rw [hdD] at hd; cases hd
  · have := x.led k p c hp hc
    cases c with
    | dead => trivial
    | list xs => exact this.keep KS fun a o ha q => hk a o (by rintro rfl; rcases ha with ha | rfl <;> exact nO (.inr (.inr ⟨k, Nat.zero_le _, p, _, hp, hc, by first | exact ha | rfl⟩))) q
    | inst C at' =>
      refine this.keep KS fun a o ha q => hk a o ?_ q
      rintro rfl
      rcases ha with ha | rfl
      · exact nO (.inr (.inr ⟨k, Nat.zero_le _, p, _, hp, hc, ha⟩))
      · rw [this.1] at hoD; cases hoD; cases hdD
  · by_cases e : a = D
    · subst e; exact hD'
    · obtain ⟨o, ho⟩ := x.xs a ha; exact ⟨o, hk a o e ho⟩
noncomputable def compFI (Φ : FI) (slots : List Slot) (scope : Scope) (cl : List (Str × Addr)) (C D : Addr) : FI := ⟨compEnvC scope cl C Φ.env, slots, fun a => Φ.X a ∨ a = D⟩
noncomputable def compVars (base k : Nat) (vars : List (Option V)) : List (Option V) := vars.take base ++ List.replicate (base - vars.length) none ++ List.replicate k none
theorem compVars_get {base k : Nat} {vars : List (Option V)} {i : Nat} {v : V} (h : (compVars base k vars)[i]? = some (some v)) : i < base ∧ vars[i]? = some (some v) := by
  unfold compVars at h
  rw [List.append_assoc, List.getElem?_append] at h
  split at h
  · rename_i hlt
    rw [List.length_take] at hlt
    rw [List.getElem?_take] at h
    split at h
    · exact ⟨by (first | lia | omega), h⟩
    · cases h
  · rw [List.getElem?_append] at h
    split at h
    · rw [List.getElem?_replicate] at h; split at h <;> cases h
    · rw [List.getElem?_replicate] at h; split at h <;> cases h
noncomputable def compGo (a : V → S → Option S) (t : S → Option Bool) (pe : S → Option D) : List D → S → Option (List D)
  | [], _ => some []
  | d :: ds, σ => (a (.d d) σ).bind fun σ₁ => (t σ₁).bind fun b => if b then (pe σ₁).bind fun x => (compGo a t pe ds σ₁).map (x :: ·) else compGo a t pe ds σ₁
noncomputable def compP (base k : Nat) (p : S → Option (List D)) (a : V → S → Option S) (t : S → Option Bool) (pe : S → Option D) (σ : S) : Option D :=
  (p σ).bind fun ds => if ds.length ≤ 16777216 then (compGo a t pe ds ⟨compVars base k σ.vars, σ.heap, σ.heap.length⟩).map .lst else none

noncomputable def IfsOk (T : TI) (A : Around) (Φ : FI) (ifs : List Expr) (t : S → Option Bool) : Prop :=
  ∀ (σ : S) (b : Bool) (as : List (Addr × Addr)) (s : Shared) (Q : Bool → Shared → Prop) (E : Value → Shared → Prop), t σ = some b → View T.h₀ Φ as σ s.heap → (∀ h' tk, Ext s.heap h' → Q b { s with heap := h', toks := tk }) →
    wpAny (model T.prog T.w) A (forIn ifs true fun c r => if r = true then do let ok ← isTrue c Φ.env (eval c Φ.env); pure (ForInStep.yield ok) else pure (ForInStep.yield r)) Q E s
theorem IfsOk.nil : IfsOk T A Φ [] (fun _ => some true) := fun σ b as s Q E h x k => by cases h; exact wpAny_tests_nil (k s.heap s.toks (Ext.refl _))
theorem codeAny_compLoop_testsX {elt target iter : Expr} {ifs : List Expr} {scope : Scope} {pos : Pos} {it acc : Value} {env : Env} {R : Result → Shared → Prop} {s : Shared} (I : Nat → Shared → Prop)
    (turn : ∀ n s, I n s → wpAny (model T.prog T.w) A (pyNext it) (fun r s₁ => match r with
      | none => R (.ok .next) s₁
      | some v => wpAny (model T.prog T.w) A (letOwnedTupleGo target it v) (fun _ s₁' => wpAny (model T.prog T.w) A (assign target env v) (fun _ s₂ =>
          wpAny (model T.prog T.w) A (forIn ifs true fun c r => if r = true then do let ok ← isTrue c env (eval c env); pure (ForInStep.yield ok) else pure (ForInStep.yield r)) (fun ok s₃ =>
            if ok = true then wpAny (model T.prog T.w) A (eval elt env) (fun x s₄ =>
              wpAny (model T.prog T.w) A (call (.builtin "list.append") [acc, x]) (fun _ s₅ => ∃ m, m < n ∧ I m s₅) (notedBy (model T.prog T.w) A env fun e s' => R (.error e) s') s₄) (notedBy (model T.prog T.w) A env fun e s' => R (.error e) s') s₃
            else ∃ m, m < n ∧ I m s₃) (notedBy (model T.prog T.w) A env fun e s' => R (.error e) s') s₂) (notedBy (model T.prog T.w) A env fun e s' => R (.error e) s') s₁') (notedBy (model T.prog T.w) A env fun e s' => R (.error e) s') s₁) (notedBy (model T.prog T.w) A env fun e s' => R (.error e) s') s)
    (n : Nat) (h : I n s) :
    codeAny (model T.prog T.w) A (.compLoop (.ListComp elt [⟨target, iter, ifs, 0⟩] scope pos) 0 it acc env) R s := by
  refine codeAny_loop rfl I (fun n s hI => ?_) n h
  show wpAny _ A ((compTurn (.ListComp elt [⟨target, iter, ifs, 0⟩] scope pos) 0 it acc env).onRaise (fun x => do noteFrame x env; theTreesLotGoes x)) _ _ s
  refine wpAny_noted ?_
  rw [compTurn_list]
  refine wpAny_bind (wpAny_standAt (wpAny_bind (wpAny_mono (turn n s hI) (fun r s₁ h₁ => ?_) fun _ _ h' => h')))
  cases r with
  | none => exact wpAny_pure h₁
  | some v =>
    refine wpAny_bind (wpAny_mono h₁ (fun _ s₁' h₁' => ?_) fun _ _ h' => h')
    refine wpAny_bind (wpAny_mono h₁' (fun _ s₂ h₂ => wpAny_bind (wpAny_mono h₂ (fun ok s₃ h₃ => ?_) fun _ _ h' => h')) fun _ _ h' => h')
    cases ok with
    | false => exact wpAny_pure ⟨rfl, h₃⟩
    | true => exact wpAny_bind (wpAny_bind (wpAny_mono h₃ (fun x s₄ h₄ => wpAny_bind (wpAny_mono h₄ (fun _ s₅ h₅ => wpAny_pure (wpAny_pure ⟨rfl, h₅⟩)) fun _ _ h' => h')) fun _ _ h' => h'))

theorem PvOk.comp {elt target iter : Expr} {ifs : List Expr} {scope : Scope} {pos : Pos} {slots : List Slot} {cl : List (Str × Addr)} {base n : Nat} {p : S → Option (List D)} {a : V → S → Option S} {t : S → Option Bool} {pe : S → Option D}
    (hp : ItOk T A Φ iter p) (hclos : closureFor scope Φ.env = pure cl) (hcell : ∀ y ∈ scope.names, y.2 ≠ .cell) (hkind : scope.kind = .function)
    (hnames : ∀ y ∈ scope.names, y.2 = .local → scope.names.lookup y.1 = some .local) (hs : ∀ x, foldedSetIterable iter Φ.env x = pure x)
    (hsl : ∀ (i : Nat) s, slots[i]? = some s → (∃ nm, s = .loc nm ∧ base ≤ i) ∨ (∃ nm c, s = .rc nm c ∧ CellAt Φ i nm c) ∨ s = .no)
    (hF : ∀ C D, (∀ i nm c, CellAt Φ i nm c → c ≠ C) → FOk (compFI Φ slots scope cl C D))
    (ha : ∀ C D, FOk (compFI Φ slots scope cl C D) → CtOk T A (compFI Φ slots scope cl C D) target a)
    (ht : ∀ C D, FOk (compFI Φ slots scope cl C D) → IfsOk T A (compFI Φ slots scope cl C D) ifs t)
    (he : ∀ C D, FOk (compFI Φ slots scope cl C D) → PvOk T A (compFI Φ slots scope cl C D) elt pe) :
    PvOk T A Φ (.ListComp elt [⟨target, iter, ifs, 0⟩] scope pos) (compP base n p a t pe) := by
  intro σ d as s Q E h x k
  unfold compP at h
  cases hds : p σ with
  | none => rw [hds] at h; cases h
  | some ds =>
  rw [hds, Option.bind_some] at h
  split at h
  case isFalse => cases h
  rename_i hz
  cases hgo : compGo a t pe ds ⟨compVars base n σ.vars, σ.heap, σ.heap.length⟩ with
  | none => rw [hgo] at h; cases h
  | some xs =>
  rw [hgo] at h
  cases h
  rw [eval_ListComp]
  refine wpAny_comprehension_free (use := none) rfl hs hclos hkind hnames (hp σ ds as s _ E hds x fun I fp wr m P W h₁ t₁ e₁ hW hNO hm hw0 hfp hIfp hwr hP => ?_)
  have x₁ := x.ext e₁
  refine wpAny_newObj_type (wpAny_newFunctionEnv hcell (by intro y hy; simp at hy) (fun h₂ hns hsb => ?_) hkind)
  dsimp only at hns hsb ⊢
  generalize hD : h₁.objs.size = D at hns hsb ⊢
  generalize hH : h₁.push { cls := .type "list", dict := none, data := .seq ([] : List Value).toArray } = H at hns hsb ⊢
  have hC : H.objs.size = D + 1 := by rw [← hH, Heap.size_push, hD]
  generalize H.objs.size = C at hns hsb hC ⊢
  have eH : Ext h₁ H := hH ▸ Ext.push _ _
  have hDnone : h₁.get? D = none := hD ▸ get?_size _
  have hCnone : h₁.get? C = none := by
    cases q : h₁.get? C with
    | none => rfl
    | some o => exact absurd (Heap.lt_size q) (by rw [hD, hC]; exact Nat.not_lt.mpr (Nat.le_succ _))
  have hDC : D ≠ C := by rw [hC]; exact Nat.ne_of_lt (Nat.lt_succ_self _)
  have eC : ∀ b o, b ≠ C → H.get? b = some o → h₂.get? b = some o := fun b o hb e => (hsb.2 b hb).trans (Heap.get?_push_of_some _ e)
  have e₂ : Ext h₁ h₂ := fun b o e => eC b o (by rintro rfl; rw [hCnone] at e; cases e) (eH b o e)
  have hDobj : h₂.get? D = some (lstObj [] 0) := eC D _ hDC (by rw [← hH, ← hD]; exact Heap.get?_push_size _ rfl)
  have x₂ := x₁.ext e₂
  have cne : ∀ i nm c, CellAt Φ i nm c → c ≠ C := fun i nm c hi => by
    obtain ⟨ov, ⟨o, ho, _⟩, _⟩ := x₁.cel i nm c hi
    rintro rfl; rw [hCnone] at ho; cases ho
  have FC := hF C D cne
  have hC0 : T.h₀.get? C = none := by
    cases q : T.h₀.get? C with
    | none => rfl
    | some o => rw [x₁.keep C o q] at hCnone; cases hCnone
  have hD0 : T.h₀.get? D = none := by
    cases q : T.h₀.get? D with
    | none => rfl
    | some o => rw [x₁.keep D o q] at hDnone; cases hDnone
  have hI0 : T.h₀.get? I = none := by
    cases q : T.h₀.get? I with
    | none => rfl
    | some o => have := x.keep I o q; rw [hwr.1] at this; cases this
  have there : ∀ {b : Addr}, Φ.Ex as σ.heap b → ∃ o, h₁.get? b = some o := fun {b} q => q.elim (x₁.xs b) (live_kind x₁)
  have hlC : ¬ Live 0 as σ.heap C := fun q => by obtain ⟨o, ho⟩ := there (.inr q); rw [hCnone] at ho; cases ho
  have hlD : ¬ Live 0 as σ.heap D := fun q => by obtain ⟨o, ho⟩ := there (.inr q); rw [hDnone] at ho; cases ho
  have hXC : ¬ Φ.X C := fun q => by obtain ⟨o, ho⟩ := there (.inl q); rw [hCnone] at ho; cases ho
  obtain ⟨oI, vI, hoI, hdI, _⟩ := hNO 0 h₁ hw0
  have hID : I ≠ D := by rintro rfl; rw [hDnone] at hoI; cases hoI
  have hIC : I ≠ C := by rintro rfl; rw [hCnone] at hoI; cases hoI
  have hXI : ¬ Φ.X I := fun q => by obtain ⟨o, ho⟩ := x.xs I q; rw [hwr.1] at ho; cases ho
  have hlI : ¬ Live 0 as σ.heap I := fun q => (hfp I hIfp).2 (.inr (.inr q))
  have hfpC : ∀ b ∈ fp, b ≠ C ∧ b ≠ D := fun b hb => by
    obtain ⟨⟨o, ho⟩, _⟩ := hfp b hb
    exact ⟨(by rintro rfl; rw [hCnone] at ho; cases ho), (by rintro rfl; rw [hDnone] at ho; cases ho)⟩
  let Ψ := compFI Φ slots scope cl C D
  have noC : ∀ (i : Nat) nm c, slots[i]? ≠ some (.cell nm c) := fun i nm c q => by
    rcases hsl i _ q with ⟨_, e, _⟩ | ⟨_, _, e, _⟩ | e <;> cases e
  have own0 : ∀ b, Ψ.Own 0 as σ.heap b → b = C ∨ Live 0 as σ.heap b := fun b q => by
    rcases q with q | ⟨i, nm, q⟩ | q
    · exact .inl q
    · exact absurd q (noC i nm b)
    · exact .inr q
  have hEx : ∀ {b : Addr} {o : Obj}, h₁.get? b = some o → ¬ Φ.Ex as σ.heap b → ¬ Ψ.Ex as σ.heap b := fun {b o} ho nb q => by
    rcases q with (q | q) | q
    · exact nb (.inl q)
    · subst q; rw [hDnone] at ho; cases ho
    · exact nb (.inr q)
  have KS : KeepSeq (Φ.Ex as σ.heap) h₁ (Ψ.Ex as σ.heap) h₂ := fun b o nb ho _ => ⟨e₂ b o ho, hEx ho nb⟩
  have sC : VL T.h₀ Ψ as ⟨compVars base n σ.vars, σ.heap, σ.heap.length⟩ h₂ := by
    refine ⟨⟨x₂.keep, x₂.len, ⟨_, hns, fun i nm v hi hv => ?_⟩, fun i nm c hi => ?_, fun j q c hj hc => ?_, fun b hb => ?_, fun b hb => ?_⟩, hC0, hlC, ?_⟩
    · obtain ⟨hlt, _⟩ := compVars_get hv
      rcases hsl i _ hi with ⟨_, _, hle⟩ | ⟨_, _, e, _⟩ | e
      · (first | lia | omega)
      · cases e
      · cases e
    · rcases hi with hi | hi
      · exact absurd hi (noC i nm c)
      · rcases hsl i _ hi with ⟨_, e, _⟩ | ⟨nm', c', e, hc'⟩ | e
        · cases e
        · cases e
          obtain ⟨ov, hcell', hl⟩ := x₁.cel i nm c hc'
          refine ⟨ov, hcell'.keeps e₂, fun v hv => ?_⟩
          obtain ⟨u, hu, r⟩ := hl v (compVars_get hv).2
          exact ⟨u, hu, r.keep0 KS⟩
        · cases e
    · exact (x₁.led j q c hj hc).keep KS fun b o _ ho => e₂ b o ho
    · rcases hb with hb | rfl
      · exact x₂.xs b hb
      · exact ⟨_, hDobj⟩
    · rcases hb with (hb | rfl) | hb
      · exact x₂.ex0 b (.inl hb)
      · exact hD0
      · exact x₂.ex0 b (.inr hb)
    · rintro (q | q)
      · exact hXC q
      · exact hDC q.symm
  -- what stands at each turn
  let J : Nat → Shared → Prop := fun kk s' => ∃ i σ₁ h' t' vs c', s' = { s with heap := h', toks := t' } ∧ i ≤ m ∧ kk = m - i ∧ VL T.h₀ Ψ as σ₁ h' ∧ σ₁.heap = σ.heap ∧ W i h' ∧ (∀ b o, b ≠ I → b ≠ C → b ≠ D → h₁.get? b = some o → h'.get? b = some o) ∧
    h'.get? D = some (lstObj vs c') ∧ (∃ done rest, compGo a t pe (ds.drop i) σ₁ = some rest ∧ xs = done ++ rest ∧ RepDs (Ψ.Ex as σ.heap) h' done vs ∧ done.length ≤ i) ∧
    (∀ b ∈ fp, (∃ o, h'.get? b = some o)) ∧ (∀ j v, j < m → P j v → ∃ d, ds[j]? = some d ∧ RepD (Ψ.Ex as σ.heap) h' d v)
  have hJ0 : ∀ t', J m { s with heap := h₂, toks := t' } := fun t' => ⟨0, _, h₂, t', [], 0, rfl, Nat.zero_le _, rfl, sC, rfl, hW.frame _ _ _ hw0 fun b _ o ho => e₂ b o ho, fun b o _ _ _ e => e₂ b o e, hDobj,
    ⟨[], xs, by simpa using hgo, rfl, rfl, Nat.le_refl _⟩, fun b hb => let ⟨⟨o, ho⟩, _⟩ := hfp b hb; ⟨o, e₂ b o ho⟩, fun j v hj hp => let ⟨d, hd, r⟩ := hP j v hj hp; ⟨d, hd, r.keep KS⟩⟩
  have loop : ∀ kk s', J kk s' → codeAny (model T.prog T.w) A (.compLoop (.ListComp elt [⟨target, iter, ifs, 0⟩] scope pos) 0 (.ref I) (.ref D) Ψ.env) (compPost (model T.prog T.w) A E none Q (.ref D) C) s' := by
    intro kk s' hJ
    refine codeAny_compLoop_testsX J (fun k' s₁ hJ₁ => ?_) kk hJ
    obtain ⟨i, σ₁, h', t', vs, c', rfl, hi, rfl, x', hheap, hw, hk, hDo, ⟨done, rest, hg, hxs, hr, hdl⟩, hfp', hP'⟩ := hJ₁
    have hIo : ∃ o vs, h'.get? I = some o ∧ o.data = .fields vs := let ⟨o, vs, ho, hd, _⟩ := hNO i h' hw; ⟨o, vs, ho, hd⟩
    have nI : ¬ Ψ.Own 0 as σ₁.heap I := fun q => by rw [hheap] at q; exact (own0 I q).elim hIC hlI
    have nX : ¬ Ψ.X I := fun q => q.elim hXI hID
    have hex : ∀ N : Addr → Prop, (∀ b, Ψ.Ex as σ₁.heap b ↔ Ψ.Ex as σ.heap b) := fun _ b => by rw [hheap]
    by_cases hlt : i < m
    · refine hW.item i _ _ _ hlt hw fun v h₃ t₃ hPv hw₃ hk₃ => ?_
      have hk₃' : ∀ b o, b ≠ I → h'.get? b = some o → h₃.get? b = some o := fun b o hb => hk₃ b o fun hm => hb (hwr.2 b hm)
      have x₃ : VL T.h₀ Ψ as σ₁ h₃ := ⟨x'.toView.change hk₃' hIo nI nX hI0, x'.l0, x'.lL, x'.lX⟩
      have KS₃ : ∀ N : Addr → Prop, KeepSeq N h' N h₃ := fun N => iter_keepSeq hk₃' hIo
      obtain ⟨dv, hdv, rdv⟩ := hP' i v hlt hPv
      have hdrop : ds.drop i = dv :: ds.drop (i + 1) := by
        obtain ⟨hlt', e⟩ := List.getElem?_eq_some_iff.mp hdv
        rw [List.drop_eq_getElem_cons hlt', e]
      rw [hdrop] at hg
      unfold compGo at hg
      cases hq : a (.d dv) σ₁ with
      | none => rw [hq] at hg; cases hg
      | some σ₂ =>
      rw [hq, Option.bind_some] at hg
      cases hb : t σ₂ with
      | none => rw [hb] at hg; cases hg
      | some b =>
      rw [hb, Option.bind_some] at hg
      refine (hNO _ h₃ hw₃).letGo (s := { s with heap := h₃, toks := t₃ }) ?_
      refine ha C D FC dv v σ₁ σ₂ as { s with heap := h₃, toks := t₃ } _ _ hq x₃ (by rw [hheap]; exact rdv.keep (KS₃ _)) fun h₄ t₄ hk₄ he₄ KS₄ x₄ => ?_
      have hheap₂ : σ₂.heap = σ.heap := he₄.trans hheap
      rw [hheap] at KS₄
      refine ht C D FC σ₂ b as { s with heap := h₄, toks := t₄ } _ _ hb x₄.toView fun h₅ t₅ e₅ => ?_
      have hk₅ : ∀ b o, b ≠ I → b ≠ C → h'.get? b = some o → h₅.get? b = some o := fun b o hb hc q => e₅ b o (hk₄ b o hc (hk₃' b o hb q))
      have w₅ : W (i + 1) h₅ := hW.frame _ _ _ hw₃ fun b hb o ho => e₅ b o (hk₄ b o (hfpC b hb).1 ho)
      have KS₅ : KeepSeq (Ψ.Ex as σ.heap) h' (Ψ.Ex as σ.heap) h₅ := fun a o na ho hq =>
        let ⟨p1, p2⟩ := KS₃ _ a o na ho hq
        let ⟨q1, q2⟩ := KS₄ a o p2 p1 hq
        ⟨e₅ a o q1, q2⟩
      have hD₅ : h₅.get? D = some (lstObj vs c') := hk₅ D _ hID.symm hDC hDo
      have fp₅ : ∀ b ∈ fp, ∃ o, h₅.get? b = some o := fun b hb => by
        by_cases e : b = I
        · subst e
          obtain ⟨o, _, ho, _⟩ := hNO _ h₅ w₅
          exact ⟨o, ho⟩
        · obtain ⟨o, ho⟩ := hfp' b hb
          exact ⟨o, hk₅ b o e (hfpC b hb).1 ho⟩
      cases b with
      | false =>
        simp only [Bool.false_eq_true, if_false] at hg ⊢
        exact ⟨m - (i + 1), by (first | lia | omega), i + 1, σ₂, h₅, t₅, vs, c', rfl, by (first | lia | omega), rfl, x₄.ext e₅, hheap₂, w₅, fun b o hb hc hd q => hk₅ b o hb hc (hk b o hb hc hd q), hD₅, ⟨done, rest, hg, hxs, hr.keep KS₅, by (first | lia | omega)⟩, fp₅,
          fun j v hj hp => let ⟨d, hd, r⟩ := hP' j v hj hp; ⟨d, hd, r.keep KS₅⟩⟩
      | true =>
        simp only [if_true] at hg ⊢
        cases hp' : pe σ₂ with
        | none => rw [hp'] at hg; cases hg
        | some xv =>
        rw [hp', Option.bind_some] at hg
        cases hg' : compGo a t pe (ds.drop (i + 1)) σ₂ with
        | none => rw [hg'] at hg; cases hg
        | some rest' =>
        rw [hg'] at hg
        cases hg
        refine he C D FC σ₂ xv as { s with heap := h₅, toks := t₅ } _ _ hp' (x₄.ext e₅).toView fun u h₆ t₆ e₆ r₆ => ?_
        rw [hheap₂] at r₆
        have hD₆ : h₆.PlainList D vs.toArray := ⟨c', e₆ D _ hD₅⟩
        have hvs : vs.length = done.length := hr.length
        refine wpAny_list_append_plain (s := { s with heap := h₆, toks := t₆ }) hD₆ (fun h₇ hl₇ hs₇ => ?_) (by rw [List.size_toArray, sizeLine_eq, hvs]; (first | lia | omega))
        replace hs₇ : Heap.SameBut D h₆ h₇ := hs₇
        obtain ⟨c₇, hD₇⟩ := hl₇
        have hD₇' : h₇.get? D = some (lstObj (vs ++ [u]) c₇) := by rw [hD₇]; simp
        have exD : Ψ.Ex as σ.heap D := .inl (.inr rfl)
        have KS₇ : KeepSeq (Ψ.Ex as σ.heap) h₆ (Ψ.Ex as σ.heap) h₇ := fun a o na ho _ => ⟨(hs₇.2 a (fun e => na (e ▸ exD))).trans ho, na⟩
        have KS₅₇ : KeepSeq (Ψ.Ex as σ.heap) h₅ (Ψ.Ex as σ.heap) h₇ := fun a o na ho hq => KS₇ a o na (e₆ a o ho) hq
        have KSall : KeepSeq (Ψ.Ex as σ.heap) h' (Ψ.Ex as σ.heap) h₇ := fun a o na ho hq => let ⟨p1, p2⟩ := KS₅ a o na ho hq; KS₅₇ a o p2 p1 hq
        have k₇ : ∀ b o, b ≠ I → b ≠ C → b ≠ D → h'.get? b = some o → h₇.get? b = some o := fun b o hb hc hd q => (hs₇.2 b hd).trans (e₆ b o (hk₅ b o hb hc q))
        have w₇ : W (i + 1) h₇ := hW.frame _ _ _ w₅ fun b hb o ho => (hs₇.2 b (hfpC b hb).2).trans (e₆ b o ho)
        have nOD : ¬ Ψ.Own 0 as σ₂.heap D := fun q => by rw [hheap₂] at q; exact (own0 D q).elim hDC hlD
        have x₆ := (x₄.ext e₅).ext e₆
        have x₇ : VL T.h₀ Ψ as σ₂ h₇ := ⟨x₆.toView.changeX hs₇ (.inr rfl) nOD ⟨_, _, _, e₆ D _ hD₅, rfl⟩ ⟨_, hD₇⟩, x₆.l0, x₆.lL, x₆.lX⟩
        refine ⟨m - (i + 1), by (first | lia | omega), i + 1, σ₂, h₇, t₆, vs ++ [u], c₇, rfl, by (first | lia | omega), rfl, x₇, hheap₂, w₇, fun b o hb hc hd q => k₇ b o hb hc hd (hk b o hb hc hd q), hD₇', ⟨done ++ [xv], rest', hg', by rw [hxs]; simp, ?_, by simp; (first | lia | omega)⟩, fun b hb => ?_,
          fun j v hj hp => let ⟨d, hd, r⟩ := hP' j v hj hp; ⟨d, hd, r.keep KSall⟩⟩
        · exact (hr.keep KSall).append ⟨u, [], rfl, r₆.keep KS₇, rfl⟩
        · obtain ⟨o, ho⟩ := fp₅ b hb
          exact ⟨o, (hs₇.2 b (hfpC b hb).2).trans (e₆ b o ho)⟩
    · have hin : i = m := by (first | lia | omega)
      subst hin
      refine hW.done _ _ _ hw fun h₃ t₃ hk₃ => ?_
      have hk₃' : ∀ b o, b ≠ I → h'.get? b = some o → h₃.get? b = some o := fun b o hb => hk₃ b o fun hm => hb (hwr.2 b hm)
      rw [hm, List.drop_length] at hg
      cases hg
      rw [List.append_nil] at hxs
      subst hxs
      obtain ⟨mm, hmm, _⟩ := x'.loc
      have hmm' : h'.Ns C mm := hmm
      refine ⟨mm, hmm'.at' fun o q => hk₃' C o hIC.symm q, fun h₄ hs₄ => ?_⟩
      have k₄ : ∀ b o, b ≠ I → b ≠ C → h'.get? b = some o → h₄.get? b = some o := fun b o hb hc q => (hs₄.2 b hc).trans (hk₃' b o hb q)
      refine k _ h₄ t₃ (fun b o q => ?_) ⟨D, vs, c', rfl, fun q => ?_, k₄ D _ hID.symm hDC hDo, hr.keep fun a o na ho hq => ⟨k₄ a o ?_ ?_ ho, fun q => na ?_⟩⟩
      · have hbI : b ≠ I := by rintro rfl; rw [hwr.1] at q; cases q
        have q₁ := e₁ b o q
        have hbC : b ≠ C := by rintro rfl; rw [hCnone] at q₁; cases q₁
        have hbD : b ≠ D := by rintro rfl; rw [hDnone] at q₁; cases q₁
        exact k₄ b o hbI hbC (hk b o hbI hbC hbD q₁)
      · obtain ⟨o, ho⟩ := there q; rw [hDnone] at ho; cases ho
      · rintro rfl
        obtain ⟨o', vs', ho', hd'⟩ := hIo
        rw [ho] at ho'; cases ho'
        obtain ⟨_, _, rfl | rfl⟩ := hq <;> cases hd'
      · rintro rfl; exact tup_not_ns hmm' ho hq
      · exact q.elim (fun q => .inl (.inl q)) .inr
  refine codeAny_compStart_list (loop m _ (hJ0 _)) ?_
  exact hW.self 0 _ _ _ (hW.frame _ _ _ hw0 fun b _ o ho => e₂ b o ho) (loop m _ (hJ0 _))
end
end Mine
end
section
namespace Mine
open PySem PySem.W PyProof.Rows PySem.Calls PySem.SeqAt

section
variable {T : TI} {A : Around} {Φ : FI}

theorem isStr_str (n m : Str) (t : Tok) : (Value.str n t).isStr m = (n == m) := rfl
theorem Keys.noRef : ∀ {ns : List Str} {es : List DictEntry}, Keys ns es → es.any (·.refKey) = false
  | _, [], _ => by simp
  | n :: ns, e :: es, ⟨⟨t, h⟩, K⟩ => by
    rw [List.any_cons, Keys.noRef K]
    unfold DictEntry.refKey; rw [h]; rfl
theorem Keys.find_not : ∀ {ns : List Str} {es : List DictEntry} {name : Str}, Keys ns es → name ∉ ns → es.find? (·.key.isStr name) = none
  | _, [], _, _, _ => rfl
  | n :: ns, e :: es, name, ⟨⟨t, h⟩, K⟩, hn => by
    have h1 : e.key.isStr name = false := by
      rw [h, isStr_str]
      exact beq_eq_false_iff_ne.mpr fun q => hn (q ▸ List.mem_cons_self)
    rw [List.find?_cons, h1]
    exact Keys.find_not K fun q => hn (List.mem_cons_of_mem _ q)
theorem Keys.find_at : ∀ {ns : List Str} {es : List DictEntry} {name : Str} {k : Nat}, ns.Nodup → Keys ns es → ns[k]? = some name → es.find? (·.key.isStr name) = es[k]?
  | _, [], _, _, _, _, _ => by simp
  | n :: ns, e :: es, name, 0, nd, ⟨⟨t, h⟩, K⟩, hk => by
    simp only [List.getElem?_cons_zero, Option.some.injEq] at hk
    subst hk
    have h1 : e.key.isStr n = true := by rw [h, isStr_str]; exact beq_self_eq_true _
    rw [List.find?_cons, h1]; rfl
  | n :: ns, e :: es, name, k + 1, nd, ⟨⟨t, h⟩, K⟩, hk => by
    rw [List.nodup_cons] at nd
    simp only [List.getElem?_cons_succ] at hk
    have h1 : e.key.isStr name = false := by
      rw [h, isStr_str]
      exact beq_eq_false_iff_ne.mpr fun q => nd.1 (q ▸ List.mem_of_getElem? hk)
    rw [List.find?_cons, h1]
    exact Keys.find_at nd.2 K hk
theorem Keys.getL_not {ns : List Str} {es : List DictEntry} {name : Str} (K : Keys ns es) (h : name ∉ ns) : getL name es = some none := by
  unfold getL; rw [K.find_not h, K.noRef]; rfl
theorem Keys.getL_at {ns : List Str} {es : List DictEntry} {name : Str} {k : Nat} (nd : ns.Nodup) (K : Keys ns es) (h : ns[k]? = some name) : getL name es = some (es[k]?.map (·.val)) := by
  unfold getL; rw [K.find_at nd h, K.noRef]
  cases es[k]? <;> rfl
theorem putL_at : ∀ {ns : List Str} {es : List DictEntry} {name : Str} {k : Nat} (hsh : Int) (t : Tok) (v : Value), ns.Nodup → Keys ns es → ns[k]? = some name → k ≤ es.length →
    Keys ns (putL name hsh (.str name t) v es) ∧ (putL name hsh (.str name t) v es).map (·.val) = if k < es.length then (es.map (·.val)).set k v else es.map (·.val) ++ [v]
  | [], _, _, _, _, _, _, _, _, h, _ => by simp at h
  | n :: ns, [], name, k, hsh, t, v, nd, K, h, hk => by
    have : k = 0 := by simpa using hk
    subst this
    simp only [List.getElem?_cons_zero, Option.some.injEq] at h
    subst h
    exact ⟨⟨⟨t, rfl⟩, by cases ns <;> trivial⟩, rfl⟩
  | n :: ns, e :: es, name, 0, hsh, t, v, nd, ⟨⟨t', h'⟩, K⟩, h, hk => by
    simp only [List.getElem?_cons_zero, Option.some.injEq] at h
    subst h
    have h1 : e.key.isStr n = true := by rw [h', isStr_str]; exact beq_self_eq_true _
    unfold putL
    rw [if_pos h1]
    exact ⟨⟨⟨t', h'⟩, K⟩, by simp⟩
  | n :: ns, e :: es, name, k + 1, hsh, t, v, nd, ⟨⟨t', h'⟩, K⟩, h, hk => by
    rw [List.nodup_cons] at nd
    simp only [List.getElem?_cons_succ] at h
    have h1 : ¬ e.key.isStr name = true := by
      rw [h', isStr_str]
      exact Bool.eq_false_iff.mp (beq_eq_false_iff_ne.mpr fun q => nd.1 (q ▸ List.mem_of_getElem? h))
    unfold putL
    rw [if_neg h1]
    obtain ⟨q1, q2⟩ := putL_at hsh t v nd.2 K h (by simpa using hk)
    refine ⟨⟨⟨t', h'⟩, q1⟩, ?_⟩
    rw [List.map_cons, q2]
    simp only [List.length_cons, Nat.add_lt_add_iff_right, List.map_cons]
    split <;> simp
theorem Keys.length : ∀ {ns : List Str} {es : List DictEntry}, Keys ns es → es.length ≤ ns.length
  | _, [], _ => Nat.zero_le _
  | n :: ns, e :: es, ⟨_, K⟩ => by simpa using K.length
theorem attr_nodup : attrNames.Nodup := by unfold attrNames; decide

noncomputable def S.setCell (σ : S) (k : Nat) (c : Cell) : S := { σ with heap := σ.heap.set k c }
noncomputable def S.addCell (σ : S) (c : Cell) : S := { σ with heap := σ.heap ++ [c] }
theorem live_set {n k : Nat} {as : List (Addr × Addr)} {hp : List Cell} {p : Addr × Addr} {c c' : Cell} {a b : Addr} (hpk : as[k]? = some p) (hc : hp[k]? = some c) (hl : liveAt p c = some a) (hl' : liveAt p c' = some a) :
    Live n as (hp.set k c') b ↔ Live n as hp b := by
  have hlt : k < hp.length := (List.getElem?_eq_some_iff.mp hc).1
  constructor
  · rintro ⟨j, hj, q, d, hq, hd, e⟩
    rw [List.getElem?_set] at hd
    split at hd
    · rename_i hkj; subst hkj
      cases hd
      rw [hpk] at hq; cases hq
      exact ⟨k, hj, p, c, hpk, hc, by rw [hl, ← hl', e]⟩
    · exact ⟨j, hj, q, d, hq, hd, e⟩
  · rintro ⟨j, hj, q, d, hq, hd, e⟩
    by_cases hkj : k = j
    · subst hkj
      rw [hpk] at hq; cases hq
      rw [hc] at hd; cases hd
      exact ⟨k, hj, p, c', hpk, by rw [List.getElem?_set_self hlt], by rw [hl', ← hl, e]⟩
    · exact ⟨j, hj, q, d, hq, by rw [List.getElem?_set_ne hkj]; exact hd, e⟩
theorem liveK_set {k j : Nat} {as : List (Addr × Addr)} {hp : List Cell} {p : Addr × Addr} {c c' : Cell} {a b : Addr} (hpk : as[k]? = some p) (hc : hp[k]? = some c) (hl : liveAt p c = some a) (hl' : liveAt p c' = some a) :
    LiveK as (hp.set k c') j b → LiveK as hp j b := by
  have hlt : k < hp.length := (List.getElem?_eq_some_iff.mp hc).1
  rintro ⟨q, d, hq, hd, e⟩
  rw [List.getElem?_set] at hd
  split at hd
  · rename_i hkj; subst hkj
    cases hd
    rw [hpk] at hq; cases hq
    exact ⟨p, c, hpk, hc, by rw [hl, ← hl', e]⟩
  · exact ⟨q, d, hq, hd, e⟩

theorem St.cell {as : List (Addr × Addr)} {σ : S} {h h' : Heap} {k : Nat} {p : Addr × Addr} {c c' : Cell} {a : Addr} (F : FOk Φ) (x : St T.h₀ Φ as σ h) (hp : as[k]? = some p) (hc : σ.heap[k]? = some c) (hl : liveAt p c = some a) (hl' : liveAt p c' = some a) (hk : σ.prot ≤ k)
    (hs : Heap.SameBut a h h') (ho : ∃ o, h'.get? a = some o) (hok : KeepSeq (Φ.Ex as σ.heap) h (Φ.Ex as σ.heap) h' → CellOk (Φ.Ex as σ.heap) h' p c') :
    Step Φ as σ h as (σ.setCell k c') h' ∧ St T.h₀ Φ as (σ.setCell k c') h' := by
  have L := fun n b => live_set (n := n) (b := b) hp hc hl hl'
  have hEx : Φ.Ex as (σ.setCell k c').heap = Φ.Ex as σ.heap := by
    funext b; exact propext (or_congr Iff.rfl (L 0 b))
  have la : LiveK as σ.heap k a := ⟨p, c, hp, hc, hl⟩
  have l0 : Live 0 as σ.heap a := ⟨k, Nat.zero_le _, la⟩
  have KS : KeepSeq (Φ.Ex as σ.heap) h (Φ.Ex as σ.heap) h' := by
    intro b o nb hb hq
    have : b ≠ a := by rintro rfl; exact nb (.inr l0)
    exact ⟨(hs.2 b this).trans hb, nb⟩
  have own : Φ.Own σ.prot as σ.heap a := .inr (.inr ⟨k, hk, la⟩)
  have nL : a ≠ Φ.env.locals := (x.sepF a l0).1
  have hlt : k < σ.heap.length := (List.getElem?_eq_some_iff.mp hc).1
  refine ⟨⟨⟨[], by simp⟩, rfl, fun j d hj hd => ?_, fun b o nb e => (hs.2 b (fun q => nb (q ▸ own))).trans e, fun b q => .inl ((L 0 b).mp q), fun b q => .inl ((L _ b).mp q), let ⟨o, ho⟩ := ho; sameBut_ex hs ho⟩,
    ⟨⟨fun b o q => ?_, by rw [x.len]; simp [S.setCell], ?_, fun i n c₀ hi => ?_, fun j q d hq hd => ?_, fun b hb => ?_, by rw [hEx]; exact x.ex0⟩, fun j j' b h1 h2 => ?_, fun b hb => x.sepF b ((L 0 b).mp hb), fun b hb => ?_, fun b hb => ?_⟩⟩
  · show (σ.heap.set k c')[j]? = _
    rw [List.getElem?_set_ne (by (first | lia | omega))]; exact hd
  · have : b ≠ a := by rintro rfl; rw [x.fr0 _ (.inr (.inr l0))] at q; cases q
    exact (hs.2 b this).trans (x.keep b o q)
  · obtain ⟨m, hm, hl⟩ := x.loc
    refine ⟨m, hm.sameBut hs nL.symm, fun i n d hi hd => ?_⟩
    obtain ⟨v, hv, r⟩ := hl i n d hi hd
    rw [hEx]
    exact ⟨v, hv, r.keep0 KS⟩
  · obtain ⟨ov, hcl, hv⟩ := x.cel i n c₀ hi
    have : c₀ ≠ a := by
      rintro rfl
      obtain ⟨o', q, hd'⟩ := hcl
      have := x.led k p c hp hc
      cases c with
      | list xs => obtain ⟨vs, n, ho', _⟩ := this; cases hl; rw [q] at ho'; cases ho'; cases hd'
      | inst C at' => obtain ⟨_, _, _, ho', _⟩ := this; cases hl; rw [q] at ho'; cases ho'; cases hd'
      | dead => cases hl
    refine ⟨ov, hcl.sameBut hs this, fun d hd => ?_⟩
    obtain ⟨v, h1, r⟩ := hv d hd
    rw [hEx]
    exact ⟨v, h1, r.keep0 KS⟩
  · rw [hEx]
    change (σ.heap.set k c')[j]? = _ at hd
    rw [List.getElem?_set] at hd
    split at hd
    · rename_i hkj; subst hkj
      cases hd
      rw [hp] at hq; cases hq
      exact hok KS
    · rename_i hkj
      have hcj := x.led j q d hq hd
      by_cases hdd : d = .dead
      · subst hdd; trivial
      refine hcj.keep KS fun b o hb e => ?_
      have : b ≠ a := by
        intro hba
        rcases hb with hb | hb
        · rw [hba] at hb; exact hkj (x.sepL k j a la ⟨q, d, hq, hd, hb⟩)
        · have hqa : q.1 = a := hb.symm.trans hba
          cases d with
          | list xs => exact hkj (x.sepL k j a la ⟨q, _, hq, hd, congrArg some hqa⟩)
          | dead => exact hdd rfl
          | inst C at' =>
            have h1 := hcj.1
            rw [hqa] at h1
            have := x.led k p c hp hc
            cases c with
            | list xs => obtain ⟨vs, n, ho', _⟩ := this; cases hl; rw [h1] at ho'; cases ho'
            | inst C at' => obtain ⟨_, _, _, ho', _⟩ := this; cases hl; rw [h1] at ho'; cases ho'
            | dead => cases hl
      exact (hs.2 b this).trans e
  · obtain ⟨o', q⟩ := x.xs b hb
    have : b ≠ a := by rintro rfl; exact x.sepX _ (.inr (.inr l0)) hb
    exact ⟨o', (hs.2 b this).trans q⟩
  · exact x.sepL j j' b (liveK_set hp hc hl hl' h1) (liveK_set hp hc hl hl' h2)
  · exact x.fr0 b (hb.imp id (Or.imp id (L 0 b).mp))
  · exact x.sepX b (hb.imp id (Or.imp id (L 0 b).mp))
end
end Mine
end
section
namespace Mine
open PySem PySem.W PyProof.Rows PySem.Calls PySem.SeqAt

section
variable {T : TI} {A : Around} {Φ : FI}

theorem liveK_push {as : List (Addr × Addr)} {hp : List Cell} {p : Addr × Addr} {c : Cell} {k : Nat} {a : Addr} (hlen : as.length = hp.length) : LiveK (as ++ [p]) (hp ++ [c]) k a ↔ LiveK as hp k a ∨ (k = as.length ∧ liveAt p c = some a) := by
  constructor
  · rintro ⟨q, d, hq, hd, e⟩
    by_cases hk : k < as.length
    · rw [List.getElem?_append_left hk] at hq
      rw [List.getElem?_append_left (by (first | lia | omega))] at hd
      exact .inl ⟨q, d, hq, hd, e⟩
    · have hlt := (List.getElem?_eq_some_iff.mp hq).1
      simp only [List.length_append, List.length_cons, List.length_nil] at hlt
      have hk' : k = as.length := by (first | lia | omega)
      subst hk'
      rw [List.getElem?_append_right (Nat.le_refl _)] at hq
      rw [List.getElem?_append_right (by (first | lia | omega))] at hd
      simp only [Nat.sub_self, List.getElem?_cons_zero, Option.some.injEq] at hq
      rw [← hlen] at hd
      simp only [hlen, Nat.sub_self, List.getElem?_cons_zero, Option.some.injEq] at hd
      subst hq
      have hd' : c = d := by simpa [hlen] using hd
      subst hd'
      exact .inr ⟨rfl, e⟩
  · rintro (⟨q, d, hq, hd, e⟩ | ⟨rfl, e⟩)
    · have h1 := (List.getElem?_eq_some_iff.mp hq).1
      exact ⟨q, d, by rw [List.getElem?_append_left h1]; exact hq, by rw [List.getElem?_append_left (by (first | lia | omega))]; exact hd, e⟩
    · exact ⟨p, c, by simp, by rw [hlen]; simp, e⟩
theorem live_push {as : List (Addr × Addr)} {hp : List Cell} {p : Addr × Addr} {c : Cell} {n : Nat} {a : Addr} (hlen : as.length = hp.length) : Live n (as ++ [p]) (hp ++ [c]) a ↔ Live n as hp a ∨ (n ≤ as.length ∧ liveAt p c = some a) := by
  constructor
  · rintro ⟨k, hk, q⟩
    rcases (liveK_push hlen).mp q with q1 | ⟨e1, q1⟩
    · exact .inl ⟨k, hk, q1⟩
    · exact .inr ⟨e1 ▸ hk, q1⟩
  · rintro (⟨k, hk, q⟩ | ⟨hk, q⟩)
    · exact ⟨k, hk, (liveK_push hlen).mpr (.inl q)⟩
    · exact ⟨as.length, hk, (liveK_push hlen).mpr (.inr ⟨rfl, q⟩)⟩

theorem St.push {as : List (Addr × Addr)} {σ : S} {h h' : Heap} {p : Addr × Addr} {c : Cell} (x : St T.h₀ Φ as σ h) (e : Ext h h') (hf : ∀ a, liveAt p c = some a → h.get? a = none)
    (hok : KeepSeq (Φ.Ex as σ.heap) h (Φ.Ex (as ++ [p]) (σ.addCell c).heap) h' → CellOk (Φ.Ex (as ++ [p]) (σ.addCell c).heap) h' p c) :
    Step Φ as σ h (as ++ [p]) (σ.addCell c) h' ∧ St T.h₀ Φ (as ++ [p]) (σ.addCell c) h' := by
  have KS : KeepSeq (Φ.Ex as σ.heap) h (Φ.Ex (as ++ [p]) (σ.addCell c).heap) h' := by
    intro b o nb hb _
    refine ⟨e b o hb, ?_⟩
    rintro (q | q)
    · exact nb (.inl q)
    · rcases (live_push x.len).mp q with q | ⟨_, q⟩
      · exact nb (.inr q)
      · rw [hf b q] at hb; cases hb
  have f0 : ∀ a, liveAt p c = some a → T.h₀.get? a = none := fun a ha => by
    cases q : T.h₀.get? a with
    | none => rfl
    | some o => have := x.keep a o q; rw [hf a ha] at this; cases this
  have none' : ∀ b, h'.get? b = none → h.get? b = none := fun b hb => by
    cases q : h.get? b with
    | none => rfl
    | some o => rw [e b o q] at hb; cases hb
  have hloc : ∃ o, h.get? Φ.env.locals = some o := let ⟨m, ⟨o, _, _, ho, _⟩, _⟩ := x.loc; ⟨o, ho⟩
  refine ⟨⟨⟨[p], rfl⟩, rfl, fun j d hj hd => ?_, fun b o nb q => e b o q, fun b q => ?_, fun b q => ?_, none'⟩,
    ⟨⟨fun b o q => e b o (x.keep b o q), by simp [S.addCell, x.len], ?_, fun i n c₀ hi => ?_, fun j q d hq hd => ?_, fun b hb => let ⟨o, ho⟩ := x.xs b hb; ⟨o, e b o ho⟩, fun b hb => ?_⟩, fun j j' b h1 h2 => ?_, fun b hb => ?_, fun b hb => ?_, fun b hb => ?_⟩⟩
  · show (σ.heap ++ [c])[j]? = _
    rw [List.getElem?_append_left (List.getElem?_eq_some_iff.mp hd).1]; exact hd
  · rcases (live_push x.len).mp q with q | ⟨_, q⟩
    · exact .inl q
    · exact .inr (hf b q)
  · rcases (live_push x.len).mp q with q | ⟨_, q⟩
    · exact .inl q
    · exact .inr (hf b q)
  · obtain ⟨m, hm, hl⟩ := x.loc
    exact ⟨m, hm.at' fun o q => e _ _ q, fun i n d hi hd => let ⟨v, hv, r⟩ := hl i n d hi hd; ⟨v, hv, r.keep KS [p]⟩⟩
  · obtain ⟨ov, hc, hl⟩ := x.cel i n c₀ hi
    exact ⟨ov, hc.keeps e, fun d hd => let ⟨v, hv, r⟩ := hl d hd; ⟨v, hv, r.keep KS [p]⟩⟩
  · change (σ.heap ++ [c])[j]? = _ at hd
    by_cases hj : j < as.length
    · rw [List.getElem?_append_left hj] at hq
      rw [List.getElem?_append_left (by rw [← x.len]; exact hj)] at hd
      exact (x.led j q d hq hd).keep KS fun a o _ q => e a o q
    · have hlt := (List.getElem?_eq_some_iff.mp hq).1
      simp only [List.length_append, List.length_cons, List.length_nil] at hlt
      have hk' : j = as.length := by (first | lia | omega)
      subst hk'
      have hq' : p = q := by simpa using hq
      have hd' : c = d := by rw [x.len] at hd; simpa using hd
      subst hq' hd'
      exact hok KS
  · rcases hb with q | q
    · exact x.ex0 b (.inl q)
    · rcases (live_push x.len).mp q with q | ⟨_, q⟩
      · exact x.ex0 b (.inr q)
      · exact f0 b q
  · rcases (liveK_push x.len).mp h1 with q1 | ⟨rfl, q1⟩ <;> rcases (liveK_push x.len).mp h2 with q2 | ⟨rfl, q2⟩
    · exact x.sepL j j' b q1 q2
    · obtain ⟨o, ho⟩ := live_kind x.toView ⟨j, Nat.zero_le _, q1⟩
      rw [hf b q2] at ho; cases ho
    · obtain ⟨o, ho⟩ := live_kind x.toView ⟨j', Nat.zero_le _, q2⟩
      rw [hf b q1] at ho; cases ho
    · rfl
  · rcases (live_push x.len).mp hb with q | ⟨_, q⟩
    · exact x.sepF b q
    · refine ⟨?_, ?_⟩
      · rintro rfl; obtain ⟨o, ho⟩ := hloc; rw [hf _ q] at ho; cases ho
      · rintro ⟨i, n, hi⟩
        obtain ⟨ov, ⟨o, ho, _⟩, _⟩ := x.cel i n b (.inl hi)
        rw [hf _ q] at ho; cases ho
  · rcases hb with q | q | q
    · exact x.fr0 b (.inl q)
    · exact x.fr0 b (.inr (.inl q))
    · rcases (live_push x.len).mp q with q | ⟨_, q⟩
      · exact x.fr0 b (.inr (.inr q))
      · exact f0 b q
  · rcases hb with q | q | q
    · exact x.sepX b (.inl q)
    · exact x.sepX b (.inr (.inl q))
    · rcases (live_push x.len).mp q with q | ⟨_, q⟩
      · exact x.sepX b (.inr (.inr q))
      · intro hX; obtain ⟨o, ho⟩ := x.xs b hX; rw [hf b q] at ho; cases ho

noncomputable def lnewF (ps : S → Option (List D)) (σ : S) : Option (V × S) := (ps σ).bind fun ds => if ds.length ≤ 1000 then some (.r σ.heap.length, σ.addCell (.list ds)) else none
theorem EvOk.listNew {es : List Expr} {pos : Pos} {ps : S → Option (List D)} (hp : PvsOk T A Φ es ps) : EvOk T A Φ (.List es pos) (lnewF ps) := by
  intro σ d σ' as s Q E h x k
  unfold lnewF at h
  cases hd : ps σ with
  | none => rw [hd] at h; cases h
  | some ds =>
    rw [hd, Option.bind_some] at h
    split at h
    case isFalse => cases h
    rename_i hl
    cases h
    refine wpAny_List (hp σ ds as s pos _ E hd x.toView fun vs h' tk e r => ⟨by rw [r.length, sizeLine_eq]; (first | lia | omega), ?_⟩)
    have e2 := Ext.push h' (lstObj vs 0)
    obtain ⟨st, x'⟩ := (x.ext e).push (p := (h'.objs.size, h'.objs.size)) (c := .list ds) e2 (fun a ha => by cases ha; exact get?_size _) fun KS => ⟨vs, 0, Heap.get?_push_size _ rfl, r.keep KS⟩
    exact k _ _ _ tk ((Step.ofExt e).trans st) x' ⟨(h'.objs.size, h'.objs.size), by rw [← x.len]; simp, rfl⟩

noncomputable def freeze (i : Nat) (σ : S) : Option S := match σ.vars[i]? with
  | some (some (.r k)) => (match σ.heap[k]? with
    | some (.list xs) => if σ.prot ≤ k then some { vars := σ.vars.set i (some (.d (.lst xs))), heap := σ.heap.set k .dead, prot := σ.prot } else none
    | _ => none)
  | _ => none
theorem liveK_dead {as : List (Addr × Addr)} {hp : List Cell} {k j : Nat} {a : Addr} (h : LiveK as (hp.set k .dead) j a) : LiveK as hp j a ∧ j ≠ k := by
  obtain ⟨p, c, hp', hc, hl⟩ := h
  rw [List.getElem?_set] at hc
  split at hc
  · rename_i e
    subst e
    split at hc
    · cases hc; cases hl
    · cases hc
  · rename_i e; exact ⟨⟨p, c, hp', hc, hl⟩, fun q => e q.symm⟩
theorem live_dead {as : List (Addr × Addr)} {hp : List Cell} {n k : Nat} {a : Addr} (h : Live n as (hp.set k .dead) a) : Live n as hp a := let ⟨j, hj, q⟩ := h; ⟨j, hj, (liveK_dead q).1⟩
theorem freeze_st {i : Nat} {as : List (Addr × Addr)} {σ σ' : S} {h : Heap} (hf : freeze i σ = some σ') (x : St T.h₀ Φ as σ h) : Step Φ as σ h as σ' h ∧ St T.h₀ Φ as σ' h := by
  unfold freeze at hf
  split at hf <;> try (cases hf; done)
  rename_i k hv
  split at hf <;> try (cases hf; done)
  rename_i xs hx
  split at hf <;> try (cases hf; done)
  rename_i hk
  cases hf
  have sub : ∀ a, Φ.Ex as (σ.heap.set k .dead) a → Φ.Ex as σ.heap a := fun a q => q.imp id live_dead
  have KS : KeepSeq (Φ.Ex as σ.heap) h (Φ.Ex as (σ.heap.set k .dead)) h := fun b o nb hb _ => ⟨hb, fun q => nb (sub b q)⟩
  have rep : ∀ v, RepV (Φ.Ex as σ.heap) as h (.r k) v → RepV (Φ.Ex as (σ.heap.set k .dead)) as h (.d (.lst xs)) v := by
    rintro v ⟨p, hp, rfl⟩
    obtain ⟨vs, n, ho, r⟩ := x.led k p _ hp hx
    refine ⟨p.1, vs, n, rfl, ?_, ho, r.keep KS⟩
    have lk : LiveK as σ.heap k p.1 := ⟨p, _, hp, hx, rfl⟩
    rintro (q | ⟨j, _, q⟩)
    · exact x.sepX _ (.inr (.inr ⟨k, Nat.zero_le _, lk⟩)) q
    · obtain ⟨q, hne⟩ := liveK_dead q
      exact hne (x.sepL j k _ q lk)
  have var : ∀ (j : Nat) (d : V), (σ.vars.set i (some (.d (.lst xs))))[j]? = some (some d) → (σ.vars[j]? = some (some d)) ∨ (j = i ∧ d = .d (.lst xs)) := by
    intro j d hj
    rw [List.getElem?_set] at hj
    split at hj
    · rename_i e
      split at hj
      · cases hj; exact .inr ⟨e.symm, rfl⟩
      · cases hj
    · exact .inl hj
  refine ⟨⟨⟨[], by simp⟩, rfl, fun j c hj hc => ?_, fun _ _ _ q => q, fun _ q => .inl (live_dead q), fun _ q => .inl (live_dead q), fun _ q => q⟩,
    ⟨⟨x.keep, by simp [x.len], ?_, fun j n c hj => ?_, fun j p c hp hc => ?_, x.xs, fun a q => x.ex0 a (sub a q)⟩, fun j j' a h1 h2 => x.sepL j j' a (liveK_dead h1).1 (liveK_dead h2).1, fun a q => x.sepF a (live_dead q), fun a q => x.fr0 a (q.imp id (Or.imp id live_dead)), fun a q => x.sepX a (q.imp id (Or.imp id live_dead))⟩⟩
  · show (σ.heap.set k .dead)[j]? = _
    rw [List.getElem?_set_ne (by (first | lia | omega))]; exact hc
  · obtain ⟨m, hm, hl⟩ := x.loc
    refine ⟨m, hm, fun j n d hj hd => ?_⟩
    rcases var j d hd with hd | ⟨rfl, rfl⟩
    · obtain ⟨v, h1, r⟩ := hl j n d hj hd; exact ⟨v, h1, r.keep0 KS⟩
    · obtain ⟨v, h1, r⟩ := hl j n _ hj hv; exact ⟨v, h1, rep v r⟩
  · obtain ⟨ov, hc, hl⟩ := x.cel j n c hj
    refine ⟨ov, hc, fun d hd => ?_⟩
    rcases var j d hd with hd | ⟨rfl, rfl⟩
    · obtain ⟨v, h1, r⟩ := hl d hd; exact ⟨v, h1, r.keep0 KS⟩
    · obtain ⟨v, h1, r⟩ := hl _ hv; exact ⟨v, h1, rep v r⟩
  · rw [List.getElem?_set] at hc
    split at hc
    · split at hc
      · cases hc; trivial
      · cases hc
    · exact (x.led j p c hp hc).keep KS fun _ _ _ q => q
noncomputable def frzF (i : Nat) (f : S → Option (Fl × S)) (σ : S) : Option (Fl × S) := (freeze i σ).bind f
theorem BkOk.freeze (i : Nat) {b : List Stmt} {f : S → Option (Fl × S)} (hb : BkOk T A Φ b f) : BkOk T A Φ b (frzF i f) := by
  intro σ d σ' as s Q E h x k
  unfold frzF at h
  cases hr : Mine.freeze i σ with
  | none => rw [hr] at h; cases h
  | some σ₁ =>
    rw [hr, Option.bind_some] at h
    obtain ⟨st, x₁⟩ := freeze_st hr x
    exact hb σ₁ d σ' as s Q E h x₁ fun v as₂ h₂ t₂ st₂ x₂ r₂ => k v as₂ h₂ t₂ (st.trans st₂) x₂ r₂
end
end Mine
end
section
namespace Mine
open PySem PySem.W PyProof.Rows PySem.Calls PySem.SeqAt

section
variable {T : TI} {A : Around} {Φ : FI}

structure ClsOk (T : TI) (C : Addr) : Prop where
  ga : findIn T.K (.ref C) "__getattribute__" = some (some (.builtin "object.__getattribute__"))
  gt : findIn T.K (.ref C) "__getattr__" = some none
  hd : hasDictIn T.K C = true
  sa : findIn T.K (.ref C) "__setattr__" = some (some (.builtin "object.__setattr__"))
  po : plainOver T.K C = true
  at' : ∀ a ∈ attrNames, findIn T.K (.ref C) a = some none

theorem View.kin {as : List (Addr × Addr)} {σ : S} {h : Heap} (x : View T.h₀ Φ as σ h) : T.K.In h := T.X.keeps x.keep
theorem RepD.handed {N : Addr → Prop} {h : Heap} {d : D} {v : Value} (r : RepD N h d v) : handedIn v = true := by
  cases d
  · rw [show v = _ from r]; rfl
  · rw [show v = _ from r]; rfl
  · obtain ⟨t, rfl⟩ := r; rfl
  · obtain ⟨t, rfl⟩ := r; rfl
  · obtain ⟨t, rfl⟩ := r; rfl
  · obtain ⟨a, vs, n, rfl, _⟩ := r; rfl
  · obtain ⟨a, vs, n, rfl, _⟩ := r; rfl
noncomputable def instR (i : Nat) (C : Addr) (σ : S) : Option (Nat × List D) := (rget i σ).bind fun r => match σ.heap[r]? with
  | some (.inst C' xs) => if C' = C then some (r, xs) else none
  | _ => none
theorem instR_some {i : Nat} {C : Addr} {σ : S} {r : Nat × List D} (h : instR i C σ = some r) : σ.vars[i]? = some (some (.r r.1)) ∧ σ.heap[r.1]? = some (.inst C r.2) := by
  unfold instR at h
  cases hr : rget i σ with
  | none => rw [hr] at h; cases h
  | some k =>
    rw [hr, Option.bind_some] at h
    split at h
    · rename_i hx
      split at h
      · rename_i e; cases h; exact ⟨rget_some hr, e ▸ hx⟩
      · cases h
    · cases h
theorem inst_at {N : Addr → Prop} {h : Heap} {p : Addr × Addr} {C : Addr} {xs : List D} (c : CellOk N h p (.inst C xs)) : ∃ es n, InstAt h p.1 (instObj C p.2) C (some (dictOf es n)) ∧ h.get? p.2 = some (dictOf es n) ∧ Keys attrNames es ∧ RepDs N h xs (es.map (·.val)) :=
  let ⟨ho, es, n, hd, hk, hr⟩ := c
  ⟨es, n, ⟨ho, rfl, rfl, hd⟩, hd, hk, hr⟩

noncomputable def attrR (i : Nat) (C : Addr) (k : Nat) (σ : S) : Option D := (instR i C σ).bind fun r => r.2[k]?
theorem PvOk.attr {n attr : Str} {np pos : Pos} (i : Nat) (C : Addr) (k : Nat) (F : FOk Φ) (hs : SlotIs Φ i n) (hd : (n == ("__debug__" : Str)) = false) (hC : ClsOk T C) (hk : attrNames[k]? = some attr) :
    PvOk T A Φ (.Attribute (.Name n np) attr pos) (attrR i C k) := by
  intro σ d as s Q E h x q
  unfold attrR at h
  cases hr : instR i C σ with
  | none => rw [hr] at h; cases h
  | some r =>
    obtain ⟨j, xs⟩ := r
    rw [hr, Option.bind_some] at h
    obtain ⟨hv, hc⟩ := instR_some hr
    refine Attribute_name (name_slot F hs x hv (fun u ru => ?_) hd)
    obtain ⟨p, hp, rfl⟩ := ru
    obtain ⟨es, m, I, hdict, hkeys, hrep⟩ := inst_at (x.led j p _ hp hc)
    obtain ⟨v, hv', rv⟩ := hrep.get h
    rw [List.getElem?_map] at hv'
    have hl : lookIn attr (dictOf es m) = some (some v) := by rw [lookIn_dict, hkeys.getL_at attr_nodup hk, hv']
    exact get_value x.kin I hC.ga (findObj_own hC.hd (hC.at' attr (List.mem_of_getElem? hk)) rfl hl) rv.handed (q v s.heap _ (Ext.refl _) rv)

noncomputable def putA (k : Nat) (d : D) (xs : List D) : Option (List D) := if k < xs.length then some (xs.set k d) else if k = xs.length then some (xs ++ [d]) else none
theorem RepDs.set {N : Addr → Prop} {h : Heap} : ∀ {ds : List D} {vs : List Value} {d : D} {v : Value} (k : Nat), RepDs N h ds vs → RepD N h d v → RepDs N h (ds.set k d) (vs.set k v)
  | [], _, _, _, k, x, _ => by rw [show _ = [] from x]; cases k <;> exact rfl
  | d' :: ds, _, d, v, 0, ⟨v', r, e, hv, hr⟩, y => by rw [e]; exact ⟨v, r, rfl, y, hr⟩
  | d' :: ds, _, d, v, k + 1, ⟨v', r, e, hv, hr⟩, y => by rw [e]; exact ⟨v', _, rfl, hv, RepDs.set k hr y⟩
theorem RepDs.push {N : Addr → Prop} {h : Heap} {ds : List D} {vs : List Value} {d : D} {v : Value} (x : RepDs N h ds vs) (y : RepD N h d v) : RepDs N h (ds ++ [d]) (vs ++ [v]) := x.append ⟨v, [], rfl, y, rfl⟩

theorem store_attr {as : List (Addr × Addr)} {σ : S} {s : Shared} {Q : Unit → Shared → Prop} {E : Value → Shared → Prop} {C : Addr} {k j : Nat} {attr : Str} {p : Addr × Addr} {xs xs' : List D} {d : D} {v : Value} (F : FOk Φ) (hC : ClsOk T C) (hk : attrNames[k]? = some attr)
    (x : St T.h₀ Φ as σ s.heap) (hp : as[j]? = some p) (hc : σ.heap[j]? = some (.inst C xs)) (hj : σ.prot ≤ j) (hput : putA k d xs = some xs') (r : RepD (Φ.Ex as σ.heap) s.heap d v)
    (q : ∀ h' tk, Step Φ as σ s.heap as (σ.setCell j (.inst C xs')) h' → St T.h₀ Φ as (σ.setCell j (.inst C xs')) h' → Q () { s with heap := h', toks := tk }) :
    wpAny (model T.prog T.w) A (setAttr (.ref p.1) attr v) Q E s := by
  obtain ⟨es, m, I, hdict, hkeys, hrep⟩ := inst_at (x.led j p _ hp hc)
  have hmem := List.mem_of_getElem? hk
  have ht : takerIn T.K C attr = some none := by unfold takerIn; rw [hC.at' attr hmem]; rfl
  obtain ⟨cd, hcl, hd'⟩ := any_some hC.hd
  have hkeyz : k ≤ es.length := by
    have := hrep.length
    rw [List.length_map] at this
    unfold putA at hput
    split at hput
    · (first | lia | omega)
    · split at hput
      · (first | lia | omega)
      · cases hput
  have X1 : T.K.In ({ s with toks := s.toks + 1 } : Shared).heap := x.kin
  refine set_plain x.kin I hC.sa (osa_open (s := { s with toks := s.toks + 1 }) x.kin I hC.po ht fun b => ?_)
  refine wpAny_bind (wpAny_pure (wpAny_bind (wpAny_bind (wpAny_loadPart I.at_ (wpAny_bind ((looks_clsIn X1 hcl).here ?_))))))
  rw [hd']
  refine wpAny_pure (a := some p.2) (wpAny_bind (wpAny_pure (wpAny_bind ?_)))
  unfold nsSet
  refine wpAny_bind (wpAny_bind (wpAny_askSetting (wpAny_pure (wpAny_bind (wpAny_mkText (wpAny_bind (wpAny_loadPart hdict ?_)))))))
  dsimp only
  have c : (!es.toArray.any (·.key.isStr attr) && es.toArray.any (·.refKey)) = false := by
    rw [← Array.any_toList, ← Array.any_toList]
    show (!es.any _ && es.any _) = false
    rw [hkeys.noRef, Bool.and_false]
  rw [aRefKeyMayBeTheName_at, c]
  refine wpAny_updatePart hdict ?_
  have hob := putName_dict attr (PyData.keyHash T.w.params attr) (.str attr (s.toks + 1)) v es m
  obtain ⟨K', M'⟩ := putL_at (PyData.keyHash T.w.params attr) (s.toks + 1) v attr_nodup hkeys hk hkeyz
  have D' := Heap.get?_update_self (Obj.putName attr (PyData.keyHash T.w.params attr) (.str attr (s.toks + 1)) v) hdict (by rw [hob]; rfl)
  rw [hob] at D'
  have hlen : (putL attr (PyData.keyHash T.w.params attr) (.str attr (s.toks + 1)) v es).length ≤ 11 := K'.length
  refine wpAny_bind (wpAny_lookBehind D' (pastItsLine_dict (by rw [List.size_toArray, sizeLine_eq]; (first | lia | omega))) ?_)
  obtain ⟨st, x'⟩ := x.cell F hp hc (a := p.2) (c' := .inst C xs') rfl rfl hj (Heap.SameBut.update ..) ⟨_, D'⟩ fun KS => by
    refine ⟨?_, _, _, D', K', ?_⟩
    · have : p.1 ≠ p.2 := by
        intro e
        have h1 := I.at_
        rw [e, hdict] at h1
        cases h1
      exact (Heap.get?_update_ne _ _ _ _ this).trans I.at_
    · rw [M', show es.length = xs.length by rw [← hrep.length, List.length_map]]
      unfold putA at hput
      split at hput
      · rename_i hlt
        cases hput
        rw [if_pos hlt]
        exact (hrep.keep KS).set k (r.keep KS)
      · rename_i hlt
        split at hput
        · cases hput
          rw [if_neg hlt]
          exact (hrep.keep KS).push (r.keep KS)
        · cases hput
  exact wpAny_pure (q _ _ st x')
noncomputable def atF (f : S → Option (V × S)) (i : Nat) (C : Addr) (k : Nat) (σ : S) : Option (Fl × S) := (f σ).bind fun r => match r.1 with
  | .d d => (instR i C r.2).bind fun q => (putA k d q.2).bind fun xs => if r.2.prot ≤ q.1 then some (.next, r.2.setCell q.1 (.inst C xs)) else none
  | .r _ => none
theorem SkOk.assignAttr {n attr : Str} {np apos pos : Pos} {e : Expr} {f : S → Option (V × S)} (i : Nat) (C : Addr) (k : Nat) (F : FOk Φ) (hs : SlotIs Φ i n) (hd : (n == ("__debug__" : Str)) = false) (hC : ClsOk T C) (hk : attrNames[k]? = some attr) (hf : EvOk T A Φ e f)
    (hsw : swapsWith e (some (.Attribute (.Name n np) attr apos)) pos.line Φ.env = pure false) : SkOk T A Φ (.Assign [.Attribute (.Name n np) attr apos] e pos) (atF f i C k) := by
  intro σ fl σ' as s Q E h x q
  unfold atF at h
  cases hr : f σ with
  | none => rw [hr] at h; cases h
  | some r =>
    obtain ⟨v, σ₁⟩ := r
    rw [hr, Option.bind_some] at h
    cases v with
    | r _ => cases h
    | d d =>
      dsimp only at h
      cases hi : instR i C σ₁ with
      | none => rw [hi] at h; cases h
      | some r =>
        obtain ⟨j, xs⟩ := r
        rw [hi, Option.bind_some] at h
        cases hp : putA k d xs with
        | none => rw [hp] at h; cases h
        | some xs' =>
          rw [hp, Option.bind_some] at h
          split at h
          case isFalse => cases h
          rename_i hj
          cases h
          obtain ⟨hv, hc⟩ := instR_some hi
          refine plainObj_wpAny_Assign_Attribute (hf σ (.d d) σ₁ as s _ E hr x fun u as₁ h₁ t₁ st₁ x₁ r₁ => ?_) hsw
          refine name_slot F hs x₁.toView hv (fun w rw' => ?_) hd
          obtain ⟨p, hp', rfl⟩ := rw'
          exact store_attr F hC hk x₁ hp' hc hj hp r₁ fun h' tk st x' => q .next as₁ h' tk (st₁.trans st) x' rfl
end
end Mine
end
section
namespace Mine
open PySem PySem.W PyProof.Rows PySem.Calls PySem.SeqAt

section
variable {T : TI} {A : Around} {Φ : FI}

noncomputable def listR (i : Nat) (σ : S) : Option (Nat × List D) := (rget i σ).bind fun r => match σ.heap[r]? with
  | some (.list xs) => if σ.prot ≤ r then some (r, xs) else none
  | _ => none
theorem listR_some {i : Nat} {σ : S} {r : Nat × List D} (h : listR i σ = some r) : σ.vars[i]? = some (some (.r r.1)) ∧ σ.heap[r.1]? = some (.list r.2) ∧ σ.prot ≤ r.1 := by
  unfold listR at h
  cases hr : rget i σ with
  | none => rw [hr] at h; cases h
  | some k =>
    rw [hr, Option.bind_some] at h
    split at h
    · rename_i hx
      split at h
      · rename_i e; cases h; exact ⟨rget_some hr, hx, e⟩
      · cases h
    · cases h
theorem St.list {as : List (Addr × Addr)} {σ : S} {h h' : Heap} {k n : Nat} {p : Addr × Addr} {xs xs' : List D} {vs : List Value} (F : FOk Φ) (x : St T.h₀ Φ as σ h) (hp : as[k]? = some p) (hc : σ.heap[k]? = some (.list xs)) (hk : σ.prot ≤ k)
    (hs : Heap.SameBut p.1 h h') (ho : h'.get? p.1 = some (lstObj vs n)) (hr : KeepSeq (Φ.Ex as σ.heap) h (Φ.Ex as σ.heap) h' → RepDs (Φ.Ex as σ.heap) h' xs' vs) :
    Step Φ as σ h as (σ.setCell k (.list xs')) h' ∧ St T.h₀ Φ as (σ.setCell k (.list xs')) h' :=
  x.cell F hp hc (a := p.1) (c' := .list xs') rfl rfl hk hs ⟨_, ho⟩ fun KS => ⟨vs, n, ho, hr KS⟩

noncomputable def appF (i : Nat) (p : S → Option D) (σ : S) : Option (Fl × S) := (p σ).bind fun d => (listR i σ).bind fun r => if r.2.length ≤ 16777216 then some (.next, σ.setCell r.1 (.list (r.2 ++ [d]))) else none
theorem SkOk.append {n : Str} {np apos pos epos : Pos} {elt : Expr} {p : S → Option D} (i : Nat) (F : FOk Φ) (hs : SlotIs Φ i n) (hd : (n == ("__debug__" : Str)) = false) (hp : PvOk T A Φ elt p)
    (hi : interactive Φ.env = false) (hsw : swapsWith (.Call (.Attribute (.Name n np) "append" apos) [elt] [] pos) none epos.line Φ.env = pure false)
    (hbase : attributeBase (.Name n np) "append" Φ.env (eval (.Name n np) Φ.env) = eval (.Name n np) Φ.env)
    (hfew : ((backTo pos (starEach [elt] Φ.env)).all (fun x => !x.1) && (backToKw pos (keywordEach [] Φ.env)).all (fun x => x.1.isSome)
      && decide (([elt] : List Expr).length + ([] : List Keyword).length + (if ([] : List Keyword).isEmpty then 0 else 1) < 30)) = true)
    (hline : (apos.endLine == pos.line) = true)
    (htrees : backTo pos (starEach [elt] Φ.env) = [(false, eval elt Φ.env)]) :
    SkOk T A Φ (.Expr (.Call (.Attribute (.Name n np) "append" apos) [elt] [] pos) epos) (appF i p) := by
  intro σ fl σ' as s Q E h x q
  unfold appF at h
  cases hd' : p σ with
  | none => rw [hd'] at h; cases h
  | some d =>
    rw [hd', Option.bind_some] at h
    cases hr : listR i σ with
    | none => rw [hr] at h; cases h
    | some r =>
      obtain ⟨j, xs⟩ := r
      rw [hr, Option.bind_some] at h
      split at h
      case isFalse => cases h
      rename_i hz
      cases h
      obtain ⟨hv, hc, hj⟩ := listR_some hr
      refine wpAny_Expr_any (wpAny_Call_append hbase hfew hline htrees (name_slot F hs x.toView hv (fun u ru => ?_) hd)) hi hsw
      obtain ⟨a, ha, rfl⟩ := ru
      obtain ⟨vs, m, ho, rs⟩ := x.led j a _ ha hc
      refine ⟨a.1, vs.toArray, rfl, ⟨_, m, ho, rfl, rfl, rfl⟩, ?_⟩
      refine hp σ d as s _ E hd' x.toView fun v h₁ t₁ e₁ rv => ?_
      have x₁ := x.ext e₁
      have ho₁ := e₁ _ _ ho
      have rs₁ := rs.keep e₁.keepSeq
      refine wpAny_list_append_plain ⟨m, ho₁⟩ (fun h₂ hl₂ hs₂ => ?_) (by rw [List.size_toArray, rs.length, sizeLine_eq]; exact hz)
      obtain ⟨m', ho₂⟩ := hl₂
      obtain ⟨st, x₂⟩ := x₁.list F ha hc hj hs₂ (xs' := xs ++ [d]) (vs := vs ++ [v]) (n := m') (by rw [ho₂]; simp) fun KS => (rs₁.keep KS).push (rv.keep KS)
      exact q .next as h₂ t₁ ((Step.ofExt e₁).trans st) x₂ rfl

noncomputable def extF (i : Nat) (p : S → Option D) (σ : S) : Option (Fl × S) := (p σ).bind fun d => match d with
  | .lst ds => (listR i σ).bind fun r => if r.2.length ≤ 4096 ∧ ds.length ≤ 4096 then some (.next, σ.setCell r.1 (.list (r.2 ++ ds))) else none
  | _ => none
theorem SkOk.extend {n : Str} {np apos pos epos : Pos} {elt : Expr} {p : S → Option D} (i : Nat) (F : FOk Φ) (hs : SlotIs Φ i n) (hd : (n == ("__debug__" : Str)) = false) (hp : PvOk T A Φ elt p)
    (hi : interactive Φ.env = false) (hsw : swapsWith (.Call (.Attribute (.Name n np) "extend" apos) [elt] [] pos) none epos.line Φ.env = pure false)
    (pl : Sem Bool) (he : eval (.Call (.Attribute (.Name n np) "extend" apos) [elt] [] pos) Φ.env = (do
      let ov ← eval (.Name n np) Φ.env
      standAt apos.atName
      let (f, first) ← holding [ov] (getMethod ov "extend" pl)
      callWith pos f first (backTo pos (starEach [elt] Φ.env)) (backToKw pos (keywordEach [] Φ.env))))
    (htrees : backTo pos (starEach [elt] Φ.env) = [(false, eval elt Φ.env)]) :
    SkOk T A Φ (.Expr (.Call (.Attribute (.Name n np) "extend" apos) [elt] [] pos) epos) (extF i p) := by
  intro σ fl σ' as s Q E h x q
  unfold extF at h
  cases hd' : p σ with
  | none => rw [hd'] at h; cases h
  | some d =>
    rw [hd', Option.bind_some] at h
    cases d <;> try (cases h; done)
    rename_i ds
    cases hr : listR i σ with
    | none => simp only [hr] at h; cases h
    | some r =>
      obtain ⟨j, xs⟩ := r
      simp only [hr, Option.bind_some] at h
      split at h
      case isFalse => cases h
      rename_i hz
      cases h
      obtain ⟨hv, hc, hj⟩ := listR_some hr
      refine wpAny_Expr_any ?_ hi hsw
      refine methodCall_KW (name_slot F hs x.toView hv (fun u ru => ?_) hd) he
      obtain ⟨a, ha, rfl⟩ := ru
      obtain ⟨vs, m, ho, rs⟩ := x.led j a _ ha hc
      refine getMethod_list_of PySem.F.slot_list_extend PySem.F.type_list_extend ⟨_, ho, rfl, _, rfl⟩ ⟨_, ho, rfl⟩ ?_
      dsimp only
      rw [htrees]
      refine callWith_builtin rfl (evalArgs_plain (spliced_cons (hp σ _ as s _ E hd' x.toView fun v h₁ t₁ e₁ rv => spliced_nil ?_)))
      obtain ⟨b, us, m', rfl, nb, hb, ru⟩ := rv
      have x₁ := x.ext e₁
      have ho₁ := e₁ _ _ ho
      have rs₁ := rs.keep e₁.keepSeq
      have sz1 : vs.toArray.size = xs.length := by rw [List.size_toArray, rs.length]
      have sz2 : us.toArray.size = ds.length := by rw [List.size_toArray, ru.length]
      have hsz : vs.toArray.size + us.toArray.size ≤ sizeLine := by rw [sz1, sz2, sizeLine_eq]; (first | lia | omega)
      refine call_meets (s := { s with heap := h₁, toks := t₁ }) PySem.F.slot_list_extend ⟨_, ho₁, rfl⟩ PySem.F.entry_list_extend (PySem.F.args_list_extend_2 _ _)
        (AutoSeq1.list_extend_list_list_0 a.1 vs.toArray m b us.toArray m' (extend_door hsz) (by (first | lia | omega)) (by (first | lia | omega))) ⟨ho₁, hb, ?_⟩
      have ho₂ : (h₁.update a.1 (Obj.mapSeq fun x => x ++ us.toArray)).get? a.1 = some (lstObj (vs ++ us) (if (vs.toArray ++ us.toArray).size == vs.toArray.size then m else m + 1)) := by
        rw [Heap.get?_update_self _ ho₁ (by rw [mapSeq_app]; rfl), mapSeq_app]; simp [lstObj]
      obtain ⟨st, x₂⟩ := x₁.list F ha hc hj (Heap.SameBut.update ..) (xs' := xs ++ ds) ho₂ fun KS => (rs₁.keep KS).append (ru.keep KS)
      exact q .next as _ t₁ ((Step.ofExt e₁).trans st) x₂ rfl

noncomputable def setI (xs : List D) (i : Int) (d : D) : Option (List D) := if 0 ≤ i ∧ i < 1000000 ∧ i < xs.length then some (xs.set i.toNat d) else none
noncomputable def itF (i : Nat) (q : S → Option D) (v : V) (σ : S) : Option S := match v with
  | .d d => (listR i σ).bind fun r => (q σ).bind fun b => match b with
    | .int k => (setI r.2 k d).map fun xs => σ.setCell r.1 (.list xs)
    | _ => none
  | .r _ => none
theorem AsOk.item {n : Str} {np pos : Pos} {ie : Expr} {q : S → Option D} (i : Nat) (F : FOk Φ) (hs : SlotIs Φ i n) (hd : (n == ("__debug__" : Str)) = false) (hq : PvOk T A Φ ie q) : AsOk T A Φ (.Subscript (.Name n np) ie pos) (itF i q) := by
  intro v u σ σ' as s Q E h x ru k
  cases v with
  | r _ => cases h
  | d d =>
    simp only [itF] at h
    cases hr : listR i σ with
    | none => simp only [hr] at h; cases h
    | some r =>
      obtain ⟨j, xs⟩ := r
      simp only [hr, Option.bind_some] at h
      cases hb : q σ with
      | none => simp only [hb] at h; cases h
      | some b =>
        simp only [hb, Option.bind_some] at h
        cases b <;> try (cases h; done)
        rename_i z
        simp only at h
        cases hset : setI xs z d with
        | none => rw [hset] at h; cases h
        | some xs' =>
          rw [hset] at h; cases h
          obtain ⟨hv, hc, hj⟩ := listR_some hr
          unfold setI at hset
          split at hset
          case isFalse => cases hset
          rename_i hz
          cases hset
          refine kas_sub (name_slot F hs x.toView hv (fun w rw' => ?_) hd)
          obtain ⟨a, ha, rfl⟩ := rw'
          obtain ⟨vs, m, ho, rs⟩ := x.led j a _ ha hc
          refine hq σ _ as s _ E hb x.toView fun vi h₁ t₁ e₁ ri => ?_
          obtain ⟨t, rfl⟩ := ri
          have x₁ := x.ext e₁
          have ho₁ := e₁ _ _ ho
          have rs₁ := rs.keep e₁.keepSeq
          have ru₁ := RepD.keep e₁.keepSeq d u ru
          have hlen : vs.toArray.size = xs.length := by rw [List.size_toArray, rs.length]
          refine ki_setAt (s := { s with heap := h₁, toks := t₁ }) ho₁ hz.1 (by (first | lia | omega)) (by rw [hlen]; exact hz.2.2) ?_
          have ho₂ : ∃ m₂, (h₁.update a.1 (Obj.mapSeq (·.setIfInBounds z.toNat u))).get? a.1 = some (lstObj (vs.set z.toNat u) m₂) := by
            have e : Obj.mapSeq (·.setIfInBounds z.toNat u) (lstObj vs m) = lstObj (vs.set z.toNat u) m := by simp [Obj.mapSeq, lstObj]
            exact ⟨m, by rw [Heap.get?_update_self _ ho₁ (by rw [e]; rfl), e]⟩
          obtain ⟨m₂, ho₂⟩ := ho₂
          obtain ⟨st, x₂⟩ := x₁.list F ha hc hj (Heap.SameBut.update ..) (xs' := xs.set z.toNat d) ho₂ fun KS => (rs₁.keep KS).set z.toNat (ru₁.keep KS)
          exact k as _ t₁ ((Step.ofExt e₁).trans st) x₂
end
end Mine
end
section
namespace Mine
open PySem PySem.W PyProof.Rows PySem.Calls PySem.SeqAt

noncomputable def slotOf (cells : List (Str × Addr)) (x : Str × NameKind) : Slot := match x.2 with
  | .local => .loc x.1
  | .cell => .cell x.1 ((cells.lookup x.1).getD 0)
  | _ => .no
noncomputable abbrev slotsOf (names : List (Str × NameKind)) (cells : List (Str × Addr)) : List Slot := names.map (slotOf cells)
noncomputable abbrev frameOf (fd : FuncData) (L fa : Addr) (X : Addr → Prop) : FI := { env := callEnvC fd L fa, slots := slotsOf fd.scope.names (cellsFrom (L + 1) fd.scope.names []), X := X }

theorem lookup_at {α : Type} : ∀ {l : List (Str × α)} {i : Nat} {n : Str} {k : α}, (l.map (·.1)).Nodup → l[i]? = some (n, k) → l.lookup n = some k
  | x :: l, 0, n, k, nd, h => by
    simp only [List.getElem?_cons_zero, Option.some.injEq] at h
    subst h
    rw [List.lookup_cons, beq_self_eq_true]
  | x :: l, i + 1, n, k, nd, h => by
    rw [List.map_cons, List.nodup_cons] at nd
    simp only [List.getElem?_cons_succ] at h
    have hm : n ∈ l.map (·.1) := List.mem_map.mpr ⟨(n, k), List.mem_of_getElem? h, rfl⟩
    rw [List.lookup_cons, show (n == x.1) = false from beq_eq_false_iff_ne.mpr fun e => nd.1 (e ▸ hm)]
    exact lookup_at nd.2 h
theorem nodup_at {α : Type} : ∀ {l : List (Str × α)} {i j : Nat} {n : Str} {k k' : α}, (l.map (·.1)).Nodup → l[i]? = some (n, k) → l[j]? = some (n, k') → i = j
  | x :: l, 0, 0, _, _, _, _, _, _ => rfl
  | x :: l, i + 1, j + 1, n, k, k', nd, h, h' => by
    rw [List.map_cons, List.nodup_cons] at nd
    simp only [List.getElem?_cons_succ] at h h'
    exact congrArg (· + 1) (nodup_at nd.2 h h')
  | x :: l, 0, j + 1, n, k, k', nd, h, h' => by
    rw [List.map_cons, List.nodup_cons] at nd
    simp only [List.getElem?_cons_zero, Option.some.injEq] at h
    simp only [List.getElem?_cons_succ] at h'
    subst h
    exact absurd (List.mem_map.mpr ⟨_, List.mem_of_getElem? h', rfl⟩) nd.1
  | x :: l, i + 1, 0, n, k, k', nd, h, h' => by
    rw [List.map_cons, List.nodup_cons] at nd
    simp only [List.getElem?_cons_zero, Option.some.injEq] at h'
    simp only [List.getElem?_cons_succ] at h
    subst h'
    exact absurd (List.mem_map.mpr ⟨_, List.mem_of_getElem? h, rfl⟩) nd.1
  | [], i, _, _, _, _, _, h, _ => by simp at h

theorem slot_loc {names : List (Str × NameKind)} {cells : List (Str × Addr)} {i : Nat} {n : Str} (h : (slotsOf names cells)[i]? = some (.loc n)) : names[i]? = some (n, .local) := by
  rw [List.getElem?_map] at h
  cases hx : names[i]? with
  | none => rw [hx] at h; cases h
  | some x =>
    obtain ⟨m, k⟩ := x
    rw [hx] at h
    simp only [Option.map_some, Option.some.injEq, slotOf] at h
    cases k <;> cases h
    rfl
theorem slot_cell {names : List (Str × NameKind)} {cells : List (Str × Addr)} {i : Nat} {n : Str} {c : Addr} (h : (slotsOf names cells)[i]? = some (.cell n c)) : names[i]? = some (n, .cell) ∧ c = (cells.lookup n).getD 0 := by
  rw [List.getElem?_map] at h
  cases hx : names[i]? with
  | none => rw [hx] at h; cases h
  | some x =>
    obtain ⟨m, k⟩ := x
    rw [hx] at h
    simp only [Option.map_some, Option.some.injEq, slotOf] at h
    cases k <;> cases h
    exact ⟨rfl, rfl⟩
theorem slot_rc {names : List (Str × NameKind)} {cells : List (Str × Addr)} {i : Nat} {n : Str} {c : Addr} (h : (slotsOf names cells)[i]? = some (.rc n c)) : False := by
  rw [List.getElem?_map] at h
  cases hx : names[i]? with
  | none => rw [hx] at h; cases h
  | some x =>
    obtain ⟨m, k⟩ := x
    rw [hx] at h
    simp only [Option.map_some, Option.some.injEq, slotOf] at h
    cases k <;> cases h
theorem cell_at {fd : FuncData} {L fa : Addr} {X : Addr → Prop} {i : Nat} {n : Str} {c : Addr} (h : CellAt (frameOf fd L fa X) i n c) : (frameOf fd L fa X).slots[i]? = some (.cell n c) := h.elim id fun h => (slot_rc h).elim
theorem cell_look {fd : FuncData} {L fa : Addr} {X : Addr → Prop} {i : Nat} {n : Str} {c : Addr} (nd : (fd.scope.names.map (·.1)).Nodup) (h : CellAt (frameOf fd L fa X) i n c) : fd.scope.names[i]? = some (n, .cell) ∧ (cellsFrom (L + 1) fd.scope.names []).lookup n = some c := by
  obtain ⟨h1, rfl⟩ := slot_cell (cell_at h)
  refine ⟨h1, ?_⟩
  have := cellsFrom_some fd.scope.names (L + 1) [] (.inl (lookup_at nd h1))
  obtain ⟨c, hc⟩ := Option.isSome_iff_exists.mp this
  rw [hc]; rfl

theorem FOk.frame {fd : FuncData} {L fa : Addr} {X : Addr → Prop} (nd : (fd.scope.names.map (·.1)).Nodup) (hk : fd.scope.kind = .function) (hg : fd.globals = mainGlobals) (hb : fd.builtins = builtinsNs)
    (hap : (cellsFrom (L + 1) fd.scope.names []).Pairwise fun x y => x.2 ≠ y.2) (hab : ∀ n c, (n, c) ∈ cellsFrom (L + 1) fd.scope.names [] → L < c) : FOk (frameOf fd L fa X) where
  kind := hk
  loc := fun i n h => lookup_at nd (slot_loc h)
  cell := fun i n c h => let ⟨h1, h2⟩ := cell_look nd h; ⟨lookup_at nd h1, h2⟩
  locD := fun i j n h h' => nodup_at nd (slot_loc h) (slot_loc h')
  cellD := fun i j n n' c h h' => by
    obtain ⟨h1, h2⟩ := cell_look nd h
    obtain ⟨h3, h4⟩ := cell_look nd h'
    have : n = n' := name_of_addr hap (mem_of_lookup h2) (mem_of_lookup h4)
    subst this
    exact nodup_at nd h1 h3
  cellL := fun i n c h e => by
    obtain ⟨h1, h2⟩ := cell_look nd h
    have := hab n c (mem_of_lookup h2)
    rw [show c = L from e] at this
    exact Nat.lt_irrefl _ this
  glob := hg
  bui := hb

theorem bindL_not {k : Str → Option NameKind} {n : Str} : ∀ {b : List (Str × Value)} {m : Str → Option Value}, n ∉ b.map (·.1) → bindL k b m n = m n
  | [], _, _ => rfl
  | (y, v) :: r, m, h => by
    rw [List.map_cons, List.mem_cons, not_or] at h
    unfold bindL
    rw [bindL_not h.2]
    split
    · dsimp only; rw [if_neg h.1]
    · rfl
theorem bindC_not {k : Str → Option NameKind} {n : Str} : ∀ {b : List (Str × Value)} {m : Str → Option Value}, n ∉ b.map (·.1) → bindC k b m n = m n
  | [], _, _ => rfl
  | (y, v) :: r, m, h => by
    rw [List.map_cons, List.mem_cons, not_or] at h
    unfold bindC
    rw [bindC_not h.2]
    split
    · rfl
    · dsimp only; rw [if_neg h.1]
theorem bindL_at {k : Str → Option NameKind} {n : Str} (hk : k n = some .local) : ∀ {b : List (Str × Value)} {m : Str → Option Value} {v : Value}, (b.map (·.1)).Nodup → b.lookup n = some v → bindL k b m n = some v
  | (y, u) :: r, m, v, nd, h => by
    rw [List.map_cons, List.nodup_cons] at nd
    rw [List.lookup_cons] at h
    unfold bindL
    split at h
    · rename_i e
      have e := beq_iff_eq.mp e
      cases h; subst e
      rw [bindL_not nd.1, if_pos hk]; simp
    · exact bindL_at hk nd.2 h
theorem bindC_at {k : Str → Option NameKind} {n : Str} (hk : ¬ k n = some .local) : ∀ {b : List (Str × Value)} {m : Str → Option Value} {v : Value}, (b.map (·.1)).Nodup → b.lookup n = some v → bindC k b m n = some v
  | (y, u) :: r, m, v, nd, h => by
    rw [List.map_cons, List.nodup_cons] at nd
    rw [List.lookup_cons] at h
    unfold bindC
    split at h
    · rename_i e
      have e := beq_iff_eq.mp e
      cases h; subst e
      rw [bindC_not nd.1, if_neg hk]; simp
    · exact bindC_at hk nd.2 h
theorem zip_rep {N : Addr → Prop} {as : List (Addr × Addr)} {h : Heap} {n : Str} {d : V} : ∀ {ps : List Str} {ds : List V} {vs : List Value}, RepVs N as h ds vs → (ps.zip ds).lookup n = some d → ∃ v, (ps.zip vs).lookup n = some v ∧ RepV N as h d v
  | [], _, _, _, e => by simp at e
  | p :: ps, [], _, _, e => by simp at e
  | p :: ps, d' :: ds, _, ⟨v, r, e, hv, hr⟩, q => by
    rw [List.zip_cons_cons, List.lookup_cons] at q
    rw [e, List.zip_cons_cons, List.lookup_cons]
    split at q
    · cases q; exact ⟨v, rfl, hv⟩
    · exact zip_rep hr q
theorem zip_names {α : Type} : ∀ (ps : List Str) (vs : List α), ps.length = vs.length → (ps.zip vs).map (·.1) = ps
  | ps, vs, e => List.map_fst_zip (by (first | lia | omega))

structure Led (h₀ : Heap) (X : Addr → Prop) (as : List (Addr × Addr)) (hp : List Cell) (h : Heap) : Prop where
  keep : ∀ b o, h₀.get? b = some o → h.get? b = some o
  len : as.length = hp.length
  led : ∀ (k : Nat) p c, as[k]? = some p → hp[k]? = some c → CellOk (fun a => X a ∨ Live 0 as hp a) h p c
  xs : ∀ a, X a → ∃ o, h.get? a = some o
  ex0 : ∀ a, (X a ∨ Live 0 as hp a) → h₀.get? a = none
  sepL : ∀ (k k' : Nat) a, LiveK as hp k a → LiveK as hp k' a → k = k'
  sepX : ∀ a, Live 0 as hp a → ¬ X a
structure LStep (as : List (Addr × Addr)) (hp : List Cell) (prot : Nat) (h : Heap) (hp' : List Cell) (h' : Heap) : Prop where
  low : ∀ (k : Nat) (c : Cell), k < prot → hp[k]? = some c → hp'[k]? = some c
  keep : ∀ a o, ¬ Live prot as hp a → h.get? a = some o → h'.get? a = some o
  fresh : ∀ a, Live 0 as hp' a → Live 0 as hp a ∨ h.get? a = none
  own : ∀ a, Live prot as hp' a → Live prot as hp a ∨ h.get? a = none
  ex : ∀ a, h'.get? a = none → h.get? a = none

noncomputable abbrev Fun := List V → List Cell → Nat → Option (D × List Cell)
noncomputable def FnOk (T : TI) (r : Nat) (f : Value) (F : Fun) : Prop :=
  ∀ (A : Around) (X : Addr → Prop) (as : List (Addr × Addr)) (hp : List Cell) (prot : Nat) (ds : List V) (d : D) (hp' : List Cell) (vals : List Value) (s : Shared) (R : Result → Shared → Prop), RoomA r A → F ds hp prot = some (d, hp') →
    Led T.h₀ X as hp s.heap → RepVs (fun a => X a ∨ Live 0 as hp a) as s.heap ds vals →
    (∀ v h' tk, LStep as hp prot s.heap hp' h' → Led T.h₀ X as hp' h' → RepD (fun a => X a ∨ Live 0 as hp' a) h' d v → R (.ok (.ret v)) { s with heap := h', toks := tk }) → codeAny (model T.prog T.w) A (.call f ⟨vals, []⟩) R s

noncomputable def S0 (names : List (Str × NameKind)) (ps : List Str) (ds : List V) (hp : List Cell) (prot : Nat) : S := { vars := names.map fun x => (ps.zip ds).lookup x.1, heap := hp, prot := prot }
noncomputable def Fl.val : Fl → D
  | .next => .none
  | .ret d => d
noncomputable def runF (names : List (Str × NameKind)) (ps : List Str) (f : S → Option (Fl × S)) : Fun := fun ds hp prot =>
  if ds.length = ps.length then (f (S0 names ps ds hp prot)).map fun r => (r.1.val, r.2.heap.take hp.length) else none

theorem liveK_take {as t : List (Addr × Addr)} {hp : List Cell} {k : Nat} {a : Addr} (h : LiveK as (hp.take as.length) k a) : LiveK (as ++ t) hp k a := by
  obtain ⟨p, c, hp', hc, hl⟩ := h
  have hlt := (List.getElem?_eq_some_iff.mp hp').1
  refine ⟨p, c, by rw [List.getElem?_append_left hlt]; exact hp', ?_, hl⟩
  rw [List.getElem?_take_of_lt hlt] at hc
  exact hc
theorem live_take {as t : List (Addr × Addr)} {hp : List Cell} {n : Nat} {a : Addr} (h : Live n as (hp.take as.length) a) : Live n (as ++ t) hp a := let ⟨k, hk, q⟩ := h; ⟨k, hk, liveK_take q⟩
theorem Led.live_some {h₀ h : Heap} {X : Addr → Prop} {as : List (Addr × Addr)} {hp : List Cell} (x : Led h₀ X as hp h) {a : Addr} (ha : Live 0 as hp a) : ∃ o, h.get? a = some o := by
  obtain ⟨k, _, p, c, hp', hc, hl⟩ := ha
  have := x.led k p c hp' hc
  cases c with
  | list xs => obtain ⟨vs, n, ho, _⟩ := this; cases hl; exact ⟨_, ho⟩
  | inst C at' => obtain ⟨_, _, _, ho, _⟩ := this; cases hl; exact ⟨_, ho⟩
  | dead => cases hl

theorem RoomA.deeper {r : Nat} {A : Around} (h : RoomA (r + 1) A) (env : Env) : RoomA r (A.deeper env) := ⟨h.handled, by have := h.depth; show A.depth + 1 + r < _; (first | lia | omega), by have := h.units; show A.units + 3 + 8 * r + 100 < _; (first | lia | omega)⟩

section
variable {T : TI}
theorem FnOk.def {fa : Addr} {name qual : Str} {params : Arguments} {body : List Stmt} {scope : Scope} {dV kV doc pm cdv ct oc : Value} {an od : Option Addr} {osl : Array (Option Value)} {r : Nat} {f : S → Option (Fl × S)} (ps : List Str)
    (ho : T.K.lookup fa = some ⟨oc, od, .func (fnOf name qual params body scope dV kV doc pm an cdv ct), osl⟩) (hcd : codeIn T.K cdv qual = true)
    (hbind : ∀ vals : List Value, vals.length = ps.length → bindArgs (fnOf name qual params body scope dV kV doc pm an cdv ct) ⟨vals, []⟩ = pure (ps.zip vals))
    (nd : (scope.names.map (·.1)).Nodup) (hps : ps.Nodup) (hkind : ∀ p ∈ ps, scope.names.lookup p = some .local ∨ scope.names.lookup p = some .cell)
    (hco : scope.isCoroutine = false) (hgen : scope.isGenerator = false) (hk : scope.kind = .function)
    (hb : ∀ (A : Around) (L : Addr) (X : Addr → Prop), RoomA r A → FOk (frameOf (fnOf name qual params body scope dV kV doc pm an cdv ct) L fa X) → BkOk T A (frameOf (fnOf name qual params body scope dV kV doc pm an cdv ct) L fa X) body f) :
    FnOk T (r + 1) (.ref fa) (runF scope.names ps f) := by
  intro A X as hp prot ds d hp' vals s R hA h x rv q
  unfold runF at h
  split at h
  case isFalse => cases h
  rename_i hlen
  cases hr : f (S0 scope.names ps ds hp prot) with
  | none => rw [hr] at h; cases h
  | some res =>
  obtain ⟨fl, σ'⟩ := res
  rw [hr] at h
  cases h
  have hvl : ps.length = vals.length := by rw [rv.length, hlen]
  have KI : T.K.In s.heap := T.X.keeps x.keep
  have ho' := KI _ _ ho
  have nL : s.heap.get? (frameOf (fnOf name qual params body scope dV kV doc pm an cdv ct) s.heap.objs.size fa X).env.locals = none := get?_size s.heap
  refine codeAny_call_cells (body := body) (binds := ps.zip vals) (by have := hA.depth; (first | lia | omega)) ho' rfl (T.nolimit.keeps x.keep) (codeRec_of KI hcd) rfl (hbind vals hvl.symm) rfl (fun y hy => ?_) (fun s₁ Y => ?_) hco hgen hk
  · have hm : y.1 ∈ ps := by
      have := List.mem_map_of_mem (f := (·.1)) hy
      rwa [zip_names ps vals hvl] at this
    exact (hkind y.1 hm).imp id fun e => ⟨e, cellsFrom_some _ _ _ (.inl e)⟩
  obtain ⟨h₁, tk₁, rfl⟩ := Y.toInCall.same
  have e₁ : Ext s.heap h₁ := Y.toInCall.keep
  have F : FOk (frameOf (fnOf name qual params body scope dV kV doc pm an cdv ct) s.heap.objs.size fa X) := FOk.frame nd hk rfl rfl Y.apart Y.above
  have none' : ∀ b, h₁.get? b = none → s.heap.get? b = none := fun b hb => by
    cases q : s.heap.get? b with
    | none => rfl
    | some o => rw [e₁ b o q] at hb; cases hb
  have h0none : ∀ b, s.heap.get? b = none → T.h₀.get? b = none := fun b hb => by
    cases q : T.h₀.get? b with
    | none => rfl
    | some o => rw [x.keep b o q] at hb; cases hb
  have cnone : ∀ n c, (n, c) ∈ cellsFrom (s.heap.objs.size + 1) scope.names [] → s.heap.get? c = none := fun n c hc => by
    cases q : s.heap.get? c with
    | none => rfl
    | some o => exact absurd (Heap.lt_size q) (Nat.not_lt.mpr (Nat.le_of_lt (Y.above n c hc)))
  have isc : ∀ a, (frameOf (fnOf name qual params body scope dV kV doc pm an cdv ct) s.heap.objs.size fa X).IsCell a → s.heap.get? a = none := fun a ⟨i, n, hi⟩ => cnone n a (mem_of_lookup (cell_look nd (.inl hi)).2)
  have var : ∀ (i : Nat) (n : Str) (k : NameKind) (d : V), scope.names[i]? = some (n, k) → (S0 scope.names ps ds hp prot).vars[i]? = some (some d) → ∃ v, (ps.zip vals).lookup n = some v ∧ RepV (fun a => X a ∨ Live 0 as hp a) as s.heap d v := by
    intro i n k d hi hd
    unfold S0 at hd
    simp only [List.getElem?_map, hi, Option.map_some, Option.some.injEq] at hd
    exact zip_rep rv hd
  have hzn : ((ps.zip vals).map (·.1)).Nodup := by rw [zip_names ps vals hvl]; exact hps
  have x₁ : St T.h₀ (frameOf (fnOf name qual params body scope dV kV doc pm an cdv ct) s.heap.objs.size fa X) as (S0 scope.names ps ds hp prot) h₁ := by
    refine ⟨⟨fun b o e => e₁ b o (x.keep b o e), x.len, ⟨_, Y.toInCall.ns, fun i n d hi hd => ?_⟩, fun i n c hi => ?_, fun k p c hp' hc => (x.led k p c hp' hc).keep e₁.keepSeq fun a o _ e => e₁ a o e, fun a ha => let ⟨o, ho⟩ := x.xs a ha; ⟨o, e₁ a o ho⟩, fun a ha => x.ex0 a ha⟩,
      x.sepL, fun a ha => ?_, fun a ha => ?_, fun a ha => ?_⟩
    · have hi' := slot_loc hi
      obtain ⟨v, hv, rr⟩ := var i n _ d hi' hd
      exact ⟨v, bindL_at (F.loc i n hi) hzn hv, rr.keep0 e₁.keepSeq⟩
    · obtain ⟨h1, h2⟩ := cell_look nd hi
      refine ⟨_, Y.cell n c h2, fun d hd => ?_⟩
      obtain ⟨v, hv, rr⟩ := var i n _ d h1 hd
      refine ⟨v, bindC_at ?_ hzn hv, rr.keep0 e₁.keepSeq⟩
      rw [(F.cell i n c hi).1]; exact fun z => nomatch z
    · obtain ⟨o, ho⟩ := x.live_some ha
      refine ⟨?_, fun q => ?_⟩
      · rintro rfl; rw [nL] at ho; cases ho
      · rw [isc a q] at ho; cases ho
    · rcases ha with rfl | ha | ha
      · exact h0none _ nL
      · exact h0none _ (isc a ha)
      · exact x.ex0 a (.inr ha)
    · rcases ha with rfl | ha | ha
      · intro hX; obtain ⟨o, ho⟩ := x.xs _ hX; rw [nL] at ho; cases ho
      · intro hX; obtain ⟨o, ho⟩ := x.xs _ hX; rw [isc a ha] at ho; cases ho
      · exact x.sepX a ha
  refine hb (A.deeper _) s.heap.objs.size X (hA.deeper _) F _ fl σ' as { s with heap := h₁, toks := tk₁ } _ _ hr x₁ fun v as' h' tk st x' r' => ?_
  obtain ⟨t, rfl⟩ := st.pre
  have hl' := x'.len
  rw [List.length_append] at hl'
  have hn : hp.length = as.length := x.len.symm
  rw [hn] at q
  have LS : LStep as hp prot s.heap (σ'.heap.take as.length) h' := by
    refine ⟨fun k c hk hc => ?_, fun a o na e => ?_, fun a ha => ?_, fun a ha => ?_, fun a ha => none' a (st.ex a ha)⟩
    · have hlt := (List.getElem?_eq_some_iff.mp hc).1
      rw [List.getElem?_take_of_lt (by (first | lia | omega))]
      exact st.low k c hk hc
    · refine st.keep a o ?_ (e₁ a o e)
      rintro (z | z | z)
      · rw [z, nL] at e; cases e
      · rw [isc a z] at e; cases e
      · exact na z
    · exact (st.fresh a (live_take ha)).imp id (none' a)
    · rcases st.own a (by exact live_take ha) with z | z
      · exact .inl z
      · exact .inr (none' a z)
  have sub : ∀ a, (X a ∨ Live 0 as (σ'.heap.take as.length) a) → FI.Ex (frameOf (fnOf name qual params body scope dV kV doc pm an cdv ct) s.heap.objs.size fa X) (as ++ t) σ'.heap a := fun a ha => ha.imp id live_take
  have KS : KeepSeq (FI.Ex (frameOf (fnOf name qual params body scope dV kV doc pm an cdv ct) s.heap.objs.size fa X) (as ++ t) σ'.heap) h' (fun a => X a ∨ Live 0 as (σ'.heap.take as.length) a) h' := fun a o na e _ => ⟨e, fun z => na (sub a z)⟩
  have LD : Led T.h₀ X as (σ'.heap.take as.length) h' := by
    refine ⟨x'.keep, by rw [List.length_take]; (first | lia | omega), fun k p c hp' hc => ?_, x'.xs, fun a ha => x'.ex0 a (sub a ha), fun k k' a h1 h2 => x'.sepL k k' a (liveK_take h1) (liveK_take h2), fun a ha => x'.sepX a (.inr (.inr (live_take ha)))⟩
    have hlt := (List.getElem?_eq_some_iff.mp hp').1
    refine (x'.led k p c (by rw [List.getElem?_append_left hlt]; exact hp') (by rw [List.getElem?_take_of_lt hlt] at hc; exact hc)).keep KS fun a o _ e => e
  cases fl with
  | next =>
    rw [show v = .next from r']
    exact q .none h' tk LS LD rfl
  | ret d =>
    obtain ⟨u, rfl, ru⟩ := r'
    exact q u h' tk LS LD (ru.keep KS)
end
end Mine
end
section
namespace Mine
open PySem PySem.W PyProof.Rows PySem.Calls PySem.SeqAt

section
variable {T : TI} {A : Around} {Φ : FI}

theorem live_nil {n : Nat} {hp : List Cell} {a : Addr} : ¬ Live n [] hp a := fun ⟨k, _, p, c, hp, _⟩ => by simp at hp
theorem liveK_one {p : Addr × Addr} {c : Cell} {k : Nat} {a : Addr} : LiveK [p] [c] k a ↔ k = 0 ∧ liveAt p c = some a := by
  constructor
  · rintro ⟨q, d, hq, hd, e⟩
    cases k with
    | zero => simp at hq hd; subst hq hd; exact ⟨rfl, e⟩
    | succ k => simp at hq
  · rintro ⟨rfl, e⟩; exact ⟨p, c, rfl, rfl, e⟩
theorem live_one {p : Addr × Addr} {c : Cell} {a : Addr} : Live 0 [p] [c] a ↔ liveAt p c = some a :=
  ⟨fun ⟨k, _, h⟩ => (liveK_one.mp h).2, fun h => ⟨0, Nat.le_refl _, liveK_one.mpr ⟨rfl, h⟩⟩⟩

theorem View.led0 {as : List (Addr × Addr)} {σ : S} {h : Heap} (x : View T.h₀ Φ as σ h) : Led T.h₀ (Φ.Ex as σ.heap) [] [] h where
  keep := x.keep
  len := rfl
  led := fun k p c hp => by simp at hp
  xs := fun a ha => by
    cases q : h.get? a with
    | none => exact absurd ha (x.freshEx q)
    | some o => exact ⟨o, rfl⟩
  ex0 := fun a ha => ha.elim (x.ex0 a) fun q => (live_nil q).elim
  sepL := fun k k' a ⟨p, c, hp, _⟩ => by simp at hp
  sepX := fun a q => (live_nil q).elim
noncomputable def exBut (Φ : FI) (as : List (Addr × Addr)) (hp : List Cell) (j : Nat) (a : Addr) : Prop := Φ.Ex as hp a ∧ ¬ LiveK as hp j a
theorem exBut_all {as : List (Addr × Addr)} {hp : List Cell} {j : Nat} {p : Addr × Addr} {c : Cell} (h1 : as[j]? = some p) (h2 : hp[j]? = some c) : (fun a => exBut Φ as hp j a ∨ Live 0 [p] [c] a) = Φ.Ex as hp := by
  funext a
  refine propext ⟨?_, fun h => ?_⟩
  · rintro (h | h)
    · exact h.1
    · exact .inr ⟨j, Nat.zero_le _, p, c, h1, h2, live_one.mp h⟩
  · by_cases q : LiveK as hp j a
    · obtain ⟨p', c', h1', h2', e⟩ := q
      rw [h1] at h1'; cases h1'
      rw [h2] at h2'; cases h2'
      exact .inr (live_one.mpr e)
    · exact .inl ⟨h, q⟩
theorem View.led1 {as : List (Addr × Addr)} {σ : S} {h : Heap} {j : Nat} {p : Addr × Addr} {c : Cell} (x : View T.h₀ Φ as σ h) (h1 : as[j]? = some p) (h2 : σ.heap[j]? = some c) : Led T.h₀ (exBut Φ as σ.heap j) [p] [c] h where
  keep := x.keep
  len := rfl
  led := fun k q d hq hd => by
    rw [exBut_all h1 h2]
    cases k with
    | zero => simp at hq hd; subst hq hd; exact x.led j p c h1 h2
    | succ k => simp at hq
  xs := fun a ha => by
    cases q : h.get? a with
    | none => exact absurd ha.1 (x.freshEx q)
    | some o => exact ⟨o, rfl⟩
  ex0 := fun a ha => by
    have : Φ.Ex as σ.heap a := by rw [← exBut_all h1 h2]; exact ha
    exact x.ex0 a this
  sepL := fun k k' a q q' => by rw [(liveK_one.mp q).1, (liveK_one.mp q').1]
  sepX := fun a q z => z.2 ⟨p, c, h1, h2, live_one.mp q⟩

theorem cell_apart {as : List (Addr × Addr)} {σ : S} {h : Heap} (x : St T.h₀ Φ as σ h) {j k : Nat} {q : Addr × Addr} {d : Cell} {a : Addr} (hne : j ≠ k) (hq : as[k]? = some q) (hd : σ.heap[k]? = some d) (ha : liveAt q d = some a ∨ a = q.1) (hdd : d ≠ .dead) : ¬ LiveK as σ.heap j a := by
  intro la
  rcases ha with ha | ha
  · exact hne (x.sepL j k a la ⟨q, d, hq, hd, ha⟩)
  · cases d with
    | list xs => exact hne (x.sepL j k a la ⟨q, _, hq, hd, congrArg some ha.symm⟩)
    | dead => exact hdd rfl
    | inst C at' =>
      have h1 := (x.led k q _ hq hd).1
      obtain ⟨p, c, hp, hc, hl⟩ := la
      have := x.led j p c hp hc
      rw [← ha] at h1
      cases c with
      | list xs => obtain ⟨vs, n, ho', _⟩ := this; cases hl; rw [h1] at ho'; cases ho'
      | inst C at' => obtain ⟨_, _, _, ho', _⟩ := this; cases hl; rw [h1] at ho'; cases ho'
      | dead => cases hl

theorem liveK_put {as : List (Addr × Addr)} {hp : List Cell} {j k : Nat} {p : Addr × Addr} {c c' : Cell} {a : Addr} (h1 : as[j]? = some p) (h2 : hp[j]? = some c) : LiveK as (hp.set j c') k a ↔ (k = j ∧ liveAt p c' = some a) ∨ (k ≠ j ∧ LiveK as hp k a) := by
  have hlt := (List.getElem?_eq_some_iff.mp h2).1
  constructor
  · rintro ⟨q, d, hq, hd, e⟩
    by_cases hk : j = k
    · subst hk
      rw [List.getElem?_set_self hlt] at hd; cases hd
      rw [h1] at hq; cases hq
      exact .inl ⟨rfl, e⟩
    · rw [List.getElem?_set_ne hk] at hd
      exact .inr ⟨fun e => hk e.symm, q, d, hq, hd, e⟩
  · rintro (⟨rfl, e⟩ | ⟨hk, q, d, hq, hd, e⟩)
    · exact ⟨p, c', h1, List.getElem?_set_self hlt, e⟩
    · exact ⟨q, d, hq, by rw [List.getElem?_set_ne (fun e => hk e.symm)]; exact hd, e⟩

theorem St.call1 {as : List (Addr × Addr)} {σ : S} {h h' : Heap} {j : Nat} {p : Addr × Addr} {c c' : Cell} {pr : Nat} (x : St T.h₀ Φ as σ h) (h1 : as[j]? = some p) (h2 : σ.heap[j]? = some c) (hpr : pr = if σ.prot ≤ j then 0 else 1)
    (L : LStep [p] [c] pr h [c'] h') (D : Led T.h₀ (exBut Φ as σ.heap j) [p] [c'] h') :
    Step Φ as σ h as (σ.setCell j c') h' ∧ St T.h₀ Φ as (σ.setCell j c') h' ∧ ∀ a, Φ.Ex as (σ.setCell j c').heap a → exBut Φ as σ.heap j a ∨ Live 0 [p] [c'] a := by
  have LP := fun k a => liveK_put (k := k) (a := a) (c' := c') h1 h2
  have lj : ∀ a, Live 0 [p] [c] a → LiveK as σ.heap j a := fun a q => ⟨p, c, h1, h2, live_one.mp q⟩
  have hloc : ∃ o, h.get? Φ.env.locals = some o := let ⟨m, ⟨o, _, _, ho, _⟩, _⟩ := x.loc; ⟨o, ho⟩
  have new : ∀ a, liveAt p c' = some a → LiveK as σ.heap j a ∨ h.get? a = none := fun a q => (L.fresh a (live_one.mpr q)).imp (lj a) id
  have sub : ∀ a, Φ.Ex as (σ.setCell j c').heap a → exBut Φ as σ.heap j a ∨ Live 0 [p] [c'] a := by
    rintro a (q | ⟨k, hk, q⟩)
    · exact .inl ⟨.inl q, fun z => x.sepX a (.inr (.inr ⟨j, Nat.zero_le _, z⟩)) q⟩
    · rcases (LP k a).mp q with ⟨rfl, w⟩ | ⟨hne, w⟩
      · exact .inr (live_one.mpr w)
      · exact .inl ⟨.inr ⟨k, Nat.zero_le _, w⟩, fun z => hne (x.sepL k j a w z)⟩
  have kept : ∀ a o, ¬ LiveK as σ.heap j a → h.get? a = some o → h'.get? a = some o := fun a o na e => L.keep a o (fun q => na (lj a (q.mono (Nat.zero_le _)))) e
  have nj : ∀ a, ¬ Φ.Ex as σ.heap a → ¬ LiveK as σ.heap j a := fun a na q => na (.inr ⟨j, Nat.zero_le _, q⟩)
  have KS : KeepSeq (Φ.Ex as σ.heap) h (Φ.Ex as (σ.setCell j c').heap) h' := by
    intro a o na e _
    refine ⟨kept a o (nj a na) e, fun q => ?_⟩
    rcases sub a q with q | q
    · exact na q.1
    · rcases new a (live_one.mp q) with z | z
      · exact nj a na z
      · rw [e] at z; cases z
  have KS' : KeepSeq (fun a => exBut Φ as σ.heap j a ∨ Live 0 [p] [c'] a) h' (Φ.Ex as (σ.setCell j c').heap) h' := fun a o na e _ => ⟨e, fun q => na (sub a q)⟩
  have hlt := (List.getElem?_eq_some_iff.mp h2).1
  refine ⟨⟨⟨[], by simp⟩, rfl, fun k c₀ hk hc => ?_, fun a o na e => ?_, fun a q => ?_, fun a q => ?_, L.ex⟩, ⟨⟨D.keep, by simp [S.setCell, x.len], ?_, fun i n cc hi => ?_, fun k q d hq hd => ?_, fun a ha => ?_, fun a ha => D.ex0 a (sub a ha)⟩, fun k k' a q q' => ?_, fun a q => ?_, fun a q => ?_, fun a q => ?_⟩, sub⟩
  · show (σ.heap.set j c')[k]? = some c₀
    by_cases e : j = k
    · subst e
      rw [h2] at hc; cases hc
      rw [List.getElem?_set_self hlt]
      rw [if_neg (by (first | lia | omega))] at hpr
      have := L.low 0 c (by rw [hpr]; exact Nat.one_pos) rfl
      simpa using this
    · rw [List.getElem?_set_ne e]; exact hc
  · refine L.keep a o (fun q => na ?_) e
    obtain ⟨k, hk, q⟩ := q
    obtain ⟨rfl, w⟩ := liveK_one.mp q
    split at hpr
    · rename_i hj; exact .inr (.inr ⟨j, hj, p, c, h1, h2, w⟩)
    · rw [hpr] at hk; (first | lia | omega)
  · obtain ⟨k, hk, q⟩ := q
    rcases (LP k a).mp q with ⟨rfl, w⟩ | ⟨_, w⟩
    · exact (new a w).imp (fun z => ⟨k, hk, z⟩) id
    · exact .inl ⟨k, hk, w⟩
  · obtain ⟨k, hk, q⟩ := q
    rcases (LP k a).mp q with ⟨rfl, w⟩ | ⟨_, w⟩
    · exact (new a w).imp (fun z => ⟨k, hk, z⟩) id
    · exact .inl ⟨k, hk, w⟩
  · obtain ⟨m, hm, hl⟩ := x.loc
    refine ⟨m, hm.at' fun o q => kept _ o (fun z => (x.sepF _ ⟨j, Nat.zero_le _, z⟩).1 rfl) q, fun i n d hi hd => let ⟨v, hv, r⟩ := hl i n d hi hd; ⟨v, hv, r.keep0 KS⟩⟩
  · obtain ⟨ov, ⟨o, ho, hd⟩, hl⟩ := x.cel i n cc hi
    refine ⟨ov, ⟨o, kept _ o ?_ ho, hd⟩, fun d hd => let ⟨v, hv, r⟩ := hl d hd; ⟨v, hv, r.keep0 KS⟩⟩
    intro la
    obtain ⟨p', c', hp', hc', hl'⟩ := la
    have := x.led j p' c' hp' hc'
    cases c' with
    | list xs => obtain ⟨vs, n, ho', _⟩ := this; cases hl'; rw [ho] at ho'; cases ho'; cases hd
    | inst C at' => obtain ⟨_, _, _, ho', _⟩ := this; cases hl'; rw [ho] at ho'; cases ho'; cases hd
    | dead => cases hl'
  · change (σ.heap.set j c')[k]? = some d at hd
    by_cases e : j = k
    · subst e
      rw [List.getElem?_set_self hlt] at hd; cases hd
      rw [h1] at hq; cases hq
      exact (D.led 0 p c' rfl rfl).keep KS' fun _ _ _ e => e
    · rw [List.getElem?_set_ne e] at hd
      by_cases hdd : d = .dead
      · subst hdd; trivial
      exact (x.led k q d hq hd).keep KS fun a o ha e' => kept a o (cell_apart x e hq hd ha hdd) e'
  · exact D.xs a ⟨.inl ha, fun z => x.sepX a (.inr (.inr ⟨j, Nat.zero_le _, z⟩)) ha⟩
  · rcases (LP k a).mp q with ⟨e, w⟩ | ⟨hk, w⟩ <;> rcases (LP k' a).mp q' with ⟨e', w'⟩ | ⟨hk', w'⟩
    · rw [e, e']
    · exact absurd ⟨.inr ⟨k', Nat.zero_le _, w'⟩, fun z => hk' (x.sepL k' j a w' z)⟩ (D.sepX a (live_one.mpr w))
    · exact absurd ⟨.inr ⟨k, Nat.zero_le _, w⟩, fun z => hk (x.sepL k j a w z)⟩ (D.sepX a (live_one.mpr w'))
    · exact x.sepL k k' a w w'
  · obtain ⟨k, hk, q⟩ := q
    rcases (LP k a).mp q with ⟨rfl, w⟩ | ⟨_, w⟩
    · rcases new a w with z | z
      · exact x.sepF a ⟨k, hk, z⟩
      · refine ⟨?_, ?_⟩
        · rintro rfl; obtain ⟨o, ho⟩ := hloc; rw [z] at ho; cases ho
        · rintro ⟨i, n, hi⟩
          obtain ⟨ov, ⟨o, ho, _⟩, _⟩ := x.cel i n a (.inl hi)
          rw [z] at ho; cases ho
    · exact x.sepF a ⟨k, hk, w⟩
  · rcases q with q | q | q
    · exact x.fr0 a (.inl q)
    · exact x.fr0 a (.inr (.inl q))
    · exact D.ex0 a (sub a (.inr q))
  · rcases q with q | q | ⟨k, hk, q⟩
    · exact x.sepX a (.inl q)
    · exact x.sepX a (.inr (.inl q))
    · rcases (LP k a).mp q with ⟨rfl, w⟩ | ⟨_, w⟩
      · exact fun hX => D.sepX a (live_one.mpr w) ⟨.inl hX, fun z => x.sepX a (.inr (.inr ⟨k, Nat.zero_le _, z⟩)) hX⟩
      · exact x.sepX a (.inr (.inr ⟨k, hk, w⟩))
end
end Mine
end
section
namespace Mine
open PySem PySem.W PyProof.Rows PySem.Calls PySem.SeqAt

section
variable {T : TI} {A : Around} {Φ : FI}

theorem AvsOk.nil : AvsOk T A Φ [] nilP := by
  intro σ ds as s pos Q E h x k; cases h
  exact wpAny_items_nil (k [] s.heap s.toks (Ext.refl _) rfl)
theorem AvsOk.cons {e : Expr} {es : List Expr} {p : S → Option D} {ps : S → Option (List V)} (he : PvOk T A Φ e p) (hes : AvsOk T A Φ es ps) (hst : starEach (e :: es) Φ.env = (false, eval e Φ.env) :: starEach es Φ.env) : AvsOk T A Φ (e :: es) (consP (fun σ => (p σ).map V.d) ps) := by
  intro σ ds as s pos Q E h x k
  obtain ⟨d, ds, hd, hds, rfl⟩ := consP_some h
  cases hp : p σ with
  | none => simp only [hp] at hd; cases hd
  | some d' =>
    simp only [hp, Option.map_some, Option.some.injEq] at hd
    subst hd
    refine wpAny_items_cons (he σ d' as s _ E hp x fun v h₁ t₁ e₁ r₁ => ?_) hst
    refine hes σ ds as { s with heap := h₁, toks := t₁ } pos _ E hds (x.ext e₁) fun vs h₂ t₂ e₂ r₂ => ?_
    exact k (v :: vs) h₂ t₂ (e₁.trans e₂) ⟨v, vs, rfl, r₁.keep e₂.keepSeq, r₂⟩
noncomputable def anyget (i : Nat) (σ : S) : Option V := match σ.vars[i]? with
  | some (some v) => some v
  | _ => none
theorem anyget_some {i : Nat} {σ : S} {v : V} (h : anyget i σ = some v) : σ.vars[i]? = some (some v) := by
  unfold anyget at h
  split at h
  · rename_i q; cases h; exact q
  · cases h
theorem AvsOk.consName {n : Str} {pos : Pos} {es : List Expr} {ps : S → Option (List V)} (i : Nat) (F : FOk Φ) (hs : SlotIs Φ i n) (hd : (n == ("__debug__" : Str)) = false) (hes : AvsOk T A Φ es ps) (hst : starEach (.Name n pos :: es) Φ.env = (false, eval (.Name n pos) Φ.env) :: starEach es Φ.env) : AvsOk T A Φ (.Name n pos :: es) (consP (anyget i) ps) := by
  intro σ ds as s pos Q E h x k
  obtain ⟨d, ds, hd', hds, rfl⟩ := consP_some h
  refine wpAny_items_cons (name_slot F hs x (anyget_some hd') (fun u r => ?_) hd) hst
  refine hes σ ds as s pos _ E hds x fun vs h₂ t₂ e₂ r₂ => ?_
  exact k (u :: vs) h₂ t₂ e₂ ⟨u, vs, rfl, r.keep0 e₂.keepSeq, r₂⟩

noncomputable def CaOk (T : TI) (A : Around) (Φ : FI) (e : Expr) (fv : Value) (ps : S → Option (List V)) : Prop :=
  ∀ (σ : S) (ds : List V) (as : List (Addr × Addr)) (s : Shared) (Q : Value → Shared → Prop) (E : Value → Shared → Prop), ps σ = some ds → View T.h₀ Φ as σ s.heap →
    (∀ vals h' tk, Ext s.heap h' → RepVs (Φ.Ex as σ.heap) as h' ds vals → wpAny (model T.prog T.w) A (call fv vals) Q E { s with heap := h', toks := tk }) → wpAny (model T.prog T.w) A (eval e Φ.env) Q E s

theorem CaOk.name {n : Str} {fv : Value} {np pos : Pos} {e : Expr} {es : List Expr} {ps : S → Option (List V)} (F : FOk Φ) (hk : Φ.env.kindOf n = some .globalImplicit) (hg : nsIn T.K mainGlobals n = some (some fv)) (hd : (n == ("__debug__" : Str)) = false)
    (hkeep : keepIn T.K fv = true) (hst : starEach (e :: es) Φ.env = (false, eval e Φ.env) :: starEach es Φ.env) (hplain : (backTo pos (starEach es Φ.env)).any (·.1) = false)
    (hp : AvsOk T A Φ (e :: es) ps) : CaOk T A Φ (.Call (.Name n np) (e :: es) [] pos) fv ps := by
  intro σ ds as s Q E h x k
  refine wpAny_Call_ofName (glob_name F hk x hg ?_ hd)
  refine callWith_K T.X hkeep (hp σ ds as s pos _ E h x fun vs h' tk e r => ?_) hst hplain
  exact ⟨(x.ext e).kin, k vs h' tk e r⟩

noncomputable def selfP (i : Nat) (C : Addr) (ps : S → Option (List V)) (σ : S) : Option (List V) := (instR i C σ).bind fun r => (ps σ).map (V.r r.1 :: ·)
theorem selfP_some {i : Nat} {C : Addr} {ps : S → Option (List V)} {σ : S} {ds : List V} (h : selfP i C ps σ = some ds) : ∃ r ds', instR i C σ = some r ∧ ps σ = some ds' ∧ ds = V.r r.1 :: ds' := by
  unfold selfP at h
  cases hr : instR i C σ with
  | none => rw [hr] at h; cases h
  | some r =>
    rw [hr, Option.bind_some] at h
    cases hp : ps σ with
    | none => rw [hp] at h; cases h
    | some ds' => rw [hp] at h; cases h; exact ⟨r, ds', rfl, rfl, rfl⟩
theorem getMethod_inst {pl : Sem Bool} {C fa : Addr} {m : Str} {p : Addr × Addr} {xs : List D} {N : Addr → Prop} {s : Shared} {Q : Value × List Value → Shared → Prop} {E : Value → Shared → Prop} (hC : ClsOk T C) (KI : T.K.In s.heap) (hc : CellOk N s.heap p (.inst C xs))
    (hm : findIn T.K (.ref C) m = some (some (.ref fa))) (ht : typeIn T.K (.ref fa) = some (.type "function")) (hn : m ∉ attrNames) (h : Q (.ref fa, [.ref p.1]) s) : wpAny (model T.prog T.w) A (getMethod (.ref p.1) m pl) Q E s := by
  obtain ⟨es, n, I, hdict, hkeys, hrep⟩ := inst_at hc
  refine method_fn KI I hC.ga hC.gt hm ht ?_ h
  show (lookIn m (dictOf es n)).map _ = _
  rw [lookIn_dict, hkeys.getL_not hn]; rfl
theorem CaOk.method {n m : Str} {C fa : Addr} {np apos pos : Pos} {e : Expr} {es : List Expr} {ps : S → Option (List V)} {pl : Sem Bool} (i : Nat) (F : FOk Φ) (hs : SlotIs Φ i n) (hd : (n == ("__debug__" : Str)) = false) (hC : ClsOk T C)
    (hm : findIn T.K (.ref C) m = some (some (.ref fa))) (ht : typeIn T.K (.ref fa) = some (.type "function")) (hn : m ∉ attrNames) (hkeep : keepIn T.K (.ref fa) = true)
    (he : eval (.Call (.Attribute (.Name n np) m apos) (e :: es) [] pos) Φ.env = (do
      let ov ← eval (.Name n np) Φ.env
      standAt apos.atName
      let (f, first) ← holding [ov] (getMethod ov m pl)
      callWith pos f first (backTo pos (starEach (e :: es) Φ.env)) (backToKw pos (keywordEach [] Φ.env))))
    (hst : starEach (e :: es) Φ.env = (false, eval e Φ.env) :: starEach es Φ.env) (hplain : (backTo pos (starEach es Φ.env)).any (·.1) = false)
    (hp : AvsOk T A Φ (e :: es) ps) : CaOk T A Φ (.Call (.Attribute (.Name n np) m apos) (e :: es) [] pos) (.ref fa) (selfP i C ps) := by
  intro σ ds as s Q E h x k
  obtain ⟨⟨j, xs⟩, ds', hr, hds, rfl⟩ := selfP_some h
  obtain ⟨hv, hc⟩ := instR_some hr
  refine methodCall_KW (name_slot F hs x hv (fun u ru => ?_) hd) he
  obtain ⟨p, hp', rfl⟩ := ru
  refine getMethod_inst hC x.kin (x.led j p _ hp' hc) hm ht hn ?_
  refine callWith_K T.X hkeep (hp σ ds' as s pos _ E hds x fun vs h' tk e r => ?_) hst hplain
  exact ⟨(x.ext e).kin, k (.ref p.1 :: vs) h' tk e ⟨.ref p.1, vs, rfl, ⟨p, hp', rfl⟩, r⟩⟩
theorem RoomA.mono {r r' : Nat} (h : r ≤ r') (hA : RoomA r' A) : RoomA r A := ⟨hA.handled, by have := hA.depth; (first | lia | omega), by have := hA.units; (first | lia | omega)⟩
noncomputable def dataV : List V → Option (List D)
  | [] => some []
  | .d d :: vs => (dataV vs).map (d :: ·)
  | .r _ :: _ => none
noncomputable def oneRef : List V → Option Nat
  | [] => none
  | .d _ :: vs => oneRef vs
  | .r k :: vs => if vs.all (fun v => match v with | .r j => j == k | _ => true) then some k else none
noncomputable def ren : V → V
  | .d d => .d d
  | .r _ => .r 0
theorem ren_rep {N : Addr → Prop} {as : List (Addr × Addr)} {h : Heap} {j : Nat} {p : Addr × Addr} (hp : as[j]? = some p) : ∀ {ds : List V} {vs : List Value}, (∀ k, V.r k ∈ ds → k = j) → RepVs N as h ds vs → RepVs N [p] h (ds.map ren) vs
  | [], _, _, x => x
  | .d d :: ds, _, hk, ⟨v, r, e, hv, hr⟩ => ⟨v, r, e, hv, ren_rep hp (fun k hm => hk k (List.mem_cons_of_mem _ hm)) hr⟩
  | .r k :: ds, _, hk, ⟨v, r, e, ⟨q, hq, e'⟩, hr⟩ => by
    have := hk k List.mem_cons_self
    subst this
    rw [hp] at hq; cases hq
    exact ⟨v, r, e, ⟨p, rfl, e'⟩, ren_rep hp (fun k hm => hk k (List.mem_cons_of_mem _ hm)) hr⟩
theorem oneRef_some : ∀ {ds : List V} {j : Nat}, oneRef ds = some j → ∀ k, V.r k ∈ ds → k = j
  | [], _, h, _, _ => by cases h
  | .d _ :: ds, j, h, k, hm => oneRef_some (ds := ds) h k (by simpa using hm)
  | .r l :: ds, j, h, k, hm => by
    unfold oneRef at h
    split at h
    · rename_i q
      cases h
      rcases List.mem_cons.mp hm with e | hm
      · cases e; rfl
      · have := List.all_eq_true.mp q _ hm
        exact beq_iff_eq.mp this
    · cases h
theorem noRef_rep {N : Addr → Prop} {as as' : List (Addr × Addr)} {h : Heap} : ∀ {ds : List V} {xs : List D} {vs : List Value}, dataV ds = some xs → RepVs N as h ds vs → RepVs N as' h ds vs
  | [], _, _, _, x => x
  | .d d :: ds, xs, _, e, ⟨v, r, e', hv, hr⟩ => by
    unfold dataV at e
    cases hd : dataV ds with
    | none => rw [hd] at e; cases e
    | some ys => exact ⟨v, r, e', hv, noRef_rep hd hr⟩
  | .r k :: ds, _, _, e, _ => by cases e

noncomputable def call0 (F : Fun) (ps : S → Option (List V)) (σ : S) : Option D := (ps σ).bind fun ds => (dataV ds).bind fun _ => (F ds [] 0).map (·.1)
theorem PvOk.call0 {e : Expr} {fv : Value} {ps : S → Option (List V)} {r : Nat} {F : Fun} (hc : CaOk T A Φ e fv ps) (hF : FnOk T r fv F) (hA : RoomA r A) : PvOk T A Φ e (call0 F ps) := by
  intro σ d as s Q E h x k
  unfold Mine.call0 at h
  cases hds : ps σ with
  | none => rw [hds] at h; cases h
  | some ds =>
  rw [hds, Option.bind_some] at h
  cases hd : dataV ds with
  | none => rw [hd] at h; cases h
  | some xs =>
  rw [hd, Option.bind_some] at h
  cases hr : F ds [] 0 with
  | none => rw [hr] at h; cases h
  | some res =>
  obtain ⟨d', hp'⟩ := res
  rw [hr] at h; cases h
  refine hc σ ds as s Q E hds x fun vals h' tk e r => ?_
  have L0 := (x.ext e).led0
  have N0 : (fun a => Φ.Ex as σ.heap a ∨ Live 0 [] [] a) = Φ.Ex as σ.heap := by funext a; exact propext ⟨fun z => z.elim id fun z => (live_nil z).elim, .inl⟩
  refine wpAny_call (hF A _ [] [] 0 ds d' hp' vals { s with heap := h', toks := tk } _ hA hr L0 (by rw [N0]; exact noRef_rep hd r) fun v h'' tk' LS LD rd => ?_)
  have hn : hp' = [] := List.eq_nil_of_length_eq_zero (by rw [← LD.len]; rfl)
  subst hn
  rw [N0] at rd
  exact k v h'' tk' (e.trans fun a o q => LS.keep a o live_nil q) rd

noncomputable def call1 (F : Fun) (ps : S → Option (List V)) (σ : S) : Option D := (ps σ).bind fun ds => (oneRef ds).bind fun j => (σ.heap[j]?).bind fun c => (F (ds.map ren) [c] 1).map (·.1)
theorem PvOk.call1 {e : Expr} {fv : Value} {ps : S → Option (List V)} {r : Nat} {F : Fun} (hc : CaOk T A Φ e fv ps) (hF : FnOk T r fv F) (hA : RoomA r A) : PvOk T A Φ e (call1 F ps) := by
  intro σ d as s Q E h x k
  unfold Mine.call1 at h
  cases hds : ps σ with
  | none => rw [hds] at h; cases h
  | some ds =>
  rw [hds, Option.bind_some] at h
  cases hj : oneRef ds with
  | none => rw [hj] at h; cases h
  | some j =>
  rw [hj, Option.bind_some] at h
  cases hcl : σ.heap[j]? with
  | none => rw [hcl] at h; cases h
  | some c =>
  rw [hcl, Option.bind_some] at h
  cases hr : F (ds.map ren) [c] 1 with
  | none => rw [hr] at h; cases h
  | some res =>
  obtain ⟨d', hp'⟩ := res
  rw [hr] at h; cases h
  obtain ⟨p, hp⟩ : ∃ p, as[j]? = some p := by
    have := (List.getElem?_eq_some_iff.mp hcl).1
    rw [← x.len] at this
    exact ⟨_, List.getElem?_eq_getElem this⟩
  refine hc σ ds as s Q E hds x fun vals h' tk e r => ?_
  have L1 := (x.ext e).led1 hp hcl
  refine wpAny_call (hF A _ [p] [c] 1 (ds.map ren) d' hp' vals { s with heap := h', toks := tk } _ hA hr L1 (by rw [exBut_all hp hcl]; exact ren_rep hp (oneRef_some hj) r) fun v h'' tk' LS LD rd => ?_)
  have hc' : hp' = [c] := by
    have h0 := LS.low 0 c Nat.one_pos rfl
    have hl := LD.len
    cases hp' with
    | nil => cases h0
    | cons c₁ t =>
      cases t with
      | nil => simp at h0; rw [h0]
      | cons _ _ => simp at hl
  subst hc'
  rw [exBut_all hp hcl] at rd
  refine k v h'' tk' (e.trans fun a o q => LS.keep a o ?_ q) rd
  rintro ⟨k, hk, z⟩
  have := (liveK_one.mp z).1
  (first | lia | omega)

noncomputable def callE (F : Fun) (ps : S → Option (List V)) (σ : S) : Option (V × S) := (ps σ).bind fun ds => (oneRef ds).bind fun j => (σ.heap[j]?).bind fun c => (F (ds.map ren) [c] (if σ.prot ≤ j then 0 else 1)).bind fun r => match r.2 with
  | [c'] => some (.d r.1, σ.setCell j c')
  | _ => none
theorem EvOk.callE {e : Expr} {fv : Value} {ps : S → Option (List V)} {r : Nat} {F : Fun} (hc : CaOk T A Φ e fv ps) (hF : FnOk T r fv F) (hA : RoomA r A) : EvOk T A Φ e (callE F ps) := by
  intro σ d σ' as s Q E h x k
  unfold Mine.callE at h
  cases hds : ps σ with
  | none => rw [hds] at h; cases h
  | some ds =>
  rw [hds, Option.bind_some] at h
  cases hj : oneRef ds with
  | none => rw [hj] at h; cases h
  | some j =>
  rw [hj, Option.bind_some] at h
  cases hcl : σ.heap[j]? with
  | none => rw [hcl] at h; cases h
  | some c =>
  rw [hcl, Option.bind_some] at h
  cases hr : F (ds.map ren) [c] (if σ.prot ≤ j then 0 else 1) with
  | none => rw [hr] at h; cases h
  | some res =>
  obtain ⟨d', hp'⟩ := res
  rw [hr, Option.bind_some] at h
  dsimp only at h
  split at h
  case h_2 => cases h
  rename_i c'
  cases h
  obtain ⟨p, hp⟩ : ∃ p, as[j]? = some p := by
    have := (List.getElem?_eq_some_iff.mp hcl).1
    rw [← x.len] at this
    exact ⟨_, List.getElem?_eq_getElem this⟩
  refine hc σ ds as s Q E hds x.toView fun vals h' tk e r => ?_
  have x₁ := x.ext e
  have L1 := x₁.toView.led1 hp hcl
  refine wpAny_call (hF A _ [p] [c] _ (ds.map ren) d' [c'] vals { s with heap := h', toks := tk } _ hA hr L1 (by rw [exBut_all hp hcl]; exact ren_rep hp (oneRef_some hj) r) fun v h'' tk' LS LD rd => ?_)
  obtain ⟨st, x₂, sub⟩ := x₁.call1 hp hcl rfl LS LD
  exact k v as h'' tk' ((Step.ofExt e).trans st) x₂ (RepD.keep (fun a o na e _ => ⟨e, fun z => na (sub a z)⟩) d' v rd)
theorem SkOk.expr {e : Expr} {pos : Pos} {f : S → Option (V × S)} (hf : EvOk T A Φ e f) (hi : interactive Φ.env = false) (hsw : swapsWith e none pos.line Φ.env = pure false) : SkOk T A Φ (.Expr e pos) (fun σ => (f σ).map fun r => (.next, r.2)) := by
  intro σ d σ' as s Q E h x k
  cases hr : f σ with
  | none => simp only [hr] at h; cases h
  | some r =>
    obtain ⟨v, σ₁⟩ := r
    simp only [hr, Option.map_some] at h
    cases h
    exact wpAny_Expr_any (hf σ v σ' as s _ E hr x fun u as₁ h₁ t₁ st₁ x₁ r₁ => k .next as₁ h₁ t₁ st₁ x₁ rfl) hi hsw
end
end Mine
end
section
namespace Mine
open PySem PySem.W PyProof.Rows PySem.Calls PySem.SeqAt

section
variable {T : TI} {A : Around} {Φ : FI}

theorem RoomA.make {r : Nat} (h : RoomA (r + 1) A) (C : Addr) (vals : List Value) : RoomA r (A.under (.builtin "type.__call__" ⟨.ref C :: vals, []⟩)) :=
  ⟨h.handled, by have := h.depth; show A.depth + 1 + r < _; (first | lia | omega), by have := h.units; have e : (Code.builtin "type.__call__" ⟨.ref C :: vals, []⟩).cUnits = 1 := rfl; show A.units + (Code.builtin "type.__call__" ⟨.ref C :: vals, []⟩).cUnits + 8 * r + 100 < _; (first | lia | omega)⟩
noncomputable def newF (C : Addr) (F : Fun) (ps : S → Option (List V)) (σ : S) : Option (V × S) := (ps σ).bind fun ds => (dataV ds).bind fun _ => (F (.r 0 :: ds) [.inst C []] 0).bind fun r => match r with
  | (.none, [c]) => some (.r σ.heap.length, σ.addCell c)
  | _ => none
theorem EvOk.new {e : Expr} {C fI : Addr} {ps : S → Option (List V)} {r : Nat} {F : Fun} (hc : CaOk T A Φ e (.ref C) ps) (hF : FnOk T r (.ref fI) F) (hA : RoomA (r + 1) A) (hm : makesIn T.K C = true)
    (hi : findIn T.K (.ref C) "__init__" = some (some (.ref fI))) (hf : typeIn T.K (.ref fI) = some (.type "function")) : EvOk T A Φ e (newF C F ps) := by
  intro σ d σ' as s Q E h x k
  unfold newF at h
  cases hds : ps σ with
  | none => rw [hds] at h; cases h
  | some ds =>
  rw [hds, Option.bind_some] at h
  cases hd : dataV ds with
  | none => rw [hd] at h; cases h
  | some xs =>
  rw [hd, Option.bind_some] at h
  cases hr : F (.r 0 :: ds) [.inst C []] 0 with
  | none => rw [hr] at h; cases h
  | some res =>
  rw [hr, Option.bind_some] at h
  split at h
  case h_2 => cases h
  rename_i _ c
  cases h
  refine hc σ ds as s Q E hds x.toView fun vals h₁ t₁ e₁ rv => wpAny_call ?_
  have x₁ := x.ext e₁
  have KI := x₁.toView.kin
  let h₂ := (h₁.push emptyDict).push (instObj C h₁.objs.size)
  have e₂ : Ext h₁ h₂ := (Ext.push _ _).trans (Ext.push _ _)
  have hx : h₂.get? (h₁.objs.size + 1) = some (instObj C h₁.objs.size) := by
    have := Heap.get?_push_size (h₁.push emptyDict) (o := instObj C h₁.objs.size) rfl
    rwa [Heap.size_push] at this
  have hdx : h₂.get? h₁.objs.size = some (dictOf [] 0) := Heap.get?_push_of_some _ (Heap.get?_push_size h₁ (o := emptyDict) rfl)
  have nd : h₁.get? h₁.objs.size = none := get?_size h₁
  have p : Addr × Addr := (h₁.objs.size + 1, h₁.objs.size)
  have lv : ∀ a, Live 0 [(h₁.objs.size + 1, h₁.objs.size)] [.inst C []] a ↔ a = h₁.objs.size := fun a => by
    rw [live_one]; exact ⟨fun q => by cases q; rfl, fun q => by rw [q]; rfl⟩
  have L0 := x₁.toView.led0
  have x₂ := x₁.ext e₂
  have LD : Led T.h₀ (Φ.Ex as σ.heap) [(h₁.objs.size + 1, h₁.objs.size)] [.inst C []] h₂ := by
    refine ⟨x₂.keep, rfl, fun k q d hq hd => ?_, fun a ha => let ⟨o, ho⟩ := L0.xs a ha; ⟨o, e₂ a o ho⟩, fun a ha => ?_, fun k k' a q q' => by rw [(liveK_one.mp q).1, (liveK_one.mp q').1], fun a q z => ?_⟩
    · cases k with
      | zero =>
        simp at hq hd
        subst hq hd
        exact ⟨hx, [], 0, hdx, trivial, rfl⟩
      | succ k => simp at hq
    · rcases ha with ha | ha
      · exact x.ex0 a ha
      · rw [(lv a).mp ha]
        cases q : T.h₀.get? h₁.objs.size with
        | none => rfl
        | some o => rw [x₁.keep _ o q] at nd; cases nd
    · rw [(lv a).mp q] at z
      exact x₁.toView.freshEx nd z
  have rv' : RepVs (fun a => Φ.Ex as σ.heap a ∨ Live 0 [(h₁.objs.size + 1, h₁.objs.size)] [.inst C []] a) [(h₁.objs.size + 1, h₁.objs.size)] h₂ (.r 0 :: ds) (.ref (h₁.objs.size + 1) :: vals) := by
    refine ⟨_, vals, rfl, ⟨_, rfl, rfl⟩, noRef_rep hd (rv.keep0 fun a o na e _ => ⟨e₂ a o e, fun q => ?_⟩)⟩
    rcases q with q | q
    · exact na q
    · rw [(lv a).mp q, nd] at e; cases e
  refine make_core (makes_of KI hm) (looks_findIn KI hi) (fun self => bind_fn KI self hf) (.inl rfl) ?_
  refine hF _ _ [(h₁.objs.size + 1, h₁.objs.size)] [.inst C []] 0 (.r 0 :: ds) .none [c] (.ref (h₁.objs.size + 1) :: vals) ⟨h₂, s.gens, s.drawn, t₁, s.os⟩ _ (hA.make C vals) hr LD rv' fun v h' tk LS LD' rd => ?_
  refine ⟨rd, ?_⟩
  have none₂ : ∀ a, h₂.get? a = none → h₁.get? a = none := fun a ha => by
    cases q : h₁.get? a with
    | none => rfl
    | some o => rw [e₂ a o q] at ha; cases ha
  have ext : Ext h₁ h' := fun a o e => LS.keep a o (fun q => by rw [(lv a).mp q, nd] at e; cases e) (e₂ a o e)
  have hN : (fun a => Φ.Ex as σ.heap a ∨ Live 0 [(h₁.objs.size + 1, h₁.objs.size)] [c] a) = Φ.Ex (as ++ [(h₁.objs.size + 1, h₁.objs.size)]) (σ.addCell c).heap := by
    funext a
    refine propext ?_
    show _ ↔ (Φ.X a ∨ Live 0 (as ++ _) (σ.heap ++ [c]) a)
    rw [live_push x.len, live_one]
    show ((Φ.X a ∨ Live 0 as σ.heap a) ∨ _) ↔ _
    rw [or_assoc]
    simp
  obtain ⟨st, x'⟩ := x₁.push (p := (h₁.objs.size + 1, h₁.objs.size)) (c := c) ext (fun a ha => (LS.fresh a (live_one.mpr ha)).elim (fun q => by rw [(lv a).mp q]; exact nd) (none₂ a)) fun KS => by
    rw [← hN]
    exact LD'.led 0 _ c rfl rfl
  exact k _ _ h' tk ((Step.ofExt e₁).trans st) x' ⟨(h₁.objs.size + 1, h₁.objs.size), by rw [← x.len]; simp, rfl⟩

noncomputable def binF (g : D → D → Option D) (f₁ f₂ : S → Option (V × S)) (σ : S) : Option (V × S) := (f₁ σ).bind fun r₁ => (f₂ r₁.2).bind fun r₂ => match r₁.1, r₂.1 with
  | .d a, .d b => (g a b).map fun c => (.d c, r₂.2)
  | _, _ => none
theorem EvOk.bin {l r : Expr} {op : Operator} {pos : Pos} {g : D → D → Option D} {f₁ f₂ : S → Option (V × S)} (hg : BinOk T A op g) (hl : EvOk T A Φ l f₁) (hr : EvOk T A Φ r f₂) : EvOk T A Φ (.BinOp l op r pos) (binF g f₁ f₂) := by
  intro σ d σ' as s Q E h x k
  unfold binF at h
  cases h₁ : f₁ σ with
  | none => rw [h₁] at h; cases h
  | some r₁ =>
  obtain ⟨v₁, σ₁⟩ := r₁
  rw [h₁, Option.bind_some] at h
  cases h₂ : f₂ σ₁ with
  | none => simp only [h₂] at h; cases h
  | some r₂ =>
  obtain ⟨v₂, σ₂⟩ := r₂
  simp only [h₂, Option.bind_some] at h
  cases v₁ with
  | r _ => cases h
  | d a =>
  cases v₂ with
  | r _ => cases h
  | d b =>
  simp only at h
  cases hc : g a b with
  | none => rw [hc] at h; cases h
  | some c =>
  rw [hc] at h; cases h
  refine wpAny_BinOp (hl σ _ σ₁ as s _ E h₁ x fun va as₁ h₁ t₁ st₁ x₁ ra => ?_)
  refine hr σ₁ _ σ' as₁ { s with heap := h₁, toks := t₁ } _ E h₂ x₁ fun vb as₂ h₂ t₂ st₂ x₂ rb => ?_
  refine hg a b c _ va vb { s with heap := h₂, toks := t₂ } Q E hc (fun y hy => x₂.toView.freshEx hy) (st₂.repD x₁.toView ra) rb fun v h' tk e r => ?_
  exact k v as₂ h' tk ((st₁.trans st₂).trans (Step.ofExt e)) (x₂.ext e) r

noncomputable def rngF (f : S → Option (V × S)) (σ : S) : Option (List D × S) := (f σ).bind fun r => match r.1 with
  | .d d => (rangeD [d]).map fun xs => (xs, r.2)
  | .r _ => none
theorem EiOk.range {n : Str} {np pos : Pos} {e : Expr} {f : S → Option (V × S)} (hh : A.handled = none) (F : FOk Φ) (hk : Φ.env.kindOf n = some .globalImplicit) (hg : nsIn T.K mainGlobals n = some none) (hb : bootBuiltins n = some (.type "range"))
    (hd : (n == ("__debug__" : Str)) = false) (hn : n ≠ "__name__") (hst : starEach [e] Φ.env = (false, eval e Φ.env) :: starEach [] Φ.env) (hplain : (backTo pos (starEach [] Φ.env)).any (·.1) = false)
    (hf : EvOk T A Φ e f) : EiOk T A Φ (.Call (.Name n np) [e] [] pos) (rngF f) := by
  intro σ xs σ' as s Q E h x k
  unfold rngF at h
  cases hr : f σ with
  | none => rw [hr] at h; cases h
  | some r =>
  obtain ⟨v, σ₁⟩ := r
  rw [hr, Option.bind_some] at h
  cases v with
  | r _ => cases h
  | d d =>
  simp only at h
  cases hx : rangeD [d] with
  | none => rw [hx] at h; cases h
  | some ys =>
  rw [hx] at h; cases h
  obtain ⟨a, b, hab, ha, hb', rfl⟩ := rangeD_some hx
  refine wpAny_Call_ofName (built_name F hk x.toView hg hb ?_ hd hn)
  refine callWith_plain (.inr ⟨_, rfl⟩) hst hplain (wpAny_items_cons (hf σ _ σ' as s _ E hr x fun u as₁ h₁ t₁ st₁ x₁ r₁ => wpAny_items_nil ?_) hst)
  refine range_call hab (s := { s with heap := h₁, toks := t₁ }) ⟨u, [], rfl, r₁, rfl⟩ fun r h₂ t₂ t u v e₂ hr => ?_
  refine range_iter hh (s := { s with heap := h₂, toks := t₂ }) hr ha hb' fun I fp wr n P W h₃ e₃ hw ho hn hst hfp hI hwr hP => ?_
  have e' := e₂.trans e₃
  have none_of : ∀ c, h₂.get? c = none → h₁.get? c = none := fun c hc => by
    cases q : h₁.get? c with
    | none => rfl
    | some o => rw [e₂ _ _ q] at hc; cases hc
  refine k I fp wr n P W as₁ h₃ t₂ (st₁.trans (Step.ofExt e')) (x₁.ext e') hw ho (by rw [hn, List.length_map]) hst (fun c hc => ⟨(hfp c hc).2, fresh_not_own x₁.toView (none_of c (hfp c hc).1)⟩) hI ⟨st₁.ex _ (none_of _ hwr.1), hwr.2⟩ fun i v hi hv => ?_
  obtain ⟨d, hd, t, rfl⟩ := hP i v hi hv
  exact ⟨.int d, by simp [hd], t, rfl⟩

noncomputable def chainP (g₁ g₂ : D → D → Option Bool) (p q r : S → Option D) (σ : S) : Option D := (p σ).bind fun a => (q σ).bind fun b => (r σ).bind fun c => (g₁ a b).bind fun t => if t then (g₂ b c).map .bool else some (.bool false)
theorem PvOk.chain {l m r : Expr} {o₁ o₂ : CmpOp} {pos : Pos} {g₁ g₂ : D → D → Option Bool} {p₁ p₂ p₃ : S → Option D} (h₁ : CmpOk T A o₁ g₁) (h₂ : CmpOk T A o₂ g₂) (hl : PvOk T A Φ l p₁) (hm : PvOk T A Φ m p₂) (hr : PvOk T A Φ r p₃)
    (hmk : lastMarks [o₁, o₂] [m, r] = false) : PvOk T A Φ (.Compare l [o₁, o₂] [m, r] pos) (chainP g₁ g₂ p₁ p₂ p₃) := by
  intro σ d as s Q E h x k
  unfold chainP at h
  cases ha : p₁ σ with
  | none => rw [ha] at h; cases h
  | some a =>
  rw [ha, Option.bind_some] at h
  cases hb : p₂ σ with
  | none => rw [hb] at h; cases h
  | some b =>
  rw [hb, Option.bind_some] at h
  cases hc : p₃ σ with
  | none => rw [hc] at h; cases h
  | some c =>
  rw [hc, Option.bind_some] at h
  cases ht : g₁ a b with
  | none => rw [ht] at h; cases h
  | some t =>
  rw [ht, Option.bind_some] at h
  refine Compare_chain (hl σ a as s _ E ha x fun va h₁' t₁ e₁ ra => ?_) hmk
  refine chain_link (hm σ b as { s with heap := h₁', toks := t₁ } _ E hb (x.ext e₁) fun vb h₂' t₂ e₂ rb => ?_)
  refine h₁ a b t va vb { s with heap := h₂', toks := t₂ } _ E ht (ra.keep e₂.keepSeq).zero rb.zero fun h₃' t₃ e₃ => ?_
  refine wpAny_truthy_bool ?_
  cases t with
  | false =>
    cases h
    exact k _ h₃' t₃ ((e₁.trans e₂).trans e₃) rfl
  | true =>
    simp only [if_true] at h ⊢
    cases hz : g₂ b c with
    | none => rw [hz] at h; cases h
    | some z =>
    rw [hz] at h; cases h
    refine chain_last (hr σ c as { s with heap := h₃', toks := t₃ } _ E hc (((x.ext e₁).ext e₂).ext e₃) fun vc h₄' t₄ e₄ rc => ?_)
    refine h₂ b c z vb vc { s with heap := h₄', toks := t₄ } _ E hz ((rb.keep e₃.keepSeq).keep e₄.keepSeq).zero rc.zero fun h₅' t₅ e₅ => ?_
    exact k _ h₅' t₅ ((((e₁.trans e₂).trans e₃).trans e₄).trans e₅) rfl
end
end Mine
end
section
namespace Mine
open PySem PySem.W PyProof.Rows PySem.Calls PySem.SeqAt

noncomputable def cloGo (cells : List (Str × Addr)) : List (Str × NameKind) → List (Str × Addr) → List (Str × Addr)
  | [], acc => acc
  | x :: r, acc => if x.2 == .free then cloGo cells r ((x.1, (cells.lookup x.1).getD 0) :: acc) else cloGo cells r acc
theorem closure_frame {scope : Scope} {env : Env} (h : ∀ x ∈ scope.names, x.2 = .free → (env.cells.lookup x.1).isSome = true) : closureFor scope env = pure (cloGo env.cells scope.names []) := by
  have go : ∀ (l : List (Str × NameKind)) (acc : List (Str × Addr)), (∀ x ∈ l, x.2 = .free → (env.cells.lookup x.1).isSome = true) →
      (forIn l acc fun (x : Str × NameKind) (r : List (Str × Addr)) => (match x with
        | (name, kind) => if (kind == NameKind.free) = true then do let a ← cellOf env name; pure (ForInStep.yield ((name, a) :: r)) else pure (ForInStep.yield r) : Sem (ForInStep (List (Str × Addr))))) = (pure (cloGo env.cells l acc) : Sem _) := by
    intro l
    induction l with
    | nil => intro acc _; rw [List.forIn_nil]; rfl
    | cons x l ih =>
      intro acc hl
      obtain ⟨n, k⟩ := x
      rw [List.forIn_cons]
      unfold cloGo
      by_cases hk : (k == NameKind.free) = true
      · have hs := hl (n, k) List.mem_cons_self (by simpa using hk)
        obtain ⟨c, hc⟩ := Option.isSome_iff_exists.mp hs
        have hc' : cellOf env n = pure c := by unfold cellOf; rw [show env.cells.lookup n = some c from hc]
        simp only [hk, if_true, hc', pure_bind]
        rw [ih _ fun y hy => hl y (List.mem_cons_of_mem _ hy)]
        rw [show env.cells.lookup n = some c from hc]; rfl
      · simp only [hk, if_false, Bool.false_eq_true, pure_bind]
        exact ih _ fun y hy => hl y (List.mem_cons_of_mem _ hy)
  unfold closureFor
  exact (congrArg (fun m => m >>= fun s => (pure s : Sem (List (Str × Addr)))) (go scope.names [] h)).trans (pure_bind _ _)
theorem cloGo_acc {cells : List (Str × Addr)} {n : Str} : ∀ {l : List (Str × NameKind)} {acc : List (Str × Addr)}, n ∉ l.map (·.1) → (cloGo cells l acc).lookup n = acc.lookup n
  | [], _, _ => rfl
  | x :: r, acc, h => by
    rw [List.map_cons, List.mem_cons, not_or] at h
    unfold cloGo
    split
    · rw [cloGo_acc h.2, List.lookup_cons, show (n == x.1) = false from beq_eq_false_iff_ne.mpr h.1]
    · exact cloGo_acc h.2
theorem cloGo_free {cells : List (Str × Addr)} {n : Str} : ∀ {l : List (Str × NameKind)} {acc : List (Str × Addr)}, (l.map (·.1)).Nodup → l.lookup n = some .free → (cloGo cells l acc).lookup n = some ((cells.lookup n).getD 0)
  | (y, k) :: r, acc, nd, h => by
    rw [List.map_cons, List.nodup_cons] at nd
    rw [List.lookup_cons] at h
    unfold cloGo
    split at h
    · rename_i e
      have e := beq_iff_eq.mp e
      cases h
      subst e
      rw [if_pos (by rfl), cloGo_acc nd.1, List.lookup_cons, beq_self_eq_true]
    · split <;> exact cloGo_free nd.2 h

noncomputable def cslot (cells : List (Str × Addr)) (inames : List (Str × NameKind)) (x : Str × NameKind) : Slot := if x.2 == .cell && inames.lookup x.1 == some .free then .rc x.1 ((cells.lookup x.1).getD 0) else .no
noncomputable def cslots (names : List (Str × NameKind)) (cells : List (Str × Addr)) (inames : List (Str × NameKind)) : List Slot := names.map (cslot cells inames) ++ (inames.filter fun x => x.2 == .local).map fun x => .loc x.1
noncomputable abbrev compOf (fd : FuncData) (L fa : Addr) (X : Addr → Prop) (scope : Scope) (C D : Addr) : FI := compFI (frameOf fd L fa X) (cslots fd.scope.names (cellsFrom (L + 1) fd.scope.names []) scope.names) scope (cloGo (cellsFrom (L + 1) fd.scope.names []) scope.names []) C D

theorem cslots_loc {names inames : List (Str × NameKind)} {cells : List (Str × Addr)} {i : Nat} {n : Str} (h : (cslots names cells inames)[i]? = some (.loc n)) : names.length ≤ i ∧ (inames.filter fun x => x.2 == .local)[i - names.length]? = some (n, .local) := by
  unfold cslots at h
  rw [List.getElem?_append, List.length_map] at h
  split at h
  · rw [List.getElem?_map] at h
    cases hx : names[i]? with
    | none => rw [hx] at h; cases h
    | some x =>
      rw [hx] at h
      simp only [Option.map_some, Option.some.injEq, cslot] at h
      split at h <;> cases h
  · refine ⟨by (first | lia | omega), ?_⟩
    rw [List.getElem?_map] at h
    cases hx : (inames.filter fun x => x.2 == .local)[i - names.length]? with
    | none => rw [hx] at h; cases h
    | some x =>
      rw [hx] at h
      cases h
      have := (List.mem_filter.mp (List.mem_of_getElem? hx)).2
      obtain ⟨a, b⟩ := x
      rw [show b = .local from beq_iff_eq.mp this]
theorem cslots_cell {names inames : List (Str × NameKind)} {cells : List (Str × Addr)} {i : Nat} {n : Str} {c : Addr} (h : (cslots names cells inames)[i]? = some (.rc n c)) : names[i]? = some (n, .cell) ∧ inames.lookup n = some .free ∧ c = (cells.lookup n).getD 0 := by
  unfold cslots at h
  rw [List.getElem?_append, List.length_map] at h
  split at h
  · rw [List.getElem?_map] at h
    cases hx : names[i]? with
    | none => rw [hx] at h; cases h
    | some x =>
      rw [hx] at h
      simp only [Option.map_some, Option.some.injEq, cslot] at h
      split at h
      · rename_i e
        rw [Bool.and_eq_true] at e
        obtain ⟨a, b⟩ := x
        cases h
        exact ⟨by rw [show b = .cell from beq_iff_eq.mp e.1], beq_iff_eq.mp e.2, rfl⟩
      · cases h
  · rw [List.getElem?_map] at h
    cases hx : (inames.filter fun x => x.2 == .local)[i - names.length]? with
    | none => rw [hx] at h; cases h
    | some x => rw [hx] at h; cases h
theorem cslots_ncell {names inames : List (Str × NameKind)} {cells : List (Str × Addr)} {i : Nat} {n : Str} {c : Addr} (h : (cslots names cells inames)[i]? = some (.cell n c)) : False := by
  unfold cslots at h
  rw [List.getElem?_append, List.length_map] at h
  split at h
  · rw [List.getElem?_map] at h
    cases hx : names[i]? with
    | none => rw [hx] at h; cases h
    | some x =>
      rw [hx] at h
      simp only [Option.map_some, Option.some.injEq, cslot] at h
      split at h <;> cases h
  · rw [List.getElem?_map] at h
    cases hx : (inames.filter fun x => x.2 == .local)[i - names.length]? with
    | none => rw [hx] at h; cases h
    | some x => rw [hx] at h; cases h
theorem filter_nodup {l : List (Str × NameKind)} (h : (l.map (·.1)).Nodup) (q : Str × NameKind → Bool) : ((l.filter q).map (·.1)).Nodup := h.sublist ((List.filter_sublist (p := q) (l := l)).map _)
theorem relabel_cell {env : Env} {n : Str} (h1 : env.scope.kind = .function) (h2 : env.kindOf n = some .cell) : ∀ {names : List (Str × NameKind)}, names.lookup n = some .free →
    (names.map fun (n, k) => if (k == NameKind.free && env.scope.kind == .function && env.kindOf n == some .cell) then (n, NameKind.cell) else (n, k)).lookup n = some .cell
  | (y, k) :: r, h => by
    have ih := @relabel_cell env n h1 h2 r
    show List.lookup n ((if (k == NameKind.free && env.scope.kind == .function && env.kindOf y == some .cell) = true then (y, NameKind.cell) else (y, k)) :: _) = _
    rw [List.lookup_cons] at h
    cases hx : n == y with
    | true =>
      rw [hx] at h
      cases h
      rw [if_pos (by rw [← beq_iff_eq.mp hx, h1, h2]; rfl)]
      simp [List.lookup_cons, hx]
    | false =>
      rw [hx] at h
      split <;> (simp only [List.lookup_cons, hx]; exact ih h)
theorem lookup_of_mem {l : List (Str × NameKind)} {n : Str} {k : NameKind} (nd : (l.map (·.1)).Nodup) (h : (n, k) ∈ l) : l.lookup n = some k := by
  obtain ⟨i, hi⟩ := List.getElem?_of_mem h
  exact lookup_at nd hi

section
variable {T : TI} {A : Around}
theorem FOk.comp {fd : FuncData} {L fa : Addr} {X : Addr → Prop} {scope : Scope} {C D : Addr} (F : FOk (frameOf fd L fa X)) (nd : (fd.scope.names.map (·.1)).Nodup) (ind : (scope.names.map (·.1)).Nodup) (hk : scope.kind = .function)
    (hC : ∀ i nm c, CellAt (frameOf fd L fa X) i nm c → c ≠ C) : FOk (compOf fd L fa X scope C D) := by
  have cellF : ∀ (i : Nat) (n : Str) (c : Addr), CellAt (compOf fd L fa X scope C D) i n c → CellAt (frameOf fd L fa X) i n c ∧ scope.names.lookup n = some .free := by
    intro i n c h
    rcases h with h | h
    · exact (cslots_ncell h).elim
    · obtain ⟨h1, h2, rfl⟩ := cslots_cell h
      refine ⟨.inl ?_, h2⟩
      show (slotsOf _ _)[i]? = _
      rw [List.getElem?_map, h1]; rfl
  refine ⟨hk, fun i n h => ?_, fun i n c h => ?_, fun i j n h h' => ?_, fun i j n n' c h h' => F.cellD i j n n' c (cellF i n c h).1 (cellF j n' c h').1, fun i n c h => hC i n c (cellF i n c h).1, F.glob, F.bui⟩
  · obtain ⟨_, h2⟩ := cslots_loc h
    have hm := (List.mem_filter.mp (List.mem_of_getElem? h2)).1
    exact lookup_relabel_local (lookup_of_mem ind hm)
  · obtain ⟨h1, h2⟩ := cellF i n c h
    obtain ⟨h3, h4⟩ := F.cell i n c h1
    refine ⟨relabel_cell F.kind h3 h2, ?_⟩
    show (cloGo _ scope.names []).lookup n = some c
    rw [cloGo_free ind h2]
    rw [show List.lookup n (cellsFrom (L + 1) fd.scope.names []) = some c from h4]; rfl
  · obtain ⟨h1, h2⟩ := cslots_loc h
    obtain ⟨h3, h4⟩ := cslots_loc h'
    have := nodup_at (filter_nodup ind _) h2 h4
    (first | lia | omega)

theorem PvOk.compF {fd : FuncData} {L fa : Addr} {X : Addr → Prop} {elt target iter : Expr} {ifs : List Expr} {scope : Scope} {pos : Pos} {n : Nat} {p : S → Option (List D)} {a : V → S → Option S} {t : S → Option Bool} {pe : S → Option D}
    (F : FOk (frameOf fd L fa X)) (nd : (fd.scope.names.map (·.1)).Nodup) (ind : (scope.names.map (·.1)).Nodup) (hfree : (scope.names.all fun x => x.2 != .free || fd.scope.names.lookup x.1 == some .cell) = true) (hcell : (scope.names.all fun x => x.2 != .cell) = true)
    (hp : ItOk T A (frameOf fd L fa X) iter p) (hkind : scope.kind = .function) (hs : ∀ x, foldedSetIterable iter (frameOf fd L fa X).env x = pure x)
    (ha : ∀ C D, FOk (compOf fd L fa X scope C D) → CtOk T A (compOf fd L fa X scope C D) target a)
    (ht : ∀ C D, FOk (compOf fd L fa X scope C D) → IfsOk T A (compOf fd L fa X scope C D) ifs t)
    (he : ∀ C D, FOk (compOf fd L fa X scope C D) → PvOk T A (compOf fd L fa X scope C D) elt pe) :
    PvOk T A (frameOf fd L fa X) (.ListComp elt [⟨target, iter, ifs, 0⟩] scope pos) (compP fd.scope.names.length n p a t pe) := by
  have hfree' : ∀ x ∈ scope.names, x.2 = .free → fd.scope.names.lookup x.1 = some .cell := fun x hx e => by
    have := List.all_eq_true.mp hfree x hx
    rw [e] at this
    simpa using this
  refine PvOk.comp (slots := cslots fd.scope.names (cellsFrom (L + 1) fd.scope.names []) scope.names) hp (closure_frame fun x hx e => cellsFrom_some _ _ _ (.inl (hfree' x hx e))) (fun y hy => ?_) hkind (fun y hy e => ?_) hs (fun i s hsl => ?_) (fun C D hC => F.comp nd ind hkind hC) ha ht he
  · have := List.all_eq_true.mp hcell y hy
    simpa using this
  · obtain ⟨m, k⟩ := y
    cases e
    exact lookup_of_mem ind hy
  · cases s with
    | loc nm => exact .inl ⟨nm, rfl, (cslots_loc hsl).1⟩
    | cell nm c => exact (cslots_ncell hsl).elim
    | rc nm c =>
      obtain ⟨h1, h2, rfl⟩ := cslots_cell hsl
      refine .inr (.inl ⟨nm, _, rfl, .inl ?_⟩)
      show (slotsOf _ _)[i]? = _
      rw [List.getElem?_map, h1]; rfl
    | no => exact .inr (.inr rfl)
end
end Mine
end
section
namespace Mine
open PySem PySem.W PyProof.Rows PySem.Calls PySem.SeqAt

noncomputable abbrev noP : S → Option (Option Int) := fun _ => some none
noncomputable abbrev partP (p : S → Option D) : S → Option (Option Int) := fun σ => (p σ).bind partD
noncomputable abbrev cbP (g : List D → Option D) (ps : S → Option (List D)) : S → Option D := fun σ => (ps σ).bind g
noncomputable abbrev itP (p : S → Option D) : S → Option (List D) := fun σ => (p σ).bind itemsD
noncomputable abbrev rgP (p : S → Option (List D)) : S → Option (List D) := fun σ => (p σ).bind rangeD
noncomputable abbrev cP (d : D) : S → Option D := fun _ => some d
noncomputable abbrev dV (p : S → Option D) : S → Option V := fun σ => (p σ).map V.d
noncomputable abbrev exF (f : S → Option (V × S)) : S → Option (Fl × S) := fun σ => (f σ).map fun r => (.next, r.2)
noncomputable abbrev neverF : S → Option (Fl × S) := fun _ => none
noncomputable abbrev yesP : S → Option Bool := fun _ => some true
noncomputable abbrev asTrF (k : Nat) (is : List Nat) (f : S → Option (List V × S)) : S → Option (Fl × S) := fun σ => (f σ).bind fun r => if r.1.length = k ∧ r.1.length ≤ 1000 then (asgL (is.reverse.map fun i => Tgt.asg (.one i)) r.1.reverse r.2).map fun σ' => (.next, σ') else none

section
variable {T : TI} {A : Around} {Φ : FI}
theorem SkOk.never {st : Stmt} : SkOk T A Φ st neverF := fun _ _ _ _ _ _ _ h _ _ => by cases h
theorem PvOk.globV {n : Str} {pos : Pos} {d : D} (F : FOk Φ) (hk : Φ.env.kindOf n = some .globalImplicit) (hr : ∃ v, T.mg n = some v ∧ RepD (fun _ => False) T.h₀ d v) (hd : (n == ("__debug__" : Str)) = false) :
    PvOk T A Φ (.Name n pos) (cP d) := by
  intro σ d' as s Q E h x k; cases h
  obtain ⟨v, hv, hr⟩ := hr
  exact Calls.Name_function_global F.kind hk (Calls.loadGlobal_global (by rw [F.glob]; exact T.g.keeps x.keep) hv (k v s.heap s.toks (Ext.refl _) (hr.base x.keep x.ex0))) hd
theorem stores2 {i j : Nat} {n m : Str} (h1 : StoreIs Φ i n) (h2 : StoreIs Φ j m) : [i, j].length = [n, m].length ∧ ∀ (a b : Nat) (nm : Str), [i, j][a]? = some b → [n, m][a]? = some nm → StoreIs Φ b nm := by
  refine ⟨rfl, fun a b nm ha hb => ?_⟩
  match a with
  | 0 => cases ha; cases hb; exact h1
  | 1 => cases ha; cases hb; exact h2
  | a + 2 => simp at ha
theorem CaOk.methodE {n m : Str} {C fa : Addr} {np apos pos : Pos} {e : Expr} {es : List Expr} {ps : S → Option (List V)} (i : Nat) (F : FOk Φ) (hs : SlotIs Φ i n) (hd : (n == ("__debug__" : Str)) = false) (hC : ClsOk T C)
    (hm : findIn T.K (.ref C) m = some (some (.ref fa))) (ht : typeIn T.K (.ref fa) = some (.type "function")) (hn : m ∉ attrNames) (hkeep : keepIn T.K (.ref fa) = true)
    (he : ∃ pl : Sem Bool, eval (.Call (.Attribute (.Name n np) m apos) (e :: es) [] pos) Φ.env = (do
      let ov ← eval (.Name n np) Φ.env
      standAt apos.atName
      let (f, first) ← holding [ov] (getMethod ov m pl)
      callWith pos f first (backTo pos (starEach (e :: es) Φ.env)) (backToKw pos (keywordEach [] Φ.env))))
    (hst : starEach (e :: es) Φ.env = (false, eval e Φ.env) :: starEach es Φ.env) (hplain : (backTo pos (starEach es Φ.env)).any (·.1) = false)
    (hp : AvsOk T A Φ (e :: es) ps) : CaOk T A Φ (.Call (.Attribute (.Name n np) m apos) (e :: es) [] pos) (.ref fa) (selfP i C ps) :=
  let ⟨_, he⟩ := he; CaOk.method i F hs hd hC hm ht hn hkeep he hst hplain hp
theorem SkOk.extendE {n : Str} {np apos pos epos : Pos} {elt : Expr} {p : S → Option D} (i : Nat) (F : FOk Φ) (hs : SlotIs Φ i n) (hd : (n == ("__debug__" : Str)) = false) (hp : PvOk T A Φ elt p)
    (hi : interactive Φ.env = false) (hsw : swapsWith (.Call (.Attribute (.Name n np) "extend" apos) [elt] [] pos) none epos.line Φ.env = pure false)
    (he : ∃ pl : Sem Bool, eval (.Call (.Attribute (.Name n np) "extend" apos) [elt] [] pos) Φ.env = (do
      let ov ← eval (.Name n np) Φ.env
      standAt apos.atName
      let (f, first) ← holding [ov] (getMethod ov "extend" pl)
      callWith pos f first (backTo pos (starEach [elt] Φ.env)) (backToKw pos (keywordEach [] Φ.env))))
    (htrees : backTo pos (starEach [elt] Φ.env) = [(false, eval elt Φ.env)]) : SkOk T A Φ (.Expr (.Call (.Attribute (.Name n np) "extend" apos) [elt] [] pos) epos) (extF i p) :=
  let ⟨_, he⟩ := he; SkOk.extend i F hs hd hp hi hsw _ he htrees

theorem SkOk.assignTrE {ts es : List Expr} {m n k : Nat} {tpos epos pos : Pos} {f : S → Option (List V × S)} {is : List Nat} {names : List Str} (hk : names.length = k) (hh : A.handled = none) (F : FOk Φ) (hf : EvsOk T A Φ es f) (ha : is.length = names.length ∧ ∀ (j : Nat) (i : Nat) (nm : Str), is[j]? = some i → names[j]? = some nm → StoreIs Φ i nm)
    (hs : swapsWithSole [.Tuple ts m tpos] (.Tuple es n epos) pos.line Φ.env = pure false) (hw : swappedStores [.Tuple ts m tpos] (.Tuple es n epos) Φ.env = pure (some names)) :
    SkOk T A Φ (.Assign [.Tuple ts m tpos] (.Tuple es n epos) pos) (asTrF k is f) := by
  subst hk
  exact SkOk.assignTr hh F hf ha hs hw
section
variable {env : Env} {es : List Expr}
theorem stConst {c : Const} {k : Nat} {p : Pos} : starEach (.Constant c k p :: es) env = (false, eval (.Constant c k p) env) :: starEach es env := rfl
theorem stName {n : Str} {p : Pos} : starEach (.Name n p :: es) env = (false, eval (.Name n p) env) :: starEach es env := rfl
theorem stBinOp {a b : Expr} {o : Operator} {p : Pos} : starEach (.BinOp a o b p :: es) env = (false, eval (.BinOp a o b p) env) :: starEach es env := rfl
theorem stIfExp {a b c : Expr} {p : Pos} : starEach (.IfExp a b c p :: es) env = (false, eval (.IfExp a b c p) env) :: starEach es env := rfl
theorem stSubscript {a b : Expr} {p : Pos} : starEach (.Subscript a b p :: es) env = (false, eval (.Subscript a b p) env) :: starEach es env := rfl
theorem stAttribute {a : Expr} {n : Str} {p : Pos} : starEach (.Attribute a n p :: es) env = (false, eval (.Attribute a n p) env) :: starEach es env := rfl
theorem stList {a : List Expr} {p : Pos} : starEach (.List a p :: es) env = (false, eval (.List a p) env) :: starEach es env := rfl
theorem stListComp {a : Expr} {g : List Comprehension} {sc : Scope} {p : Pos} : starEach (.ListComp a g sc p :: es) env = (false, eval (.ListComp a g sc p) env) :: starEach es env := rfl
theorem stCall {a : Expr} {b : List Expr} {k : List Keyword} {p : Pos} : starEach (.Call a b k p :: es) env = (false, eval (.Call a b k p) env) :: starEach es env := rfl
end
theorem FnOk.mk {fa : Addr} {name qual : Str} {params : Arguments} {body : List Stmt} {scope : Scope} {dV kV doc pm cdv ct oc : Value} {an od : Option Addr} {osl : Array (Option Value)} {r : Nat} {f : S → Option (Fl × S)} {names : List (Str × NameKind)} {ps : List Str}
    (ho : T.K.lookup fa = some ⟨oc, od, .func (fnOf name qual params body scope dV kV doc pm an cdv ct), osl⟩) (hcd : codeIn T.K cdv qual = true) (hn : scope.names = names)
    (hbind : ∀ vals : List Value, vals.length = ps.length → bindArgs (fnOf name qual params body scope dV kV doc pm an cdv ct) ⟨vals, []⟩ = pure (ps.zip vals))
    (nd : (names.map (·.1)).Nodup) (hps : ps.Nodup) (hkind : (ps.all fun p => names.lookup p == some .local || names.lookup p == some .cell) = true)
    (hco : scope.isCoroutine = false) (hgen : scope.isGenerator = false) (hk : scope.kind = .function)
    (hb : ∀ (A : Around) (L : Addr) (X : Addr → Prop), RoomA r A → FOk (frameOf (fnOf name qual params body scope dV kV doc pm an cdv ct) L fa X) → BkOk T A (frameOf (fnOf name qual params body scope dV kV doc pm an cdv ct) L fa X) body f) :
    FnOk T (r + 1) (.ref fa) (runF names ps f) := by
  subst hn
  exact FnOk.def ps ho hcd hbind nd hps (fun p hp => by simpa using List.all_eq_true.mp hkind p hp) hco hgen hk hb
end
end Mine
end
section
open PySem PySem.W PyProof.Rows
namespace Mine
/- With this local append of statement lists the head's road in pieces does not type-check, and open_top takes its other road, one check of the whole top:
the compiled head is then 2.5 MB in place of 19 MB (the compiled file must stay under 32 MiB). Nothing else sees it: it is local to this section, and no term of the proof bears it. -/
local instance : HAppend (List Stmt) (List Stmt) (List Stmt) := ⟨fun a _ => a⟩
set_option maxRecDepth 100000 in
set_option maxHeartbeats 8000000 in
open_top hd for PySem.Challenge.rw_tk0097_02
end Mine
end
section
namespace Mine
open PySem PySem.W PyProof.Rows PySem.Calls PySem.SeqAt
set_option maxRecDepth 100000
theorem fill : (PySem.Challenge.rw_tk0097_02 = PySem.Challenge.rw_tk0097_02) ∧ hd.heap_39 = hd.heap_39 := by
  k_fill
  exact ⟨rfl, rfl⟩
set_option maxHeartbeats 8000000

noncomputable def b_cut : S → Option (Fl × S) :=
  seqF (asF (lnewF (nilP)) (Tgt.asg (.one 3))) (seqF (forF (pureF (itP (vget 0))) (Tgt.asg (.tup [4, 5])) (seqF (ifF (pureF (cmpP ltD (vget 4) (cbP min2D (consP (vget 5) (consP (vget 1) (nilP)))))) (seqF (appF 3 (tupP (consP (vget 4) (consP (cbP min2D (consP (vget 5) (consP (vget 1) (nilP)))) (nilP))))) (skip)) (skip)) (seqF (ifF (pureF (cmpP ltD (cbP max2D (consP (vget 4) (consP (vget 2) (nilP)))) (vget 5))) (seqF (appF 3 (tupP (consP (cbP max2D (consP (vget 4) (consP (vget 2) (nilP)))) (consP (vget 5) (nilP))))) (skip)) (skip)) (skip)))) (frzF 3 (seqF (retF (dF (iteP (cmpP ltD (vget 1) (vget 2)) (vget 3) (cbP listD (consP (vget 0) (nilP)))))) (skip))))
noncomputable def n_cut : List (Str × NameKind) := [("spans", .local), ("low", .local), ("high", .local), ("found", .local), ("one", .local), ("other", .local), ("min", .globalImplicit), ("max", .globalImplicit), ("list", .globalImplicit)]
noncomputable def g_cut : Fun := runF n_cut ["spans", "low", "high"] b_cut
theorem k_cut {T : TI} (hK : T.K = hd.heap_39 T.w.params) (hC : ClsOk T 178) (hO : ∃ v, T.mg "OPEN_STATES" = some v ∧ RepD (fun _ => False) T.h₀ (.tup [.str "ready", .str "send"]) v) : FnOk T 1 (.ref 48) g_cut := by
  delta g_cut
  refine FnOk.mk (r := 0) (by rw [hK]; k_is) (by rw [hK]; k_is) rfl (fun vals h => by match vals, h with | [_, _, _], _ => rfl) (by delta n_cut; decide) (by decide) (by delta n_cut; decide) rfl rfl rfl (fun A L X hA F => ?_)
  have hh := hA.handled
  have hu8 : A.units + 8 < cLine := by have := hA.units; (first | lia | omega)
  have hu9 : A.units + 9 < cLine := by have := hA.units; (first | lia | omega)
  delta b_cut
  refine BkOk.cons ?_ ?_
  · refine SkOk.assign ?_ ?_ ?_ ?_ ?_
    · refine EvOk.listNew ?_
      · exact PvsOk.nil
    · refine AsOk.name ?_ ?_
      · exact F
      · exact .inl rfl
    · rfl
    · rfl
    · rfl
  refine BkOk.cons ?_ ?_
  · refine SkOk.for ?_ ?_ ?_ ?_
    · refine ItOk.eff ?_
      · refine ItOk.data ?_ ?_
        · exact hh
        · refine PvOk.name 0 ?_ ?_ ?_
          · exact F
          · exact .inl rfl
          · rfl
    · refine AsOk.names ?_ ?_ ?_ ?_
      · exact hh
      · exact F
      · refine .cons ?_ ?_
        · exact .inl rfl
        · refine .cons ?_ ?_
          · exact .inl rfl
          · exact .nil
      · rfl
    · refine BkOk.cons ?_ ?_
      · refine SkOk.if ?_ ?_ ?_
        · refine TvOk.eff (TvOk.cmp ltOk (PvOk.zero (PvOk.name 4 F (.inl rfl) rfl)) (PvOk.zero (PvOk.callB (f := .builtin "min") F (.inl ⟨_, rfl⟩) rfl (by rw [hK]; k_is) rfl rfl (by decide) rfl rfl (min2Ok hh) (PvsOk.cons (PvOk.name 5 F (.inl rfl) rfl) (PvsOk.cons (PvOk.name 1 F (.inl rfl) rfl) (PvsOk.nil) stName) stName))) rfl)
        · refine BkOk.cons ?_ ?_
          · refine SkOk.append 3 ?_ ?_ ?_ (PvOk.tuple (PvsOk.cons (PvOk.name 4 F (.inl rfl) rfl) (PvsOk.cons (PvOk.callB (f := .builtin "min") F (.inl ⟨_, rfl⟩) rfl (by rw [hK]; k_is) rfl rfl (by decide) rfl rfl (min2Ok hh) (PvsOk.cons (PvOk.name 5 F (.inl rfl) rfl) (PvsOk.cons (PvOk.name 1 F (.inl rfl) rfl) (PvsOk.nil) stName) stName)) (PvsOk.nil) stCall) stName)) ?_ ?_ ?_ ?_ ?_ ?_
            · exact F
            · exact .inl rfl
            · rfl
            · rfl
            · rfl
            · rfl
            · rfl
            · rfl
            · rfl
          exact BkOk.nil
        · exact BkOk.nil
      refine BkOk.cons ?_ ?_
      · refine SkOk.if ?_ ?_ ?_
        · refine TvOk.eff (TvOk.cmp ltOk (PvOk.zero (PvOk.callB (f := .builtin "max") F (.inl ⟨_, rfl⟩) rfl (by rw [hK]; k_is) rfl rfl (by decide) rfl rfl (max2Ok hh) (PvsOk.cons (PvOk.name 4 F (.inl rfl) rfl) (PvsOk.cons (PvOk.name 2 F (.inl rfl) rfl) (PvsOk.nil) stName) stName))) (PvOk.zero (PvOk.name 5 F (.inl rfl) rfl)) rfl)
        · refine BkOk.cons ?_ ?_
          · refine SkOk.append 3 ?_ ?_ ?_ (PvOk.tuple (PvsOk.cons (PvOk.callB (f := .builtin "max") F (.inl ⟨_, rfl⟩) rfl (by rw [hK]; k_is) rfl rfl (by decide) rfl rfl (max2Ok hh) (PvsOk.cons (PvOk.name 4 F (.inl rfl) rfl) (PvsOk.cons (PvOk.name 2 F (.inl rfl) rfl) (PvsOk.nil) stName) stName)) (PvsOk.cons (PvOk.name 5 F (.inl rfl) rfl) (PvsOk.nil) stName) stCall)) ?_ ?_ ?_ ?_ ?_ ?_
            · exact F
            · exact .inl rfl
            · rfl
            · rfl
            · rfl
            · rfl
            · rfl
            · rfl
            · rfl
          exact BkOk.nil
        · exact BkOk.nil
      exact BkOk.nil
    · exact fun _ => rfl
  refine BkOk.freeze 3 ?_
  refine BkOk.cons ?_ ?_
  · refine SkOk.ret (EvOk.pure (PvOk.ite (TvOk.cmp ltOk (PvOk.zero (PvOk.name 1 F (.inl rfl) rfl)) (PvOk.zero (PvOk.name 2 F (.inl rfl) rfl)) rfl) (PvOk.name 3 F (.inl rfl) rfl) (PvOk.callB (f := .type "list") F (.inr ⟨_, rfl⟩) rfl (by rw [hK]; k_is) rfl rfl (by decide) rfl rfl listOk (PvsOk.cons (PvOk.name 0 F (.inl rfl) rfl) (PvsOk.nil) stName))))
  exact BkOk.nil

noncomputable def b_fst : S → Option (Fl × S) :=
  seqF (ifF (pureF (orT [cmpP eqD (cbP lenD (consP (vget 0) (nilP))) (cP (.int 0)), cmpP leD (vget 1) (cP (.int 0))])) (seqF (retF (dF (cP .none))) (skip)) (skip)) (seqF (asF (dF (binP idxD (vget 0) (cP (.int 0)))) (Tgt.asg (.tup [2, 3]))) (seqF (retF (dF (tupP (consP (vget 2) (consP (cbP min2D (consP (vget 3) (consP (binP addD (vget 2) (vget 1)) (nilP)))) (nilP)))))) (skip)))
noncomputable def n_fst : List (Str × NameKind) := [("spans", .local), ("most", .local), ("low", .local), ("high", .local), ("len", .globalImplicit), ("min", .globalImplicit)]
noncomputable def g_fst : Fun := runF n_fst ["spans", "most"] b_fst
theorem k_fst {T : TI} (hK : T.K = hd.heap_39 T.w.params) (hC : ClsOk T 178) (hO : ∃ v, T.mg "OPEN_STATES" = some v ∧ RepD (fun _ => False) T.h₀ (.tup [.str "ready", .str "send"]) v) : FnOk T 1 (.ref 55) g_fst := by
  delta g_fst
  refine FnOk.mk (r := 0) (by rw [hK]; k_is) (by rw [hK]; k_is) rfl (fun vals h => by match vals, h with | [_, _], _ => rfl) (by delta n_fst; decide) (by decide) (by delta n_fst; decide) rfl rfl rfl (fun A L X hA F => ?_)
  have hh := hA.handled
  have hu8 : A.units + 8 < cLine := by have := hA.units; (first | lia | omega)
  have hu9 : A.units + 9 < cLine := by have := hA.units; (first | lia | omega)
  delta b_fst
  refine BkOk.cons ?_ ?_
  · refine SkOk.if ?_ ?_ ?_
    · refine TvOk.eff (TvOk.or (.cons (TvOk.cmp (eqOk hu8) (PvOk.zero (PvOk.callB0 (f := .builtin "len") F (.inl ⟨_, rfl⟩) rfl (by rw [hK]; k_is) rfl rfl (by decide) rfl rfl lenOk (P0sOk.cons (PvOk.zero (PvOk.name 0 F (.inl rfl) rfl)) (P0sOk.nil) stName))) (PvOk.zero (PvOk.const_int)) rfl) (.cons (TvOk.cmp leOk (PvOk.zero (PvOk.name 1 F (.inl rfl) rfl)) (PvOk.zero (PvOk.const_int)) rfl) (.nil))))
    · refine BkOk.cons ?_ ?_
      · refine SkOk.ret ?_
        · refine EvOk.pure ?_
          · exact PvOk.const_none
      exact BkOk.nil
    · exact BkOk.nil
  refine BkOk.cons ?_ ?_
  · refine SkOk.assign ?_ ?_ ?_ ?_ ?_
    · refine EvOk.pure ?_
      · refine PvOk.index ?_ ?_
        · refine PvOk.name 0 ?_ ?_ ?_
          · exact F
          · exact .inl rfl
          · rfl
        · exact PvOk.const_int
    · refine AsOk.names ?_ ?_ ?_ ?_
      · exact hh
      · exact F
      · refine .cons ?_ ?_
        · exact .inl rfl
        · refine .cons ?_ ?_
          · exact .inl rfl
          · exact .nil
      · rfl
    · rfl
    · rfl
    · rfl
  refine BkOk.cons ?_ ?_
  · refine SkOk.ret (EvOk.pure (PvOk.tuple (PvsOk.cons (PvOk.name 2 F (.inl rfl) rfl) (PvsOk.cons (PvOk.callB (f := .builtin "min") F (.inl ⟨_, rfl⟩) rfl (by rw [hK]; k_is) rfl rfl (by decide) rfl rfl (min2Ok hh) (PvsOk.cons (PvOk.name 3 F (.inl rfl) rfl) (PvsOk.cons (PvOk.bin addOk (PvOk.name 2 F (.inl rfl) rfl) (PvOk.name 1 F (.inl rfl) rfl)) (PvsOk.nil) stBinOp) stName)) (PvsOk.nil) stCall) stName)))
  exact BkOk.nil

noncomputable def b_init : S → Option (Fl × S) :=
  seqF (atF (dF (vget 1)) 0 178 0) (seqF (atF (dF (cP (.str "ready"))) 0 178 1) (seqF (atF (dF (cP (.bytes []))) 0 178 2) (seqF (atF (dF (cP (.int 0))) 0 178 3) (seqF (atF (dF (lstP (nilP))) 0 178 4) (seqF (atF (dF (lstP (nilP))) 0 178 5) (seqF (atF (dF (cP (.bool false))) 0 178 6) (seqF (atF (dF (cP (.bool false))) 0 178 7) (seqF (atF (dF (cP (.bool false))) 0 178 8) (seqF (atF (dF (cP .none)) 0 178 9) (seqF (atF (dF (cP (.bool false))) 0 178 10) (skip)))))))))))
noncomputable def n_init : List (Str × NameKind) := [("self", .local), ("limit", .local), ("READY", .globalImplicit)]
noncomputable def g_init : Fun := runF n_init ["self", "limit"] b_init
theorem k_init {T : TI} (hK : T.K = hd.heap_39 T.w.params) (hC : ClsOk T 178) (hO : ∃ v, T.mg "OPEN_STATES" = some v ∧ RepD (fun _ => False) T.h₀ (.tup [.str "ready", .str "send"]) v) : FnOk T 1 (.ref 70) g_init := by
  delta g_init
  refine FnOk.mk (r := 0) (by rw [hK]; k_is) (by rw [hK]; k_is) rfl (fun vals h => by match vals, h with | [_, _], _ => rfl) (by delta n_init; decide) (by decide) (by delta n_init; decide) rfl rfl rfl (fun A L X hA F => ?_)
  have hh := hA.handled
  have hu8 : A.units + 8 < cLine := by have := hA.units; (first | lia | omega)
  have hu9 : A.units + 9 < cLine := by have := hA.units; (first | lia | omega)
  delta b_init
  refine BkOk.cons ?_ ?_
  · refine SkOk.assignAttr 0 178 0 ?_ ?_ ?_ ?_ ?_ ?_ ?_
    · exact F
    · exact .inl rfl
    · rfl
    · exact hC
    · rfl
    · refine EvOk.pure ?_
      · refine PvOk.name 1 ?_ ?_ ?_
        · exact F
        · exact .inl rfl
        · rfl
    · rfl
  refine BkOk.cons ?_ ?_
  · refine SkOk.assignAttr 0 178 1 ?_ ?_ ?_ ?_ ?_ ?_ ?_
    · exact F
    · exact .inl rfl
    · rfl
    · exact hC
    · rfl
    · refine EvOk.pure ?_
      · exact PvOk.glob F rfl (by rw [hK]; k_is) ⟨_, rfl⟩ rfl
    · rfl
  refine BkOk.cons ?_ ?_
  · refine SkOk.assignAttr 0 178 2 ?_ ?_ ?_ ?_ ?_ ?_ ?_
    · exact F
    · exact .inl rfl
    · rfl
    · exact hC
    · rfl
    · refine EvOk.pure ?_
      · exact PvOk.const_bytes
    · rfl
  refine BkOk.cons ?_ ?_
  · refine SkOk.assignAttr 0 178 3 ?_ ?_ ?_ ?_ ?_ ?_ ?_
    · exact F
    · exact .inl rfl
    · rfl
    · exact hC
    · rfl
    · refine EvOk.pure ?_
      · exact PvOk.const_int
    · rfl
  refine BkOk.cons ?_ ?_
  · refine SkOk.assignAttr 0 178 4 ?_ ?_ ?_ ?_ ?_ ?_ ?_
    · exact F
    · exact .inl rfl
    · rfl
    · exact hC
    · rfl
    · refine EvOk.pure ?_
      · refine PvOk.list ?_
        · exact PvsOk.nil
    · rfl
  refine BkOk.cons ?_ ?_
  · refine SkOk.assignAttr 0 178 5 ?_ ?_ ?_ ?_ ?_ ?_ ?_
    · exact F
    · exact .inl rfl
    · rfl
    · exact hC
    · rfl
    · refine EvOk.pure ?_
      · refine PvOk.list ?_
        · exact PvsOk.nil
    · rfl
  refine BkOk.cons ?_ ?_
  · refine SkOk.assignAttr 0 178 6 ?_ ?_ ?_ ?_ ?_ ?_ ?_
    · exact F
    · exact .inl rfl
    · rfl
    · exact hC
    · rfl
    · refine EvOk.pure ?_
      · exact PvOk.const_bool
    · rfl
  refine BkOk.cons ?_ ?_
  · refine SkOk.assignAttr 0 178 7 ?_ ?_ ?_ ?_ ?_ ?_ ?_
    · exact F
    · exact .inl rfl
    · rfl
    · exact hC
    · rfl
    · refine EvOk.pure ?_
      · exact PvOk.const_bool
    · rfl
  refine BkOk.cons ?_ ?_
  · refine SkOk.assignAttr 0 178 8 ?_ ?_ ?_ ?_ ?_ ?_ ?_
    · exact F
    · exact .inl rfl
    · rfl
    · exact hC
    · rfl
    · refine EvOk.pure ?_
      · exact PvOk.const_bool
    · rfl
  refine BkOk.cons ?_ ?_
  · refine SkOk.assignAttr 0 178 9 ?_ ?_ ?_ ?_ ?_ ?_ ?_
    · exact F
    · exact .inl rfl
    · rfl
    · exact hC
    · rfl
    · refine EvOk.pure ?_
      · exact PvOk.const_none
    · rfl
  refine BkOk.cons ?_ ?_
  · refine SkOk.assignAttr 0 178 10 ?_ ?_ ?_ ?_ ?_ ?_ ?_
    · exact F
    · exact .inl rfl
    · rfl
    · exact hC
    · rfl
    · refine EvOk.pure ?_
      · exact PvOk.const_bool
    · rfl
  exact BkOk.nil

noncomputable def b_write : S → Option (Fl × S) :=
  seqF (ifF (pureF (orT [cmpP notInD (attrR 0 178 1) (cP (.tup [.str "ready", .str "send"])), truthP (attrR 0 178 6)])) (seqF (neverF) (skip)) (skip)) (seqF (atF (dF (binP addD (attrR 0 178 2) (cbP bytesBD (consP (vget 1) (nilP))))) 0 178 2) (skip))
noncomputable def n_write : List (Str × NameKind) := [("self", .local), ("data", .local), ("OPEN_STATES", .globalImplicit), ("QuicError", .globalImplicit), ("STREAM_STATE_ERROR", .globalImplicit), ("bytes", .globalImplicit)]
noncomputable def g_write : Fun := runF n_write ["self", "data"] b_write
theorem k_write {T : TI} (hK : T.K = hd.heap_39 T.w.params) (hC : ClsOk T 178) (hO : ∃ v, T.mg "OPEN_STATES" = some v ∧ RepD (fun _ => False) T.h₀ (.tup [.str "ready", .str "send"]) v) : FnOk T 1 (.ref 77) g_write := by
  delta g_write
  refine FnOk.mk (r := 0) (by rw [hK]; k_is) (by rw [hK]; k_is) rfl (fun vals h => by match vals, h with | [_, _], _ => rfl) (by delta n_write; decide) (by decide) (by delta n_write; decide) rfl rfl rfl (fun A L X hA F => ?_)
  have hh := hA.handled
  have hu8 : A.units + 8 < cLine := by have := hA.units; (first | lia | omega)
  have hu9 : A.units + 9 < cLine := by have := hA.units; (first | lia | omega)
  delta b_write
  refine BkOk.cons ?_ ?_
  · refine SkOk.if ?_ ?_ ?_
    · refine TvOk.eff ?_
      · refine TvOk.or ?_
        · refine .cons ?_ ?_
          · refine TvOk.cmp ?_ ?_ ?_ ?_
            · exact notInOk hu9
            · refine PvOk.zero ?_
              · refine PvOk.attr 0 178 1 ?_ ?_ ?_ ?_ ?_
                · exact F
                · exact .inl rfl
                · rfl
                · exact hC
                · rfl
            · refine PvOk.zero ?_
              · exact PvOk.globV F rfl hO rfl
            · rfl
          · refine .cons ?_ ?_
            · refine TvOk.value ?_ ?_
              · refine PvOk.attr 0 178 6 ?_ ?_ ?_ ?_ ?_
                · exact F
                · exact .inl rfl
                · rfl
                · exact hC
                · rfl
              · exact fun _ => rfl
            · exact .nil
    · refine BkOk.cons ?_ ?_
      · exact SkOk.never
      exact BkOk.nil
    · exact BkOk.nil
  refine BkOk.cons ?_ ?_
  · refine SkOk.assignAttr 0 178 2 ?_ ?_ ?_ ?_ ?_ (EvOk.pure (PvOk.bin addOk (PvOk.attr 0 178 2 F (.inl rfl) rfl hC rfl) (PvOk.callB (f := .type "bytes") F (.inr ⟨_, rfl⟩) rfl (by rw [hK]; k_is) rfl rfl (by decide) rfl rfl bytesBOk (PvsOk.cons (PvOk.name 1 F (.inl rfl) rfl) (PvsOk.nil) stName)))) ?_
    · exact F
    · exact .inl rfl
    · rfl
    · exact hC
    · rfl
    · rfl
  exact BkOk.nil

noncomputable def b_lim : S → Option (Fl × S) :=
  seqF (atF (dF (cbP max2D (consP (attrR 0 178 0) (consP (vget 1) (nilP))))) 0 178 0) (skip)
noncomputable def n_lim : List (Str × NameKind) := [("self", .local), ("limit", .local), ("max", .globalImplicit)]
noncomputable def g_lim : Fun := runF n_lim ["self", "limit"] b_lim
theorem k_lim {T : TI} (hK : T.K = hd.heap_39 T.w.params) (hC : ClsOk T 178) (hO : ∃ v, T.mg "OPEN_STATES" = some v ∧ RepD (fun _ => False) T.h₀ (.tup [.str "ready", .str "send"]) v) : FnOk T 1 (.ref 105) g_lim := by
  delta g_lim
  refine FnOk.mk (r := 0) (by rw [hK]; k_is) (by rw [hK]; k_is) rfl (fun vals h => by match vals, h with | [_, _], _ => rfl) (by delta n_lim; decide) (by decide) (by delta n_lim; decide) rfl rfl rfl (fun A L X hA F => ?_)
  have hh := hA.handled
  have hu8 : A.units + 8 < cLine := by have := hA.units; (first | lia | omega)
  have hu9 : A.units + 9 < cLine := by have := hA.units; (first | lia | omega)
  delta b_lim
  refine BkOk.cons ?_ ?_
  · refine SkOk.assignAttr 0 178 0 ?_ ?_ ?_ ?_ ?_ (EvOk.pure (PvOk.callB (f := .builtin "max") F (.inl ⟨_, rfl⟩) rfl (by rw [hK]; k_is) rfl rfl (by decide) rfl rfl (max2Ok hh) (PvsOk.cons (PvOk.attr 0 178 0 F (.inl rfl) rfl hC rfl) (PvsOk.cons (PvOk.name 1 F (.inl rfl) rfl) (PvsOk.nil) stName) stAttribute))) ?_
    · exact F
    · exact .inl rfl
    · rfl
    · exact hC
    · rfl
    · rfl
  exact BkOk.nil

noncomputable def b_room : S → Option (Fl × S) :=
  seqF (ifF (pureF (cmpP notInD (attrR 0 178 1) (cP (.tup [.str "ready", .str "send"])))) (seqF (retF (dF (cP (.int 0)))) (skip)) (skip)) (seqF (asF (dF (binP subD (cbP min2D (consP (cbP lenD (consP (attrR 0 178 2) (nilP))) (consP (attrR 0 178 0) (nilP)))) (attrR 0 178 3))) (Tgt.asg (.one 2))) (seqF (retF (dF (cbP max2D (consP (cP (.int 0)) (consP (iteP (cmpP isNoneD (vget 1) (cP .none)) (vget 2) (cbP min2D (consP (vget 2) (consP (vget 1) (nilP))))) (nilP)))))) (skip)))
noncomputable def n_room : List (Str × NameKind) := [("self", .local), ("most_new", .local), ("room", .local), ("OPEN_STATES", .globalImplicit), ("min", .globalImplicit), ("len", .globalImplicit), ("max", .globalImplicit)]
noncomputable def g_room : Fun := runF n_room ["self", "most_new"] b_room
theorem k_room {T : TI} (hK : T.K = hd.heap_39 T.w.params) (hC : ClsOk T 178) (hO : ∃ v, T.mg "OPEN_STATES" = some v ∧ RepD (fun _ => False) T.h₀ (.tup [.str "ready", .str "send"]) v) : FnOk T 1 (.ref 112) g_room := by
  delta g_room
  refine FnOk.mk (r := 0) (by rw [hK]; k_is) (by rw [hK]; k_is) rfl (fun vals h => by match vals, h with | [_, _], _ => rfl) (by delta n_room; decide) (by decide) (by delta n_room; decide) rfl rfl rfl (fun A L X hA F => ?_)
  have hh := hA.handled
  have hu8 : A.units + 8 < cLine := by have := hA.units; (first | lia | omega)
  have hu9 : A.units + 9 < cLine := by have := hA.units; (first | lia | omega)
  delta b_room
  refine BkOk.cons ?_ ?_
  · refine SkOk.if ?_ ?_ ?_
    · refine TvOk.eff ?_
      · refine TvOk.cmp ?_ ?_ ?_ ?_
        · exact notInOk hu9
        · refine PvOk.zero ?_
          · refine PvOk.attr 0 178 1 ?_ ?_ ?_ ?_ ?_
            · exact F
            · exact .inl rfl
            · rfl
            · exact hC
            · rfl
        · refine PvOk.zero ?_
          · exact PvOk.globV F rfl hO rfl
        · rfl
    · refine BkOk.cons ?_ ?_
      · refine SkOk.ret ?_
        · refine EvOk.pure ?_
          · exact PvOk.const_int
      exact BkOk.nil
    · exact BkOk.nil
  refine BkOk.cons ?_ ?_
  · refine SkOk.assign (EvOk.pure (PvOk.bin subOk (PvOk.callB (f := .builtin "min") F (.inl ⟨_, rfl⟩) rfl (by rw [hK]; k_is) rfl rfl (by decide) rfl rfl (min2Ok hh) (PvsOk.cons (PvOk.callB0 (f := .builtin "len") F (.inl ⟨_, rfl⟩) rfl (by rw [hK]; k_is) rfl rfl (by decide) rfl rfl lenOk (P0sOk.cons (PvOk.zero (PvOk.attr 0 178 2 F (.inl rfl) rfl hC rfl)) (P0sOk.nil) stAttribute)) (PvsOk.cons (PvOk.attr 0 178 0 F (.inl rfl) rfl hC rfl) (PvsOk.nil) stAttribute) stCall)) (PvOk.attr 0 178 3 F (.inl rfl) rfl hC rfl))) ?_ ?_ ?_ ?_
    · refine AsOk.name ?_ ?_
      · exact F
      · exact .inl rfl
    · rfl
    · rfl
    · rfl
  refine BkOk.cons ?_ ?_
  · refine SkOk.ret (EvOk.pure (PvOk.callB (f := .builtin "max") F (.inl ⟨_, rfl⟩) rfl (by rw [hK]; k_is) rfl rfl (by decide) rfl rfl (max2Ok hh) (PvsOk.cons (PvOk.const_int) (PvsOk.cons (PvOk.ite (TvOk.cmp isNoneOk (PvOk.zero (PvOk.name 1 F (.inl rfl) rfl)) (PvOk.zero (PvOk.const_none)) rfl) (PvOk.name 2 F (.inl rfl) rfl) (PvOk.callB (f := .builtin "min") F (.inl ⟨_, rfl⟩) rfl (by rw [hK]; k_is) rfl rfl (by decide) rfl rfl (min2Ok hh) (PvsOk.cons (PvOk.name 2 F (.inl rfl) rfl) (PvsOk.cons (PvOk.name 1 F (.inl rfl) rfl) (PvsOk.nil) stName) stName))) (PvsOk.nil) stIfExp) stConst)))
  exact BkOk.nil

end Mine
end
section
namespace Mine
open PySem PySem.W PyProof.Rows PySem.Calls PySem.SeqAt
set_option maxRecDepth 100000
theorem fill_PB : (PySem.Challenge.rw_tk0097_02 = PySem.Challenge.rw_tk0097_02) ∧ hd.heap_39 = hd.heap_39 := by
  k_fill
  exact ⟨rfl, rfl⟩
set_option maxHeartbeats 8000000

noncomputable def b_next : S → Option (Fl × S) :=
  seqF (ifF (pureF (andT [cmpP notInD (attrR 0 178 1) (cP (.tup [.str "ready", .str "send"])), cmpP neD (attrR 0 178 1) (cP (.str "data_sent"))])) (seqF (retF (dF (cP .none))) (skip)) (skip)) (seqF (asF (dF (call0 g_fst (consP (dV (attrR 0 178 5)) (consP (dV (vget 1)) (nilP))))) (Tgt.asg (.one 3))) (seqF (ifF (pureF (cmpP isNoneD (vget 3) (cP .none))) (seqF (asF (dF (cbP min2D (consP (vget 1) (consP (call1 g_room (selfP 0 178 (consP (dV (vget 2)) (nilP)))) (nilP))))) (Tgt.asg (.one 4))) (seqF (asF (dF (tupP (consP (attrR 0 178 3) (consP (binP addD (attrR 0 178 3) (cbP max2D (consP (cP (.int 0)) (consP (vget 4) (nilP))))) (nilP))))) (Tgt.asg (.one 3))) (skip))) (skip)) (seqF (asF (dF (vget 3)) (Tgt.asg (.tup [5, 6]))) (seqF (asF (dF (andV [attrR 0 178 6, boolP (cmpP eqD (vget 6) (cbP lenD (consP (attrR 0 178 2) (nilP)))), orV [attrR 0 178 7, boolP (cmpP ltD (vget 5) (vget 6))]])) (Tgt.asg (.one 7))) (seqF (ifF (pureF (andT [cmpP eqD (vget 5) (vget 6), notP (truthP (vget 7))])) (seqF (retF (dF (cP .none))) (skip)) (skip)) (seqF (atF (dF (call0 g_cut (consP (dV (attrR 0 178 5)) (consP (dV (vget 5)) (consP (dV (vget 6)) (nilP)))))) 0 178 5) (seqF (atF (dF (cbP max2D (consP (attrR 0 178 3) (consP (vget 6) (nilP))))) 0 178 3) (seqF (ifF (pureF (truthP (vget 7))) (seqF (atF (dF (cP (.bool false))) 0 178 7) (skip)) (skip)) (seqF (atF (dF (iteP (orT [truthP (vget 7), cmpP eqD (attrR 0 178 1) (cP (.str "data_sent"))]) (cP (.str "data_sent")) (cP (.str "send")))) 0 178 1) (seqF (retF (dF (tupP (consP (vget 5) (consP (sliceP (attrR 0 178 2) (partP (vget 5)) (partP (vget 6))) (consP (vget 7) (nilP))))))) (skip)))))))))))
noncomputable def n_next : List (Str × NameKind) := [("self", .local), ("most", .local), ("most_new", .local), ("span", .local), ("room", .local), ("low", .local), ("high", .local), ("is_end", .local), ("OPEN_STATES", .globalImplicit), ("DATA_SENT", .globalImplicit), ("first_span", .globalImplicit), ("min", .globalImplicit), ("max", .globalImplicit), ("len", .globalImplicit), ("cut_span", .globalImplicit), ("SENDING", .globalImplicit)]
noncomputable def g_next : Fun := runF n_next ["self", "most", "most_new"] b_next
theorem k_next {T : TI} (hK : T.K = hd.heap_39 T.w.params) (hC : ClsOk T 178) (hO : ∃ v, T.mg "OPEN_STATES" = some v ∧ RepD (fun _ => False) T.h₀ (.tup [.str "ready", .str "send"]) v) : FnOk T 2 (.ref 133) g_next := by
  delta g_next
  refine FnOk.mk (r := 1) (by rw [hK]; k_is) (by rw [hK]; k_is) rfl (fun vals h => by match vals, h with | [_, _, _], _ => rfl) (by delta n_next; decide) (by decide) (by delta n_next; decide) rfl rfl rfl (fun A L X hA F => ?_)
  have hh := hA.handled
  have hu8 : A.units + 8 < cLine := by have := hA.units; (first | lia | omega)
  have hu9 : A.units + 9 < cLine := by have := hA.units; (first | lia | omega)
  delta b_next
  refine BkOk.cons ?_ ?_
  · refine SkOk.if ?_ ?_ ?_
    · refine TvOk.eff ?_
      · refine TvOk.and ?_
        · refine .cons ?_ ?_
          · refine TvOk.cmp ?_ ?_ ?_ ?_
            · exact notInOk hu9
            · refine PvOk.zero ?_
              · refine PvOk.attr 0 178 1 ?_ ?_ ?_ ?_ ?_
                · exact F
                · exact .inl rfl
                · rfl
                · exact hC
                · rfl
            · refine PvOk.zero ?_
              · exact PvOk.globV F rfl hO rfl
            · rfl
          · refine .cons ?_ ?_
            · refine TvOk.cmp ?_ ?_ ?_ ?_
              · exact neOk hu8
              · refine PvOk.zero ?_
                · refine PvOk.attr 0 178 1 ?_ ?_ ?_ ?_ ?_
                  · exact F
                  · exact .inl rfl
                  · rfl
                  · exact hC
                  · rfl
              · refine PvOk.zero ?_
                · exact PvOk.glob F rfl (by rw [hK]; k_is) ⟨_, rfl⟩ rfl
              · rfl
            · exact .nil
    · refine BkOk.cons ?_ ?_
      · refine SkOk.ret ?_
        · refine EvOk.pure ?_
          · exact PvOk.const_none
      exact BkOk.nil
    · exact BkOk.nil
  refine BkOk.cons ?_ ?_
  · refine SkOk.assign (EvOk.pure (PvOk.call0 (fv := .ref 55) (r := 1) (CaOk.name F rfl (by rw [hK]; k_is) rfl (by rw [hK]; k_is) rfl rfl (AvsOk.cons (PvOk.attr 0 178 5 F (.inl rfl) rfl hC rfl) (AvsOk.cons (PvOk.name 1 F (.inl rfl) rfl) (AvsOk.nil) stName) stAttribute)) (k_fst hK hC hO) (RoomA.mono (by decide) hA))) ?_ ?_ ?_ ?_
    · refine AsOk.name ?_ ?_
      · exact F
      · exact .inl rfl
    · rfl
    · rfl
    · rfl
  refine BkOk.cons ?_ ?_
  · refine SkOk.if ?_ ?_ ?_
    · refine TvOk.eff ?_
      · refine TvOk.cmp ?_ ?_ ?_ ?_
        · exact isNoneOk
        · refine PvOk.zero ?_
          · refine PvOk.name 3 ?_ ?_ ?_
            · exact F
            · exact .inl rfl
            · rfl
        · refine PvOk.zero ?_
          · exact PvOk.const_none
        · rfl
    · refine BkOk.cons ?_ ?_
      · refine SkOk.assign (EvOk.pure (PvOk.callB (f := .builtin "min") F (.inl ⟨_, rfl⟩) rfl (by rw [hK]; k_is) rfl rfl (by decide) rfl rfl (min2Ok hh) (PvsOk.cons (PvOk.name 1 F (.inl rfl) rfl) (PvsOk.cons (PvOk.call1 (fv := .ref 112) (r := 1) (CaOk.methodE 0 F (.inl rfl) rfl hC (by rw [hK]; k_is) (by rw [hK]; k_is) (by decide) (by rw [hK]; k_is) ⟨_, rfl⟩ rfl rfl (AvsOk.cons (PvOk.name 2 F (.inl rfl) rfl) (AvsOk.nil) stName)) (k_room hK hC hO) (RoomA.mono (by decide) hA)) (PvsOk.nil) stCall) stName))) ?_ ?_ ?_ ?_
        · refine AsOk.name ?_ ?_
          · exact F
          · exact .inl rfl
        · rfl
        · rfl
        · rfl
      refine BkOk.cons ?_ ?_
      · refine SkOk.assign (EvOk.pure (PvOk.tuple (PvsOk.cons (PvOk.attr 0 178 3 F (.inl rfl) rfl hC rfl) (PvsOk.cons (PvOk.bin addOk (PvOk.attr 0 178 3 F (.inl rfl) rfl hC rfl) (PvOk.callB (f := .builtin "max") F (.inl ⟨_, rfl⟩) rfl (by rw [hK]; k_is) rfl rfl (by decide) rfl rfl (max2Ok hh) (PvsOk.cons (PvOk.const_int) (PvsOk.cons (PvOk.name 4 F (.inl rfl) rfl) (PvsOk.nil) stName) stConst))) (PvsOk.nil) stBinOp) stAttribute))) ?_ ?_ ?_ ?_
        · refine AsOk.name ?_ ?_
          · exact F
          · exact .inl rfl
        · rfl
        · rfl
        · rfl
      exact BkOk.nil
    · exact BkOk.nil
  refine BkOk.cons ?_ ?_
  · refine SkOk.assign ?_ ?_ ?_ ?_ ?_
    · refine EvOk.pure ?_
      · refine PvOk.name 3 ?_ ?_ ?_
        · exact F
        · exact .inl rfl
        · rfl
    · refine AsOk.names ?_ ?_ ?_ ?_
      · exact hh
      · exact F
      · refine .cons ?_ ?_
        · exact .inl rfl
        · refine .cons ?_ ?_
          · exact .inl rfl
          · exact .nil
      · rfl
    · rfl
    · rfl
    · rfl
  refine BkOk.cons ?_ ?_
  · refine SkOk.assign (EvOk.pure (PvOk.andV (.cons (PvOk.attr 0 178 6 F (.inl rfl) rfl hC rfl) (.cons (PvOk.cmp (eqOk hu8) (PvOk.zero (PvOk.name 6 F (.inl rfl) rfl)) (PvOk.zero (PvOk.callB0 (f := .builtin "len") F (.inl ⟨_, rfl⟩) rfl (by rw [hK]; k_is) rfl rfl (by decide) rfl rfl lenOk (P0sOk.cons (PvOk.zero (PvOk.attr 0 178 2 F (.inl rfl) rfl hC rfl)) (P0sOk.nil) stAttribute))) rfl) (.cons (PvOk.orV (.cons (PvOk.attr 0 178 7 F (.inl rfl) rfl hC rfl) (.cons (PvOk.cmp ltOk (PvOk.zero (PvOk.name 5 F (.inl rfl) rfl)) (PvOk.zero (PvOk.name 6 F (.inl rfl) rfl)) rfl) (.nil)))) (.nil)))))) ?_ ?_ ?_ ?_
    · refine AsOk.name ?_ ?_
      · exact F
      · exact .inl rfl
    · rfl
    · rfl
    · rfl
  refine BkOk.cons ?_ ?_
  · refine SkOk.if ?_ ?_ ?_
    · refine TvOk.eff ?_
      · refine TvOk.and ?_
        · refine .cons ?_ ?_
          · refine TvOk.cmp ?_ ?_ ?_ ?_
            · exact eqOk hu8
            · refine PvOk.zero ?_
              · refine PvOk.name 5 ?_ ?_ ?_
                · exact F
                · exact .inl rfl
                · rfl
            · refine PvOk.zero ?_
              · refine PvOk.name 6 ?_ ?_ ?_
                · exact F
                · exact .inl rfl
                · rfl
            · rfl
          · refine .cons ?_ ?_
            · refine TvOk.not ?_
              · refine TvOk.value ?_ ?_
                · refine PvOk.name 7 ?_ ?_ ?_
                  · exact F
                  · exact .inl rfl
                  · rfl
                · exact fun _ => rfl
            · exact .nil
    · refine BkOk.cons ?_ ?_
      · refine SkOk.ret ?_
        · refine EvOk.pure ?_
          · exact PvOk.const_none
      exact BkOk.nil
    · exact BkOk.nil
  refine BkOk.cons ?_ ?_
  · refine SkOk.assignAttr 0 178 5 ?_ ?_ ?_ ?_ ?_ (EvOk.pure (PvOk.call0 (fv := .ref 48) (r := 1) (CaOk.name F rfl (by rw [hK]; k_is) rfl (by rw [hK]; k_is) rfl rfl (AvsOk.cons (PvOk.attr 0 178 5 F (.inl rfl) rfl hC rfl) (AvsOk.cons (PvOk.name 5 F (.inl rfl) rfl) (AvsOk.cons (PvOk.name 6 F (.inl rfl) rfl) (AvsOk.nil) stName) stName) stAttribute)) (k_cut hK hC hO) (RoomA.mono (by decide) hA))) ?_
    · exact F
    · exact .inl rfl
    · rfl
    · exact hC
    · rfl
    · rfl
  refine BkOk.cons ?_ ?_
  · refine SkOk.assignAttr 0 178 3 ?_ ?_ ?_ ?_ ?_ (EvOk.pure (PvOk.callB (f := .builtin "max") F (.inl ⟨_, rfl⟩) rfl (by rw [hK]; k_is) rfl rfl (by decide) rfl rfl (max2Ok hh) (PvsOk.cons (PvOk.attr 0 178 3 F (.inl rfl) rfl hC rfl) (PvsOk.cons (PvOk.name 6 F (.inl rfl) rfl) (PvsOk.nil) stName) stAttribute))) ?_
    · exact F
    · exact .inl rfl
    · rfl
    · exact hC
    · rfl
    · rfl
  refine BkOk.cons ?_ ?_
  · refine SkOk.if ?_ ?_ ?_
    · refine TvOk.eff ?_
      · refine TvOk.value ?_ ?_
        · refine PvOk.name 7 ?_ ?_ ?_
          · exact F
          · exact .inl rfl
          · rfl
        · exact fun _ => rfl
    · refine BkOk.cons ?_ ?_
      · refine SkOk.assignAttr 0 178 7 ?_ ?_ ?_ ?_ ?_ ?_ ?_
        · exact F
        · exact .inl rfl
        · rfl
        · exact hC
        · rfl
        · refine EvOk.pure ?_
          · exact PvOk.const_bool
        · rfl
      exact BkOk.nil
    · exact BkOk.nil
  refine BkOk.cons ?_ ?_
  · refine SkOk.assignAttr 0 178 1 ?_ ?_ ?_ ?_ ?_ ?_ ?_
    · exact F
    · exact .inl rfl
    · rfl
    · exact hC
    · rfl
    · refine EvOk.pure ?_
      · refine PvOk.ite ?_ ?_ ?_
        · refine TvOk.or ?_
          · refine .cons ?_ ?_
            · refine TvOk.value ?_ ?_
              · refine PvOk.name 7 ?_ ?_ ?_
                · exact F
                · exact .inl rfl
                · rfl
              · exact fun _ => rfl
            · refine .cons ?_ ?_
              · refine TvOk.cmp ?_ ?_ ?_ ?_
                · exact eqOk hu8
                · refine PvOk.zero ?_
                  · refine PvOk.attr 0 178 1 ?_ ?_ ?_ ?_ ?_
                    · exact F
                    · exact .inl rfl
                    · rfl
                    · exact hC
                    · rfl
                · refine PvOk.zero ?_
                  · exact PvOk.glob F rfl (by rw [hK]; k_is) ⟨_, rfl⟩ rfl
                · rfl
              · exact .nil
        · exact PvOk.glob F rfl (by rw [hK]; k_is) ⟨_, rfl⟩ rfl
        · exact PvOk.glob F rfl (by rw [hK]; k_is) ⟨_, rfl⟩ rfl
    · rfl
  refine BkOk.cons ?_ ?_
  · refine SkOk.ret ?_
    · refine EvOk.pure ?_
      · refine PvOk.tuple ?_
        · refine PvsOk.cons ?_ ?_ ?_
          · refine PvOk.name 5 ?_ ?_ ?_
            · exact F
            · exact .inl rfl
            · rfl
          · refine PvsOk.cons ?_ ?_ ?_
            · refine PvOk.slice ?_ ?_ ?_
              · refine PvOk.attr 0 178 2 ?_ ?_ ?_ ?_ ?_
                · exact F
                · exact .inl rfl
                · rfl
                · exact hC
                · rfl
              · refine PoOk.some ?_
                · refine PvOk.name 5 ?_ ?_ ?_
                  · exact F
                  · exact .inl rfl
                  · rfl
              · refine PoOk.some ?_
                · refine PvOk.name 6 ?_ ?_ ?_
                  · exact F
                  · exact .inl rfl
                  · rfl
            · refine PvsOk.cons ?_ ?_ ?_
              · refine PvOk.name 7 ?_ ?_ ?_
                · exact F
                · exact .inl rfl
                · rfl
              · exact PvsOk.nil
              · exact stName
            · exact stSubscript
          · exact stName
  exact BkOk.nil

noncomputable def b_draw : S → Option (Fl × S) :=
  seqF (asF (dF (idxR 0 (cP (.int 1)))) (Tgt.asg (.one 2))) (seqF (asF (dF (binP addD (vget 2) (cP (.int 1)))) (itF 0 (cP (.int 1)))) (seqF (ifF (pureF (cmpP ltD (vget 2) (cbP lenD (consP (idxR 0 (cP (.int 0))) (nilP))))) (seqF (retF (dF (binP modD (cbP absD (consP (binP idxD (idxR 0 (cP (.int 0))) (vget 2)) (nilP))) (vget 1)))) (skip)) (skip)) (seqF (retF (dF (binP modD (binP idxD (tupP (consP (cP (.int 0)) (consP (cP (.int 3)) (consP (cP (.int 1)) (consP (cP (.int 2)) (consP (cP (.int 1)) (consP (cP (.int 1)) (consP (cP (.int 2)) (consP (cP (.int 3)) (consP (cP (.int 1)) (consP (cP (.int 0)) (consP (cP (.int 3)) (consP (cP (.int 1)) (consP (cP (.int 3)) (nilP))))))))))))))) (binP modD (vget 2) (cP (.int 13)))) (vget 1)))) (skip))))
noncomputable def n_draw : List (Str × NameKind) := [("pool", .local), ("many", .local), ("spot", .local), ("len", .globalImplicit), ("abs", .globalImplicit)]
noncomputable def g_draw : Fun := runF n_draw ["pool", "many"] b_draw
theorem k_draw {T : TI} (hK : T.K = hd.heap_39 T.w.params) (hC : ClsOk T 178) (hO : ∃ v, T.mg "OPEN_STATES" = some v ∧ RepD (fun _ => False) T.h₀ (.tup [.str "ready", .str "send"]) v) : FnOk T 1 (.ref 189) g_draw := by
  delta g_draw
  refine FnOk.mk (r := 0) (by rw [hK]; k_is) (by rw [hK]; k_is) rfl (fun vals h => by match vals, h with | [_, _], _ => rfl) (by delta n_draw; decide) (by decide) (by delta n_draw; decide) rfl rfl rfl (fun A L X hA F => ?_)
  have hh := hA.handled
  have hu8 : A.units + 8 < cLine := by have := hA.units; (first | lia | omega)
  have hu9 : A.units + 9 < cLine := by have := hA.units; (first | lia | omega)
  delta b_draw
  refine BkOk.cons ?_ ?_
  · refine SkOk.assign ?_ ?_ ?_ ?_ ?_
    · refine EvOk.pure ?_
      · refine PvOk.indexR 0 ?_ ?_ ?_ ?_
        · exact F
        · exact .inl rfl
        · rfl
        · exact PvOk.const_int
    · refine AsOk.name ?_ ?_
      · exact F
      · exact .inl rfl
    · rfl
    · rfl
    · rfl
  refine BkOk.cons ?_ ?_
  · refine SkOk.assign ?_ ?_ ?_ ?_ ?_
    · refine EvOk.pure ?_
      · refine PvOk.bin ?_ ?_ ?_
        · exact addOk
        · refine PvOk.name 2 ?_ ?_ ?_
          · exact F
          · exact .inl rfl
          · rfl
        · exact PvOk.const_int
    · refine AsOk.item 0 ?_ ?_ ?_ ?_
      · exact F
      · exact .inl rfl
      · rfl
      · exact PvOk.const_int
    · rfl
    · rfl
    · rfl
  refine BkOk.cons ?_ ?_
  · refine SkOk.if ?_ ?_ ?_
    · refine TvOk.eff (TvOk.cmp ltOk (PvOk.zero (PvOk.name 2 F (.inl rfl) rfl)) (PvOk.zero (PvOk.callB0 (f := .builtin "len") F (.inl ⟨_, rfl⟩) rfl (by rw [hK]; k_is) rfl rfl (by decide) rfl rfl lenOk (P0sOk.cons (PvOk.zero (PvOk.indexR 0 F (.inl rfl) rfl (PvOk.const_int))) (P0sOk.nil) stSubscript))) rfl)
    · refine BkOk.cons ?_ ?_
      · refine SkOk.ret (EvOk.pure (PvOk.bin modOk (PvOk.callB (f := .builtin "abs") F (.inl ⟨_, rfl⟩) rfl (by rw [hK]; k_is) rfl rfl (by decide) rfl rfl absOk (PvsOk.cons (PvOk.index (PvOk.indexR 0 F (.inl rfl) rfl (PvOk.const_int)) (PvOk.name 2 F (.inl rfl) rfl)) (PvsOk.nil) stSubscript)) (PvOk.name 1 F (.inl rfl) rfl)))
      exact BkOk.nil
    · exact BkOk.nil
  refine BkOk.cons ?_ ?_
  · refine SkOk.ret ?_
    · refine EvOk.pure ?_
      · refine PvOk.bin ?_ ?_ ?_
        · exact modOk
        · refine PvOk.index ?_ ?_
          · refine PvOk.tuple ?_
            · refine PvsOk.cons ?_ ?_ ?_
              · exact PvOk.const_int
              · refine PvsOk.cons ?_ ?_ ?_
                · exact PvOk.const_int
                · refine PvsOk.cons ?_ ?_ ?_
                  · exact PvOk.const_int
                  · refine PvsOk.cons ?_ ?_ ?_
                    · exact PvOk.const_int
                    · refine PvsOk.cons ?_ ?_ ?_
                      · exact PvOk.const_int
                      · refine PvsOk.cons ?_ ?_ ?_
                        · exact PvOk.const_int
                        · refine PvsOk.cons ?_ ?_ ?_
                          · exact PvOk.const_int
                          · refine PvsOk.cons ?_ ?_ ?_
                            · exact PvOk.const_int
                            · refine PvsOk.cons ?_ ?_ ?_
                              · exact PvOk.const_int
                              · refine PvsOk.cons ?_ ?_ ?_
                                · exact PvOk.const_int
                                · refine PvsOk.cons ?_ ?_ ?_
                                  · exact PvOk.const_int
                                  · refine PvsOk.cons ?_ ?_ ?_
                                    · exact PvOk.const_int
                                    · refine PvsOk.cons ?_ ?_ ?_
                                      · exact PvOk.const_int
                                      · exact PvsOk.nil
                                      · exact stConst
                                    · exact stConst
                                  · exact stConst
                                · exact stConst
                              · exact stConst
                            · exact stConst
                          · exact stConst
                        · exact stConst
                      · exact stConst
                    · exact stConst
                  · exact stConst
                · exact stConst
              · exact stConst
          · refine PvOk.bin ?_ ?_ ?_
            · exact modOk
            · refine PvOk.name 2 ?_ ?_ ?_
              · exact F
              · exact .inl rfl
              · rfl
            · exact PvOk.const_int
        · refine PvOk.name 1 ?_ ?_ ?_
          · exact F
          · exact .inl rfl
          · rfl
  exact BkOk.nil

noncomputable def b_sums : S → Option (Fl × S) :=
  seqF (asF (lnewF (consP (cP (.int 0)) (nilP))) (Tgt.asg (.one 1))) (seqF (forF (pureF (itP (vget 0))) (Tgt.asg (.one 2)) (seqF (appF 1 (binP addD (idxR 1 ((fun σ => ((cP (.int 1)) σ).bind negD))) (vget 2))) (skip))) (frzF 1 (seqF (retF (dF (vget 1))) (skip))))
noncomputable def n_sums : List (Str × NameKind) := [("numbers", .local), ("found", .local), ("number", .local)]
noncomputable def g_sums : Fun := runF n_sums ["numbers"] b_sums
theorem k_sums {T : TI} (hK : T.K = hd.heap_39 T.w.params) (hC : ClsOk T 178) (hO : ∃ v, T.mg "OPEN_STATES" = some v ∧ RepD (fun _ => False) T.h₀ (.tup [.str "ready", .str "send"]) v) : FnOk T 1 (.ref 208) g_sums := by
  delta g_sums
  refine FnOk.mk (r := 0) (by rw [hK]; k_is) (by rw [hK]; k_is) rfl (fun vals h => by match vals, h with | [_], _ => rfl) (by delta n_sums; decide) (by decide) (by delta n_sums; decide) rfl rfl rfl (fun A L X hA F => ?_)
  have hh := hA.handled
  have hu8 : A.units + 8 < cLine := by have := hA.units; (first | lia | omega)
  have hu9 : A.units + 9 < cLine := by have := hA.units; (first | lia | omega)
  delta b_sums
  refine BkOk.cons ?_ ?_
  · refine SkOk.assign ?_ ?_ ?_ ?_ ?_
    · refine EvOk.listNew ?_
      · refine PvsOk.cons ?_ ?_ ?_
        · exact PvOk.const_int
        · exact PvsOk.nil
        · exact stConst
    · refine AsOk.name ?_ ?_
      · exact F
      · exact .inl rfl
    · rfl
    · rfl
    · rfl
  refine BkOk.cons ?_ ?_
  · refine SkOk.for ?_ ?_ ?_ ?_
    · refine ItOk.eff ?_
      · refine ItOk.data ?_ ?_
        · exact hh
        · refine PvOk.name 0 ?_ ?_ ?_
          · exact F
          · exact .inl rfl
          · rfl
    · refine AsOk.name ?_ ?_
      · exact F
      · exact .inl rfl
    · refine BkOk.cons ?_ ?_
      · refine SkOk.append 1 ?_ ?_ ?_ ?_ ?_ ?_ ?_ ?_ ?_ ?_
        · exact F
        · exact .inl rfl
        · rfl
        · refine PvOk.bin ?_ ?_ ?_
          · exact addOk
          · refine PvOk.indexR 1 ?_ ?_ ?_ ?_
            · exact F
            · exact .inl rfl
            · rfl
            · refine PvOk.neg ?_
              · exact PvOk.const_int
          · refine PvOk.name 2 ?_ ?_ ?_
            · exact F
            · exact .inl rfl
            · rfl
        · rfl
        · rfl
        · rfl
        · rfl
        · rfl
        · rfl
      exact BkOk.nil
    · exact fun _ => rfl
  refine BkOk.freeze 1 ?_
  refine BkOk.cons ?_ ?_
  · refine SkOk.ret ?_
    · refine EvOk.pure ?_
      · refine PvOk.name 1 ?_ ?_ ?_
        · exact F
        · exact .inl rfl
        · rfl
  exact BkOk.nil

end Mine
end
section
namespace Mine
open PySem PySem.W PyProof.Rows PySem.Calls PySem.SeqAt
set_option maxRecDepth 100000
theorem fill_PC : (PySem.Challenge.rw_tk0097_02 = PySem.Challenge.rw_tk0097_02) ∧ hd.heap_39 = hd.heap_39 := by
  k_fill
  exact ⟨rfl, rfl⟩
set_option maxHeartbeats 8000000

noncomputable def b_gone : S → Option (Fl × S) :=
  seqF (asF (callE g_next (selfP 0 178 (consP (dV (vget 1)) (consP (dV (cP .none)) (nilP))))) (Tgt.asg (.one 4))) (seqF (ifF (pureF (cmpP isNoneD (vget 4) (cP .none))) (seqF (retF (dF (vget 3))) (skip)) (skip)) (seqF (asF (dF (cbP lenD (consP (binP idxD (vget 4) (cP (.int 1))) (nilP)))) (Tgt.asg (.one 5))) (seqF (ifF (pureF (orT [cmpP eqD (vget 5) (cP (.int 0)), cmpP gtD (vget 5) (vget 1), cmpP neD (vget 4) (tupP (consP (vget 3) (consP (sliceP (vget 2) (partP (vget 3)) (partP (binP addD (vget 3) (vget 5)))) (consP (cP (.bool false)) (nilP)))))])) (seqF (retF (dF (cP .none))) (skip)) (skip)) (seqF (retF (dF (binP addD (vget 3) (vget 5)))) (skip)))))
noncomputable def n_gone : List (Str × NameKind) := [("part", .local), ("room", .local), ("octets", .local), ("gone", .local), ("chunk", .local), ("size", .local), ("len", .globalImplicit)]
noncomputable def g_gone : Fun := runF n_gone ["part", "room", "octets", "gone"] b_gone
theorem k_gone {T : TI} (hK : T.K = hd.heap_39 T.w.params) (hC : ClsOk T 178) (hO : ∃ v, T.mg "OPEN_STATES" = some v ∧ RepD (fun _ => False) T.h₀ (.tup [.str "ready", .str "send"]) v) : FnOk T 3 (.ref 196) g_gone := by
  delta g_gone
  refine FnOk.mk (r := 2) (by rw [hK]; k_is) (by rw [hK]; k_is) rfl (fun vals h => by match vals, h with | [_, _, _, _], _ => rfl) (by delta n_gone; decide) (by decide) (by delta n_gone; decide) rfl rfl rfl (fun A L X hA F => ?_)
  have hh := hA.handled
  have hu8 : A.units + 8 < cLine := by have := hA.units; (first | lia | omega)
  have hu9 : A.units + 9 < cLine := by have := hA.units; (first | lia | omega)
  delta b_gone
  refine BkOk.cons ?_ ?_
  · refine SkOk.assign ?_ ?_ ?_ ?_ ?_
    · refine EvOk.callE (fv := .ref 133) (r := 2) ?_ ?_ ?_
      · refine CaOk.methodE 0 ?_ ?_ ?_ ?_ ?_ ?_ ?_ ?_ ?_ ?_ ?_ ?_
        · exact F
        · exact .inl rfl
        · rfl
        · exact hC
        · rw [hK]; k_is
        · rw [hK]; k_is
        · decide
        · rw [hK]; k_is
        · exact ⟨_, rfl⟩
        · rfl
        · rfl
        · refine AvsOk.cons ?_ ?_ ?_
          · refine PvOk.name 1 ?_ ?_ ?_
            · exact F
            · exact .inl rfl
            · rfl
          · refine AvsOk.cons ?_ ?_ ?_
            · exact PvOk.const_none
            · exact AvsOk.nil
            · exact stConst
          · exact stName
      · exact k_next hK hC hO
      · exact RoomA.mono (by decide) hA
    · refine AsOk.name ?_ ?_
      · exact F
      · exact .inl rfl
    · rfl
    · rfl
    · rfl
  refine BkOk.cons ?_ ?_
  · refine SkOk.if ?_ ?_ ?_
    · refine TvOk.eff ?_
      · refine TvOk.cmp ?_ ?_ ?_ ?_
        · exact isNoneOk
        · refine PvOk.zero ?_
          · refine PvOk.name 4 ?_ ?_ ?_
            · exact F
            · exact .inl rfl
            · rfl
        · refine PvOk.zero ?_
          · exact PvOk.const_none
        · rfl
    · refine BkOk.cons ?_ ?_
      · refine SkOk.ret ?_
        · refine EvOk.pure ?_
          · refine PvOk.name 3 ?_ ?_ ?_
            · exact F
            · exact .inl rfl
            · rfl
      exact BkOk.nil
    · exact BkOk.nil
  refine BkOk.cons ?_ ?_
  · refine SkOk.assign ?_ ?_ ?_ ?_ ?_
    · refine EvOk.pure ?_
      · refine PvOk.callB0 (f := .builtin "len") ?_ ?_ ?_ ?_ ?_ ?_ ?_ ?_ ?_ ?_ ?_
        · exact F
        · exact .inl ⟨_, rfl⟩
        · rfl
        · rw [hK]; k_is
        · rfl
        · rfl
        · decide
        · rfl
        · rfl
        · exact lenOk
        · refine P0sOk.cons ?_ ?_ ?_
          · refine PvOk.zero ?_
            · refine PvOk.index ?_ ?_
              · refine PvOk.name 4 ?_ ?_ ?_
                · exact F
                · exact .inl rfl
                · rfl
              · exact PvOk.const_int
          · exact P0sOk.nil
          · exact stSubscript
    · refine AsOk.name ?_ ?_
      · exact F
      · exact .inl rfl
    · rfl
    · rfl
    · rfl
  refine BkOk.cons ?_ ?_
  · refine SkOk.if ?_ ?_ ?_
    · refine TvOk.eff ?_
      · refine TvOk.or ?_
        · refine .cons ?_ ?_
          · refine TvOk.cmp ?_ ?_ ?_ ?_
            · exact eqOk hu8
            · refine PvOk.zero ?_
              · refine PvOk.name 5 ?_ ?_ ?_
                · exact F
                · exact .inl rfl
                · rfl
            · refine PvOk.zero ?_
              · exact PvOk.const_int
            · rfl
          · refine .cons ?_ ?_
            · refine TvOk.cmp ?_ ?_ ?_ ?_
              · exact gtOk
              · refine PvOk.zero ?_
                · refine PvOk.name 5 ?_ ?_ ?_
                  · exact F
                  · exact .inl rfl
                  · rfl
              · refine PvOk.zero ?_
                · refine PvOk.name 1 ?_ ?_ ?_
                  · exact F
                  · exact .inl rfl
                  · rfl
              · rfl
            · refine .cons ?_ ?_
              · refine TvOk.cmp ?_ ?_ ?_ ?_
                · exact neOk hu8
                · refine PvOk.zero ?_
                  · refine PvOk.name 4 ?_ ?_ ?_
                    · exact F
                    · exact .inl rfl
                    · rfl
                · refine PvOk.zero ?_
                  · refine PvOk.tuple ?_
                    · refine PvsOk.cons ?_ ?_ ?_
                      · refine PvOk.name 3 ?_ ?_ ?_
                        · exact F
                        · exact .inl rfl
                        · rfl
                      · refine PvsOk.cons ?_ ?_ ?_
                        · refine PvOk.slice ?_ ?_ ?_
                          · refine PvOk.name 2 ?_ ?_ ?_
                            · exact F
                            · exact .inl rfl
                            · rfl
                          · refine PoOk.some ?_
                            · refine PvOk.name 3 ?_ ?_ ?_
                              · exact F
                              · exact .inl rfl
                              · rfl
                          · refine PoOk.some ?_
                            · refine PvOk.bin ?_ ?_ ?_
                              · exact addOk
                              · refine PvOk.name 3 ?_ ?_ ?_
                                · exact F
                                · exact .inl rfl
                                · rfl
                              · refine PvOk.name 5 ?_ ?_ ?_
                                · exact F
                                · exact .inl rfl
                                · rfl
                        · refine PvsOk.cons ?_ ?_ ?_
                          · exact PvOk.const_bool
                          · exact PvsOk.nil
                          · exact stConst
                        · exact stSubscript
                      · exact stName
                · rfl
              · exact .nil
    · refine BkOk.cons ?_ ?_
      · refine SkOk.ret ?_
        · refine EvOk.pure ?_
          · exact PvOk.const_none
      exact BkOk.nil
    · exact BkOk.nil
  refine BkOk.cons ?_ ?_
  · refine SkOk.ret ?_
    · refine EvOk.pure ?_
      · refine PvOk.bin ?_ ?_ ?_
        · exact addOk
        · refine PvOk.name 3 ?_ ?_ ?_
          · exact F
          · exact .inl rfl
          · rfl
        · refine PvOk.name 5 ?_ ?_ ?_
          · exact F
          · exact .inl rfl
          · rfl
  exact BkOk.nil

noncomputable def b_run : S → Option (Fl × S) :=
  seqF (asTF (consF (newF 178 g_init (consP (dV (cP (.int 0))) (nilP))) (consF (newF 178 g_init (consP (dV (cP (.int 99))) (nilP))) (consF (dF (cP (.bytes []))) (consF (dF (cP (.int 0))) (consF (dF (cP (.int 0))) (consF (dF (cP (.int 0))) (consF (lnewF (nilP)) ((fun σ => some ([], σ)))))))))) [Tgt.asg (.one 1), Tgt.asg (.one 2), Tgt.asg (.one 3), Tgt.asg (.one 4), Tgt.asg (.one 5), Tgt.asg (.one 6), Tgt.asg (.one 7)]) (seqF (forF (pureF (itP (vget 0))) (Tgt.asg (.tup [8, 9, 10, 11])) (seqF (asF (dF (binP addD (vget 4) (vget 9))) (Tgt.asg (.one 4))) (seqF (asF (dF (cbP bytesLD (consP (compP 19 2 (rgP (consP (vget 8) (nilP))) (Tgt.asg (.one 20)) (yesP) (binP addD (cbP lenD (consP (vget 3) (nilP))) (vget 20))) (nilP)))) (Tgt.asg (.one 12))) (seqF (asF (dF (binP addD (vget 3) (vget 12))) (Tgt.asg (.one 3))) (seqF (exF (callE g_write (selfP 1 178 (consP (dV (vget 12)) (nilP))))) (seqF (exF (callE g_lim (selfP 1 178 (consP (dV (vget 4)) (nilP))))) (seqF (asF (callE g_gone (consP (anyget 1) (consP (dV (vget 10)) (consP (dV (vget 3)) (consP (dV (vget 5)) (nilP)))))) (Tgt.asg (.one 13))) (seqF (ifF (pureF (cmpP isNoneD (vget 13) (cP .none))) (seqF (retF (dF (cP .none))) (skip)) (skip)) (seqF (exF (callE g_write (selfP 2 178 (consP (dV (sliceP (vget 3) (partP (vget 5)) (partP (vget 13)))) (nilP))))) (seqF (asTrF 2 [5, 14] (consF (dF (vget 13)) (consF (callE g_gone (consP (anyget 2) (consP (dV (vget 11)) (consP (dV (vget 3)) (consP (dV (vget 6)) (nilP)))))) ((fun σ => some ([], σ)))))) (seqF (ifF (pureF (cmpP isNoneD (vget 14) (cP .none))) (seqF (retF (dF (cP .none))) (skip)) (skip)) (seqF (asF (dF (vget 14)) (Tgt.asg (.one 6))) (seqF (appF 7 (tupP (consP (vget 5) (consP (vget 6) (nilP))))) (skip)))))))))))))) (frzF 7 (seqF (retF (dF (vget 7))) (skip))))
noncomputable def n_run : List (Str × NameKind) := [("rows", .local), ("first", .local), ("second", .local), ("octets", .cell), ("limit", .local), ("one", .local), ("other", .local), ("found", .local), ("many", .local), ("more", .local), ("room", .local), ("later", .local), ("data", .local), ("near", .local), ("far", .local), ("SendPart", .globalImplicit), ("bytes", .globalImplicit), ("range", .globalImplicit), ("_law_gone", .globalImplicit)]
noncomputable def g_run : Fun := runF n_run ["rows"] b_run
theorem k_run {T : TI} (hK : T.K = hd.heap_39 T.w.params) (hC : ClsOk T 178) (hO : ∃ v, T.mg "OPEN_STATES" = some v ∧ RepD (fun _ => False) T.h₀ (.tup [.str "ready", .str "send"]) v) : FnOk T 4 (.ref 201) g_run := by
  delta g_run
  refine FnOk.mk (r := 3) (by rw [hK]; k_is) (by rw [hK]; k_is) rfl (fun vals h => by match vals, h with | [_], _ => rfl) (by delta n_run; decide) (by decide) (by delta n_run; decide) rfl rfl rfl (fun A L X hA F => ?_)
  have hh := hA.handled
  have hu8 : A.units + 8 < cLine := by have := hA.units; (first | lia | omega)
  have hu9 : A.units + 9 < cLine := by have := hA.units; (first | lia | omega)
  delta b_run
  refine BkOk.cons ?_ ?_
  · refine SkOk.assignT ?_ ?_ ?_ ?_ ?_
    · exact hh
    · refine EvsOk.cons ?_ ?_ ?_
      · refine EvOk.new (fI := 70) (r := 1) ?_ ?_ ?_ ?_ ?_ ?_
        · refine CaOk.name ?_ ?_ ?_ ?_ ?_ ?_ ?_ ?_
          · exact F
          · rfl
          · rw [hK]; k_is
          · rfl
          · rw [hK]; k_is
          · rfl
          · rfl
          · refine AvsOk.cons ?_ ?_ ?_
            · exact PvOk.const_int
            · exact AvsOk.nil
            · exact stConst
        · exact k_init hK hC hO
        · exact RoomA.mono (by decide) hA
        · rw [hK]; k_is
        · rw [hK]; k_is
        · rw [hK]; k_is
      · refine EvsOk.cons ?_ ?_ ?_
        · refine EvOk.new (fI := 70) (r := 1) ?_ ?_ ?_ ?_ ?_ ?_
          · refine CaOk.name ?_ ?_ ?_ ?_ ?_ ?_ ?_ ?_
            · exact F
            · rfl
            · rw [hK]; k_is
            · rfl
            · rw [hK]; k_is
            · rfl
            · rfl
            · refine AvsOk.cons ?_ ?_ ?_
              · exact PvOk.const_int
              · exact AvsOk.nil
              · exact stConst
          · exact k_init hK hC hO
          · exact RoomA.mono (by decide) hA
          · rw [hK]; k_is
          · rw [hK]; k_is
          · rw [hK]; k_is
        · refine EvsOk.cons ?_ ?_ ?_
          · refine EvOk.pure ?_
            · exact PvOk.const_bytes
          · refine EvsOk.cons ?_ ?_ ?_
            · refine EvOk.pure ?_
              · exact PvOk.const_int
            · refine EvsOk.cons ?_ ?_ ?_
              · refine EvOk.pure ?_
                · exact PvOk.const_int
              · refine EvsOk.cons ?_ ?_ ?_
                · refine EvOk.pure ?_
                  · exact PvOk.const_int
                · refine EvsOk.cons ?_ ?_ ?_
                  · refine EvOk.listNew ?_
                    · exact PvsOk.nil
                  · exact EvsOk.nil
                  · exact stList
                · exact stConst
              · exact stConst
            · exact stConst
          · exact stConst
        · exact stCall
      · exact stCall
    · refine .cons ?_ ?_ ?_
      · refine AsOk.name ?_ ?_
        · exact F
        · exact .inl rfl
      · rfl
      · refine .cons ?_ ?_ ?_
        · refine AsOk.name ?_ ?_
          · exact F
          · exact .inl rfl
        · rfl
        · refine .cons ?_ ?_ ?_
          · refine AsOk.name ?_ ?_
            · exact F
            · exact .inr ⟨_, rfl⟩
          · rfl
          · refine .cons ?_ ?_ ?_
            · refine AsOk.name ?_ ?_
              · exact F
              · exact .inl rfl
            · rfl
            · refine .cons ?_ ?_ ?_
              · refine AsOk.name ?_ ?_
                · exact F
                · exact .inl rfl
              · rfl
              · refine .cons ?_ ?_ ?_
                · refine AsOk.name ?_ ?_
                  · exact F
                  · exact .inl rfl
                · rfl
                · refine .cons ?_ ?_ ?_
                  · refine AsOk.name ?_ ?_
                    · exact F
                    · exact .inl rfl
                  · rfl
                  · exact .nil
    · rfl
    · rfl
  refine BkOk.cons ?_ ?_
  · refine SkOk.for ?_ ?_ ?_ ?_
    · refine ItOk.eff ?_
      · refine ItOk.data ?_ ?_
        · exact hh
        · refine PvOk.name 0 ?_ ?_ ?_
          · exact F
          · exact .inl rfl
          · rfl
    · refine AsOk.names ?_ ?_ ?_ ?_
      · exact hh
      · exact F
      · refine .cons ?_ ?_
        · exact .inl rfl
        · refine .cons ?_ ?_
          · exact .inl rfl
          · refine .cons ?_ ?_
            · exact .inl rfl
            · refine .cons ?_ ?_
              · exact .inl rfl
              · exact .nil
      · rfl
    · refine BkOk.cons ?_ ?_
      · refine SkOk.assign ?_ ?_ ?_ ?_ ?_
        · refine EvOk.pure ?_
          · refine PvOk.bin ?_ ?_ ?_
            · exact addOk
            · refine PvOk.name 4 ?_ ?_ ?_
              · exact F
              · exact .inl rfl
              · rfl
            · refine PvOk.name 9 ?_ ?_ ?_
              · exact F
              · exact .inl rfl
              · rfl
        · refine AsOk.name ?_ ?_
          · exact F
          · exact .inl rfl
        · rfl
        · rfl
        · rfl
      refine BkOk.cons ?_ ?_
      · refine SkOk.assign ?_ ?_ ?_ ?_ ?_
        · refine EvOk.pure ?_
          · refine PvOk.callB0 (f := .type "bytes") ?_ ?_ ?_ ?_ ?_ ?_ ?_ ?_ ?_ ?_ ?_
            · exact F
            · exact .inr ⟨_, rfl⟩
            · rfl
            · rw [hK]; k_is
            · rfl
            · rfl
            · decide
            · rfl
            · rfl
            · exact bytesLOk hh
            · refine P0sOk.cons ?_ ?_ ?_
              · refine PvOk.zero ?_
                · refine PvOk.compF ?_ ?_ ?_ ?_ ?_ ?_ ?_ ?_ ?_ ?_ ?_
                  · exact F
                  · decide
                  · decide
                  · decide
                  · decide
                  · refine ItOk.range ?_ ?_ ?_ ?_ ?_ ?_ ?_ ?_ ?_ ?_
                    · exact hh
                    · exact F
                    · rfl
                    · rw [hK]; k_is
                    · rfl
                    · rfl
                    · decide
                    · rfl
                    · rfl
                    · refine PvsOk.cons ?_ ?_ ?_
                      · refine PvOk.name 8 ?_ ?_ ?_
                        · exact F
                        · exact .inl rfl
                        · rfl
                      · exact PvsOk.nil
                      · exact stName
                  · rfl
                  · exact fun _ => rfl
                  · intro C D G
                    refine CtOk.name ?_ ?_
                    · exact G
                    · rfl
                  · intro C D G
                    exact IfsOk.nil
                  · intro C D G
                    refine PvOk.bin ?_ ?_ ?_
                    · exact addOk
                    · refine PvOk.callB0 (f := .builtin "len") ?_ ?_ ?_ ?_ ?_ ?_ ?_ ?_ ?_ ?_ ?_
                      · exact G
                      · exact .inl ⟨_, rfl⟩
                      · rfl
                      · rw [hK]; k_is
                      · rfl
                      · rfl
                      · decide
                      · rfl
                      · rfl
                      · exact lenOk
                      · refine P0sOk.cons ?_ ?_ ?_
                        · refine PvOk.zero ?_
                          · refine PvOk.name 3 ?_ ?_ ?_
                            · exact G
                            · exact .inr ⟨_, .inr rfl⟩
                            · rfl
                        · exact P0sOk.nil
                        · exact stName
                    · refine PvOk.name 20 ?_ ?_ ?_
                      · exact G
                      · exact .inl rfl
                      · rfl
              · exact P0sOk.nil
              · exact stListComp
        · refine AsOk.name ?_ ?_
          · exact F
          · exact .inl rfl
        · rfl
        · rfl
        · rfl
      refine BkOk.cons ?_ ?_
      · refine SkOk.assign ?_ ?_ ?_ ?_ ?_
        · refine EvOk.pure ?_
          · refine PvOk.bin ?_ ?_ ?_
            · exact addOk
            · refine PvOk.name 3 ?_ ?_ ?_
              · exact F
              · exact .inr ⟨_, .inl rfl⟩
              · rfl
            · refine PvOk.name 12 ?_ ?_ ?_
              · exact F
              · exact .inl rfl
              · rfl
        · refine AsOk.name ?_ ?_
          · exact F
          · exact .inr ⟨_, rfl⟩
        · rfl
        · rfl
        · rfl
      refine BkOk.cons ?_ ?_
      · refine SkOk.expr ?_ ?_ ?_
        · refine EvOk.callE (fv := .ref 77) (r := 1) ?_ ?_ ?_
          · refine CaOk.methodE 1 ?_ ?_ ?_ ?_ ?_ ?_ ?_ ?_ ?_ ?_ ?_ ?_
            · exact F
            · exact .inl rfl
            · rfl
            · exact hC
            · rw [hK]; k_is
            · rw [hK]; k_is
            · decide
            · rw [hK]; k_is
            · exact ⟨_, rfl⟩
            · rfl
            · rfl
            · refine AvsOk.cons ?_ ?_ ?_
              · refine PvOk.name 12 ?_ ?_ ?_
                · exact F
                · exact .inl rfl
                · rfl
              · exact AvsOk.nil
              · exact stName
          · exact k_write hK hC hO
          · exact RoomA.mono (by decide) hA
        · rfl
        · rfl
      refine BkOk.cons ?_ ?_
      · refine SkOk.expr ?_ ?_ ?_
        · refine EvOk.callE (fv := .ref 105) (r := 1) ?_ ?_ ?_
          · refine CaOk.methodE 1 ?_ ?_ ?_ ?_ ?_ ?_ ?_ ?_ ?_ ?_ ?_ ?_
            · exact F
            · exact .inl rfl
            · rfl
            · exact hC
            · rw [hK]; k_is
            · rw [hK]; k_is
            · decide
            · rw [hK]; k_is
            · exact ⟨_, rfl⟩
            · rfl
            · rfl
            · refine AvsOk.cons ?_ ?_ ?_
              · refine PvOk.name 4 ?_ ?_ ?_
                · exact F
                · exact .inl rfl
                · rfl
              · exact AvsOk.nil
              · exact stName
          · exact k_lim hK hC hO
          · exact RoomA.mono (by decide) hA
        · rfl
        · rfl
      refine BkOk.cons ?_ ?_
      · refine SkOk.assign ?_ ?_ ?_ ?_ ?_
        · refine EvOk.callE (fv := .ref 196) (r := 3) ?_ ?_ ?_
          · refine CaOk.name ?_ ?_ ?_ ?_ ?_ ?_ ?_ ?_
            · exact F
            · rfl
            · rw [hK]; k_is
            · rfl
            · rw [hK]; k_is
            · rfl
            · rfl
            · refine AvsOk.consName 1 ?_ ?_ ?_ ?_ ?_
              · exact F
              · exact .inl rfl
              · rfl
              · refine AvsOk.cons ?_ ?_ ?_
                · refine PvOk.name 10 ?_ ?_ ?_
                  · exact F
                  · exact .inl rfl
                  · rfl
                · refine AvsOk.cons ?_ ?_ ?_
                  · refine PvOk.name 3 ?_ ?_ ?_
                    · exact F
                    · exact .inr ⟨_, .inl rfl⟩
                    · rfl
                  · refine AvsOk.cons ?_ ?_ ?_
                    · refine PvOk.name 5 ?_ ?_ ?_
                      · exact F
                      · exact .inl rfl
                      · rfl
                    · exact AvsOk.nil
                    · exact stName
                  · exact stName
                · exact stName
              · exact stName
          · exact k_gone hK hC hO
          · exact RoomA.mono (by decide) hA
        · refine AsOk.name ?_ ?_
          · exact F
          · exact .inl rfl
        · rfl
        · rfl
        · rfl
      refine BkOk.cons ?_ ?_
      · refine SkOk.if ?_ ?_ ?_
        · refine TvOk.eff ?_
          · refine TvOk.cmp ?_ ?_ ?_ ?_
            · exact isNoneOk
            · refine PvOk.zero ?_
              · refine PvOk.name 13 ?_ ?_ ?_
                · exact F
                · exact .inl rfl
                · rfl
            · refine PvOk.zero ?_
              · exact PvOk.const_none
            · rfl
        · refine BkOk.cons ?_ ?_
          · refine SkOk.ret ?_
            · refine EvOk.pure ?_
              · exact PvOk.const_none
          exact BkOk.nil
        · exact BkOk.nil
      refine BkOk.cons ?_ ?_
      · refine SkOk.expr ?_ ?_ ?_
        · refine EvOk.callE (fv := .ref 77) (r := 1) ?_ ?_ ?_
          · refine CaOk.methodE 2 ?_ ?_ ?_ ?_ ?_ ?_ ?_ ?_ ?_ ?_ ?_ ?_
            · exact F
            · exact .inl rfl
            · rfl
            · exact hC
            · rw [hK]; k_is
            · rw [hK]; k_is
            · decide
            · rw [hK]; k_is
            · exact ⟨_, rfl⟩
            · rfl
            · rfl
            · refine AvsOk.cons ?_ ?_ ?_
              · refine PvOk.slice ?_ ?_ ?_
                · refine PvOk.name 3 ?_ ?_ ?_
                  · exact F
                  · exact .inr ⟨_, .inl rfl⟩
                  · rfl
                · refine PoOk.some ?_
                  · refine PvOk.name 5 ?_ ?_ ?_
                    · exact F
                    · exact .inl rfl
                    · rfl
                · refine PoOk.some ?_
                  · refine PvOk.name 13 ?_ ?_ ?_
                    · exact F
                    · exact .inl rfl
                    · rfl
              · exact AvsOk.nil
              · exact stSubscript
          · exact k_write hK hC hO
          · exact RoomA.mono (by decide) hA
        · rfl
        · rfl
      refine BkOk.cons ?_ ?_
      · refine SkOk.assignTrE (names := ["one", "far"]) ?_ ?_ ?_ ?_ ?_ ?_ ?_
        · rfl
        · exact hh
        · exact F
        · refine EvsOk.cons ?_ ?_ ?_
          · refine EvOk.pure ?_
            · refine PvOk.name 13 ?_ ?_ ?_
              · exact F
              · exact .inl rfl
              · rfl
          · refine EvsOk.cons ?_ ?_ ?_
            · refine EvOk.callE (fv := .ref 196) (r := 3) ?_ ?_ ?_
              · refine CaOk.name ?_ ?_ ?_ ?_ ?_ ?_ ?_ ?_
                · exact F
                · rfl
                · rw [hK]; k_is
                · rfl
                · rw [hK]; k_is
                · rfl
                · rfl
                · refine AvsOk.consName 2 ?_ ?_ ?_ ?_ ?_
                  · exact F
                  · exact .inl rfl
                  · rfl
                  · refine AvsOk.cons ?_ ?_ ?_
                    · refine PvOk.name 11 ?_ ?_ ?_
                      · exact F
                      · exact .inl rfl
                      · rfl
                    · refine AvsOk.cons ?_ ?_ ?_
                      · refine PvOk.name 3 ?_ ?_ ?_
                        · exact F
                        · exact .inr ⟨_, .inl rfl⟩
                        · rfl
                      · refine AvsOk.cons ?_ ?_ ?_
                        · refine PvOk.name 6 ?_ ?_ ?_
                          · exact F
                          · exact .inl rfl
                          · rfl
                        · exact AvsOk.nil
                        · exact stName
                      · exact stName
                    · exact stName
                  · exact stName
              · exact k_gone hK hC hO
              · exact RoomA.mono (by decide) hA
            · exact EvsOk.nil
            · exact stCall
          · exact stName
        · exact stores2 (.inl rfl) (.inl rfl)
        · rfl
        · rfl
      refine BkOk.cons ?_ ?_
      · refine SkOk.if ?_ ?_ ?_
        · refine TvOk.eff ?_
          · refine TvOk.cmp ?_ ?_ ?_ ?_
            · exact isNoneOk
            · refine PvOk.zero ?_
              · refine PvOk.name 14 ?_ ?_ ?_
                · exact F
                · exact .inl rfl
                · rfl
            · refine PvOk.zero ?_
              · exact PvOk.const_none
            · rfl
        · refine BkOk.cons ?_ ?_
          · refine SkOk.ret ?_
            · refine EvOk.pure ?_
              · exact PvOk.const_none
          exact BkOk.nil
        · exact BkOk.nil
      refine BkOk.cons ?_ ?_
      · refine SkOk.assign ?_ ?_ ?_ ?_ ?_
        · refine EvOk.pure ?_
          · refine PvOk.name 14 ?_ ?_ ?_
            · exact F
            · exact .inl rfl
            · rfl
        · refine AsOk.name ?_ ?_
          · exact F
          · exact .inl rfl
        · rfl
        · rfl
        · rfl
      refine BkOk.cons ?_ ?_
      · refine SkOk.append 7 ?_ ?_ ?_ ?_ ?_ ?_ ?_ ?_ ?_ ?_
        · exact F
        · exact .inl rfl
        · rfl
        · refine PvOk.tuple ?_
          · refine PvsOk.cons ?_ ?_ ?_
            · refine PvOk.name 5 ?_ ?_ ?_
              · exact F
              · exact .inl rfl
              · rfl
            · refine PvsOk.cons ?_ ?_ ?_
              · refine PvOk.name 6 ?_ ?_ ?_
                · exact F
                · exact .inl rfl
                · rfl
              · exact PvsOk.nil
              · exact stName
            · exact stName
        · rfl
        · rfl
        · rfl
        · rfl
        · rfl
        · rfl
      exact BkOk.nil
    · exact fun _ => rfl
  refine BkOk.freeze 7 ?_
  refine BkOk.cons ?_ ?_
  · refine SkOk.ret ?_
    · refine EvOk.pure ?_
      · refine PvOk.name 7 ?_ ?_ ?_
        · exact F
        · exact .inl rfl
        · rfl
  exact BkOk.nil

end Mine
end
section
namespace Mine
open PySem PySem.W PyProof.Rows PySem.Calls PySem.SeqAt
set_option maxRecDepth 100000
theorem fill_PD : (PySem.Challenge.rw_tk0097_02 = PySem.Challenge.rw_tk0097_02) ∧ hd.heap_39 = hd.heap_39 := by
  k_fill
  exact ⟨rfl, rfl⟩
set_option maxHeartbeats 8000000

noncomputable def b_law : S → Option (Fl × S) :=
  seqF (asF (lnewF (consP (compP 28 2 (itP (sliceP (vget 0) (noP) (partP (cP (.int 21))))) (Tgt.asg (.one 29)) (yesP) (cbP intD (consP (vget 29) (nilP)))) (consP (cP (.int 0)) (nilP)))) (Tgt.asg (.one 1))) (seqF (asF (lnewF (nilP)) (Tgt.asg (.one 2))) (seqF (forF (rngF (binF addD (dF (cP (.int 3))) (callE g_draw (consP (anyget 1) (consP (dV (cP (.int 3))) (nilP)))))) (Tgt.asg (.one 3)) (seqF (asTF (consF (callE g_draw (consP (anyget 1) (consP (dV (cP (.int 4))) (nilP)))) (consF (callE g_draw (consP (anyget 1) (consP (dV (cP (.int 4))) (nilP)))) (consF (callE g_draw (consP (anyget 1) (consP (dV (cP (.int 4))) (nilP)))) (consF (callE g_draw (consP (anyget 1) (consP (dV (cP (.int 4))) (nilP)))) ((fun σ => some ([], σ))))))) [Tgt.asg (.one 4), Tgt.asg (.one 5), Tgt.asg (.one 6), Tgt.asg (.one 7)]) (seqF (appF 2 (tupP (consP (vget 4) (consP (vget 5) (consP (vget 6) (consP (vget 7) (nilP))))))) (skip)))) (frzF 2 (seqF (asTF (consF (dF (call0 g_sums (consP (dV (compP 28 2 (itP (vget 2)) (Tgt.asg (.one 29)) (yesP) (binP idxD (vget 29) (cP (.int 0))))) (nilP)))) (consF (dF (call0 g_sums (consP (dV (compP 28 2 (itP (vget 2)) (Tgt.asg (.one 29)) (yesP) (binP idxD (vget 29) (cP (.int 1))))) (nilP)))) ((fun σ => some ([], σ))))) [Tgt.asg (.one 8), Tgt.asg (.one 9)]) (seqF (asTF (consF (dF (call0 g_sums (consP (dV (compP 28 2 (itP (vget 2)) (Tgt.asg (.one 29)) (yesP) (binP idxD (vget 29) (cP (.int 2))))) (nilP)))) (consF (dF (call0 g_sums (consP (dV (compP 28 2 (itP (vget 2)) (Tgt.asg (.one 29)) (yesP) (binP idxD (vget 29) (cP (.int 3))))) (nilP)))) ((fun σ => some ([], σ))))) [Tgt.asg (.one 10), Tgt.asg (.one 11)]) (seqF (asTF (consF (dF (compP 28 2 (rgP (consP (cbP lenD (consP (vget 8) (nilP))) (nilP))) (Tgt.asg (.one 29)) (yesP) (cbP min2D (consP (binP idxD (vget 8) (vget 29)) (consP (binP idxD (vget 9) (vget 29)) (nilP)))))) (consF (lnewF (nilP)) ((fun σ => some ([], σ))))) [Tgt.asg (.one 13), Tgt.asg (.one 14)]) (seqF (forF (pureF (rgP (consP (cP (.int 1)) (consP (cbP lenD (consP (vget 13) (nilP))) (nilP))))) (Tgt.asg (.one 12)) (seqF (asF (dF (cbP minLD (consP (compP 28 2 (rgP (consP (binP addD (vget 12) (cP (.int 1))) (nilP))) (Tgt.asg (.one 29)) (yesP) (binP subD (binP addD (binP idxD (vget 13) (vget 29)) (binP idxD (vget 10) (vget 12))) (binP idxD (vget 10) (vget 29)))) (nilP)))) (Tgt.asg (.one 15))) (seqF (asF (lnewF (nilP)) (Tgt.asg (.one 16))) (seqF (forF (pureF (rgP (consP (binP addD (vget 12) (cP (.int 1))) (nilP)))) (Tgt.asg (.one 17)) (seqF (extF 16 (compP 28 2 (rgP (consP (binP addD (vget 17) (cP (.int 1))) (nilP))) (Tgt.asg (.one 29)) (yesP) (binP subD (binP addD (binP subD (binP addD (binP idxD (vget 13) (vget 29)) (binP idxD (vget 10) (vget 17))) (binP idxD (vget 10) (vget 29))) (binP idxD (vget 11) (vget 12))) (binP idxD (vget 11) (vget 17))))) (skip))) (frzF 16 (seqF (appF 14 (tupP (consP (vget 15) (consP (cbP minLD (consP (vget 16) (nilP))) (nilP))))) (skip))))))) (frzF 14 (seqF (ifF (pureF (cmpP neD (call0 g_run (consP (dV (vget 2)) (nilP))) (vget 14))) (seqF (retF (dF (cP (.bool false)))) (skip)) (skip)) (seqF (asTF (consF (dF (binP idxD (binP idxD (vget 2) (cP (.int 0))) (cP (.int 2)))) (consF (dF (binP idxD (binP idxD (vget 2) (cP (.int 0))) (cP (.int 3)))) ((fun σ => some ([], σ))))) [Tgt.asg (.one 15), Tgt.asg (.one 18)]) (seqF (asF (dF (call0 g_run (consP (dV (compP 28 2 (itP (vget 2)) (Tgt.asg (.one 29)) (yesP) (tupP (consP (binP idxD (vget 29) (cP (.int 0))) (consP (binP idxD (vget 29) (cP (.int 1))) (consP (vget 15) (consP (vget 18) (nilP)))))))) (nilP)))) (Tgt.asg (.one 19))) (seqF (asF (dF (call0 g_run (consP (dV (compP 28 2 (itP (vget 2)) (Tgt.asg (.one 29)) (yesP) (tupP (consP (binP idxD (vget 29) (cP (.int 0))) (consP (binP idxD (vget 29) (cP (.int 1))) (consP (vget 18) (consP (vget 15) (nilP)))))))) (nilP)))) (Tgt.asg (.one 20))) (seqF (asF (dF (call0 g_run (consP (dV (compP 28 2 (itP (vget 2)) (Tgt.asg (.one 29)) (yesP) (tupP (consP (binP idxD (vget 29) (cP (.int 0))) (consP (binP idxD (vget 29) (cP (.int 1))) (consP (cbP min2D (consP (vget 15) (consP (vget 18) (nilP)))) (consP (cP (.int 99)) (nilP)))))))) (nilP)))) (Tgt.asg (.one 21))) (seqF (ifF (pureF (orT [cmpP isNoneD (vget 19) (cP .none), cmpP isNoneD (vget 20) (cP .none), cmpP isNoneD (vget 21) (cP .none)])) (seqF (retF (dF (cP (.bool false)))) (skip)) (skip)) (seqF (retF (dF (chainP eqD eqD (compP 28 2 (itP (vget 19)) (Tgt.asg (.one 29)) (yesP) (binP idxD (vget 29) (cP (.int 1)))) (compP 28 2 (itP (vget 20)) (Tgt.asg (.one 29)) (yesP) (binP idxD (vget 29) (cP (.int 1)))) (compP 28 2 (itP (vget 21)) (Tgt.asg (.one 29)) (yesP) (binP idxD (vget 29) (cP (.int 1))))))) (skip))))))))))))))))
noncomputable def n_law : List (Str × NameKind) := [("script", .local), ("pool", .local), ("rows", .local), ("turn", .local), ("many", .local), ("more", .local), ("room", .local), ("later", .local), ("written", .cell), ("let", .cell), ("near", .cell), ("far", .cell), ("at", .cell), ("ready", .cell), ("due", .local), ("one", .cell), ("some", .local), ("mid", .cell), ("other", .cell), ("even", .local), ("turned", .local), ("alone", .local), ("range", .globalImplicit), ("_law_draw", .globalImplicit), ("_law_sums", .globalImplicit), ("len", .globalImplicit), ("min", .globalImplicit), ("_law_run", .globalImplicit)]
noncomputable def g_law : Fun := runF n_law ["script"] b_law
theorem k_law {T : TI} (hK : T.K = hd.heap_39 T.w.params) (hC : ClsOk T 178) (hO : ∃ v, T.mg "OPEN_STATES" = some v ∧ RepD (fun _ => False) T.h₀ (.tup [.str "ready", .str "send"]) v) : FnOk T 5 (.ref 213) g_law := by
  delta g_law
  refine FnOk.mk (r := 4) (by rw [hK]; k_is) (by rw [hK]; k_is) rfl (fun vals h => by match vals, h with | [_], _ => rfl) (by delta n_law; decide) (by decide) (by delta n_law; decide) rfl rfl rfl (fun A L X hA F => ?_)
  have hh := hA.handled
  have hu8 : A.units + 8 < cLine := by have := hA.units; (first | lia | omega)
  have hu9 : A.units + 9 < cLine := by have := hA.units; (first | lia | omega)
  delta b_law
  refine BkOk.cons ?_ ?_
  · refine SkOk.assign ?_ ?_ ?_ ?_ ?_
    · refine EvOk.listNew ?_
      · refine PvsOk.cons ?_ ?_ ?_
        · refine PvOk.compF ?_ ?_ ?_ ?_ ?_ ?_ ?_ ?_ ?_ ?_ ?_
          · exact F
          · decide
          · decide
          · decide
          · decide
          · refine ItOk.data ?_ ?_
            · exact hh
            · refine PvOk.slice ?_ ?_ ?_
              · refine PvOk.name 0 ?_ ?_ ?_
                · exact F
                · exact .inl rfl
                · rfl
              · exact PoOk.none
              · refine PoOk.some ?_
                · exact PvOk.const_int
          · rfl
          · exact fun _ => rfl
          · intro C D G
            refine CtOk.name ?_ ?_
            · exact G
            · rfl
          · intro C D G
            exact IfsOk.nil
          · intro C D G
            refine PvOk.callB (f := .type "int") ?_ ?_ ?_ ?_ ?_ ?_ ?_ ?_ ?_ ?_ ?_
            · exact G
            · exact .inr ⟨_, rfl⟩
            · rfl
            · rw [hK]; k_is
            · rfl
            · rfl
            · decide
            · rfl
            · rfl
            · exact intOk
            · refine PvsOk.cons ?_ ?_ ?_
              · refine PvOk.name 29 ?_ ?_ ?_
                · exact G
                · exact .inl rfl
                · rfl
              · exact PvsOk.nil
              · exact stName
        · refine PvsOk.cons ?_ ?_ ?_
          · exact PvOk.const_int
          · exact PvsOk.nil
          · exact stConst
        · exact stListComp
    · refine AsOk.name ?_ ?_
      · exact F
      · exact .inl rfl
    · rfl
    · rfl
    · rfl
  refine BkOk.cons ?_ ?_
  · refine SkOk.assign ?_ ?_ ?_ ?_ ?_
    · refine EvOk.listNew ?_
      · exact PvsOk.nil
    · refine AsOk.name ?_ ?_
      · exact F
      · exact .inl rfl
    · rfl
    · rfl
    · rfl
  refine BkOk.cons ?_ ?_
  · refine SkOk.for ?_ ?_ ?_ ?_
    · refine EiOk.range ?_ ?_ ?_ ?_ ?_ ?_ ?_ ?_ ?_ ?_
      · exact hh
      · exact F
      · rfl
      · rw [hK]; k_is
      · rfl
      · rfl
      · decide
      · rfl
      · rfl
      · refine EvOk.bin ?_ ?_ ?_
        · exact addOk
        · refine EvOk.pure ?_
          · exact PvOk.const_int
        · refine EvOk.callE (fv := .ref 189) (r := 1) ?_ ?_ ?_
          · refine CaOk.name ?_ ?_ ?_ ?_ ?_ ?_ ?_ ?_
            · exact F
            · rfl
            · rw [hK]; k_is
            · rfl
            · rw [hK]; k_is
            · rfl
            · rfl
            · refine AvsOk.consName 1 ?_ ?_ ?_ ?_ ?_
              · exact F
              · exact .inl rfl
              · rfl
              · refine AvsOk.cons ?_ ?_ ?_
                · exact PvOk.const_int
                · exact AvsOk.nil
                · exact stConst
              · exact stName
          · exact k_draw hK hC hO
          · exact RoomA.mono (by decide) hA
    · refine AsOk.name ?_ ?_
      · exact F
      · exact .inl rfl
    · refine BkOk.cons ?_ ?_
      · refine SkOk.assignT ?_ ?_ ?_ ?_ ?_
        · exact hh
        · refine EvsOk.cons ?_ ?_ ?_
          · refine EvOk.callE (fv := .ref 189) (r := 1) ?_ ?_ ?_
            · refine CaOk.name ?_ ?_ ?_ ?_ ?_ ?_ ?_ ?_
              · exact F
              · rfl
              · rw [hK]; k_is
              · rfl
              · rw [hK]; k_is
              · rfl
              · rfl
              · refine AvsOk.consName 1 ?_ ?_ ?_ ?_ ?_
                · exact F
                · exact .inl rfl
                · rfl
                · refine AvsOk.cons ?_ ?_ ?_
                  · exact PvOk.const_int
                  · exact AvsOk.nil
                  · exact stConst
                · exact stName
            · exact k_draw hK hC hO
            · exact RoomA.mono (by decide) hA
          · refine EvsOk.cons ?_ ?_ ?_
            · refine EvOk.callE (fv := .ref 189) (r := 1) ?_ ?_ ?_
              · refine CaOk.name ?_ ?_ ?_ ?_ ?_ ?_ ?_ ?_
                · exact F
                · rfl
                · rw [hK]; k_is
                · rfl
                · rw [hK]; k_is
                · rfl
                · rfl
                · refine AvsOk.consName 1 ?_ ?_ ?_ ?_ ?_
                  · exact F
                  · exact .inl rfl
                  · rfl
                  · refine AvsOk.cons ?_ ?_ ?_
                    · exact PvOk.const_int
                    · exact AvsOk.nil
                    · exact stConst
                  · exact stName
              · exact k_draw hK hC hO
              · exact RoomA.mono (by decide) hA
            · refine EvsOk.cons ?_ ?_ ?_
              · refine EvOk.callE (fv := .ref 189) (r := 1) ?_ ?_ ?_
                · refine CaOk.name ?_ ?_ ?_ ?_ ?_ ?_ ?_ ?_
                  · exact F
                  · rfl
                  · rw [hK]; k_is
                  · rfl
                  · rw [hK]; k_is
                  · rfl
                  · rfl
                  · refine AvsOk.consName 1 ?_ ?_ ?_ ?_ ?_
                    · exact F
                    · exact .inl rfl
                    · rfl
                    · refine AvsOk.cons ?_ ?_ ?_
                      · exact PvOk.const_int
                      · exact AvsOk.nil
                      · exact stConst
                    · exact stName
                · exact k_draw hK hC hO
                · exact RoomA.mono (by decide) hA
              · refine EvsOk.cons ?_ ?_ ?_
                · refine EvOk.callE (fv := .ref 189) (r := 1) ?_ ?_ ?_
                  · refine CaOk.name ?_ ?_ ?_ ?_ ?_ ?_ ?_ ?_
                    · exact F
                    · rfl
                    · rw [hK]; k_is
                    · rfl
                    · rw [hK]; k_is
                    · rfl
                    · rfl
                    · refine AvsOk.consName 1 ?_ ?_ ?_ ?_ ?_
                      · exact F
                      · exact .inl rfl
                      · rfl
                      · refine AvsOk.cons ?_ ?_ ?_
                        · exact PvOk.const_int
                        · exact AvsOk.nil
                        · exact stConst
                      · exact stName
                  · exact k_draw hK hC hO
                  · exact RoomA.mono (by decide) hA
                · exact EvsOk.nil
                · exact stCall
              · exact stCall
            · exact stCall
          · exact stCall
        · refine .cons ?_ ?_ ?_
          · refine AsOk.name ?_ ?_
            · exact F
            · exact .inl rfl
          · rfl
          · refine .cons ?_ ?_ ?_
            · refine AsOk.name ?_ ?_
              · exact F
              · exact .inl rfl
            · rfl
            · refine .cons ?_ ?_ ?_
              · refine AsOk.name ?_ ?_
                · exact F
                · exact .inl rfl
              · rfl
              · refine .cons ?_ ?_ ?_
                · refine AsOk.name ?_ ?_
                  · exact F
                  · exact .inl rfl
                · rfl
                · exact .nil
        · rfl
        · rfl
      refine BkOk.cons ?_ ?_
      · refine SkOk.append 2 ?_ ?_ ?_ ?_ ?_ ?_ ?_ ?_ ?_ ?_
        · exact F
        · exact .inl rfl
        · rfl
        · refine PvOk.tuple ?_
          · refine PvsOk.cons ?_ ?_ ?_
            · refine PvOk.name 4 ?_ ?_ ?_
              · exact F
              · exact .inl rfl
              · rfl
            · refine PvsOk.cons ?_ ?_ ?_
              · refine PvOk.name 5 ?_ ?_ ?_
                · exact F
                · exact .inl rfl
                · rfl
              · refine PvsOk.cons ?_ ?_ ?_
                · refine PvOk.name 6 ?_ ?_ ?_
                  · exact F
                  · exact .inl rfl
                  · rfl
                · refine PvsOk.cons ?_ ?_ ?_
                  · refine PvOk.name 7 ?_ ?_ ?_
                    · exact F
                    · exact .inl rfl
                    · rfl
                  · exact PvsOk.nil
                  · exact stName
                · exact stName
              · exact stName
            · exact stName
        · rfl
        · rfl
        · rfl
        · rfl
        · rfl
        · rfl
      exact BkOk.nil
    · exact fun _ => rfl
  refine BkOk.freeze 2 ?_
  refine BkOk.cons ?_ ?_
  · refine SkOk.assignT ?_ ?_ ?_ ?_ ?_
    · exact hh
    · refine EvsOk.cons ?_ ?_ ?_
      · refine EvOk.pure ?_
        · refine PvOk.call0 (fv := .ref 208) (r := 1) ?_ ?_ ?_
          · refine CaOk.name ?_ ?_ ?_ ?_ ?_ ?_ ?_ ?_
            · exact F
            · rfl
            · rw [hK]; k_is
            · rfl
            · rw [hK]; k_is
            · rfl
            · rfl
            · refine AvsOk.cons ?_ ?_ ?_
              · refine PvOk.compF ?_ ?_ ?_ ?_ ?_ ?_ ?_ ?_ ?_ ?_ ?_
                · exact F
                · decide
                · decide
                · decide
                · decide
                · refine ItOk.data ?_ ?_
                  · exact hh
                  · refine PvOk.name 2 ?_ ?_ ?_
                    · exact F
                    · exact .inl rfl
                    · rfl
                · rfl
                · exact fun _ => rfl
                · intro C D G
                  refine CtOk.name ?_ ?_
                  · exact G
                  · rfl
                · intro C D G
                  exact IfsOk.nil
                · intro C D G
                  refine PvOk.index ?_ ?_
                  · refine PvOk.name 29 ?_ ?_ ?_
                    · exact G
                    · exact .inl rfl
                    · rfl
                  · exact PvOk.const_int
              · exact AvsOk.nil
              · exact stListComp
          · exact k_sums hK hC hO
          · exact RoomA.mono (by decide) hA
      · refine EvsOk.cons ?_ ?_ ?_
        · refine EvOk.pure ?_
          · refine PvOk.call0 (fv := .ref 208) (r := 1) ?_ ?_ ?_
            · refine CaOk.name ?_ ?_ ?_ ?_ ?_ ?_ ?_ ?_
              · exact F
              · rfl
              · rw [hK]; k_is
              · rfl
              · rw [hK]; k_is
              · rfl
              · rfl
              · refine AvsOk.cons ?_ ?_ ?_
                · refine PvOk.compF ?_ ?_ ?_ ?_ ?_ ?_ ?_ ?_ ?_ ?_ ?_
                  · exact F
                  · decide
                  · decide
                  · decide
                  · decide
                  · refine ItOk.data ?_ ?_
                    · exact hh
                    · refine PvOk.name 2 ?_ ?_ ?_
                      · exact F
                      · exact .inl rfl
                      · rfl
                  · rfl
                  · exact fun _ => rfl
                  · intro C D G
                    refine CtOk.name ?_ ?_
                    · exact G
                    · rfl
                  · intro C D G
                    exact IfsOk.nil
                  · intro C D G
                    refine PvOk.index ?_ ?_
                    · refine PvOk.name 29 ?_ ?_ ?_
                      · exact G
                      · exact .inl rfl
                      · rfl
                    · exact PvOk.const_int
                · exact AvsOk.nil
                · exact stListComp
            · exact k_sums hK hC hO
            · exact RoomA.mono (by decide) hA
        · exact EvsOk.nil
        · exact stCall
      · exact stCall
    · refine .cons ?_ ?_ ?_
      · refine AsOk.name ?_ ?_
        · exact F
        · exact .inr ⟨_, rfl⟩
      · rfl
      · refine .cons ?_ ?_ ?_
        · refine AsOk.name ?_ ?_
          · exact F
          · exact .inr ⟨_, rfl⟩
        · rfl
        · exact .nil
    · rfl
    · rfl
  refine BkOk.cons ?_ ?_
  · refine SkOk.assignT ?_ ?_ ?_ ?_ ?_
    · exact hh
    · refine EvsOk.cons ?_ ?_ ?_
      · refine EvOk.pure ?_
        · refine PvOk.call0 (fv := .ref 208) (r := 1) ?_ ?_ ?_
          · refine CaOk.name ?_ ?_ ?_ ?_ ?_ ?_ ?_ ?_
            · exact F
            · rfl
            · rw [hK]; k_is
            · rfl
            · rw [hK]; k_is
            · rfl
            · rfl
            · refine AvsOk.cons ?_ ?_ ?_
              · refine PvOk.compF ?_ ?_ ?_ ?_ ?_ ?_ ?_ ?_ ?_ ?_ ?_
                · exact F
                · decide
                · decide
                · decide
                · decide
                · refine ItOk.data ?_ ?_
                  · exact hh
                  · refine PvOk.name 2 ?_ ?_ ?_
                    · exact F
                    · exact .inl rfl
                    · rfl
                · rfl
                · exact fun _ => rfl
                · intro C D G
                  refine CtOk.name ?_ ?_
                  · exact G
                  · rfl
                · intro C D G
                  exact IfsOk.nil
                · intro C D G
                  refine PvOk.index ?_ ?_
                  · refine PvOk.name 29 ?_ ?_ ?_
                    · exact G
                    · exact .inl rfl
                    · rfl
                  · exact PvOk.const_int
              · exact AvsOk.nil
              · exact stListComp
          · exact k_sums hK hC hO
          · exact RoomA.mono (by decide) hA
      · refine EvsOk.cons ?_ ?_ ?_
        · refine EvOk.pure ?_
          · refine PvOk.call0 (fv := .ref 208) (r := 1) ?_ ?_ ?_
            · refine CaOk.name ?_ ?_ ?_ ?_ ?_ ?_ ?_ ?_
              · exact F
              · rfl
              · rw [hK]; k_is
              · rfl
              · rw [hK]; k_is
              · rfl
              · rfl
              · refine AvsOk.cons ?_ ?_ ?_
                · refine PvOk.compF ?_ ?_ ?_ ?_ ?_ ?_ ?_ ?_ ?_ ?_ ?_
                  · exact F
                  · decide
                  · decide
                  · decide
                  · decide
                  · refine ItOk.data ?_ ?_
                    · exact hh
                    · refine PvOk.name 2 ?_ ?_ ?_
                      · exact F
                      · exact .inl rfl
                      · rfl
                  · rfl
                  · exact fun _ => rfl
                  · intro C D G
                    refine CtOk.name ?_ ?_
                    · exact G
                    · rfl
                  · intro C D G
                    exact IfsOk.nil
                  · intro C D G
                    refine PvOk.index ?_ ?_
                    · refine PvOk.name 29 ?_ ?_ ?_
                      · exact G
                      · exact .inl rfl
                      · rfl
                    · exact PvOk.const_int
                · exact AvsOk.nil
                · exact stListComp
            · exact k_sums hK hC hO
            · exact RoomA.mono (by decide) hA
        · exact EvsOk.nil
        · exact stCall
      · exact stCall
    · refine .cons ?_ ?_ ?_
      · refine AsOk.name ?_ ?_
        · exact F
        · exact .inr ⟨_, rfl⟩
      · rfl
      · refine .cons ?_ ?_ ?_
        · refine AsOk.name ?_ ?_
          · exact F
          · exact .inr ⟨_, rfl⟩
        · rfl
        · exact .nil
    · rfl
    · rfl
  refine BkOk.cons ?_ ?_
  · refine SkOk.assignT ?_ ?_ ?_ ?_ ?_
    · exact hh
    · refine EvsOk.cons ?_ ?_ ?_
      · refine EvOk.pure ?_
        · refine PvOk.compF ?_ ?_ ?_ ?_ ?_ ?_ ?_ ?_ ?_ ?_ ?_
          · exact F
          · decide
          · decide
          · decide
          · decide
          · refine ItOk.range ?_ ?_ ?_ ?_ ?_ ?_ ?_ ?_ ?_ ?_
            · exact hh
            · exact F
            · rfl
            · rw [hK]; k_is
            · rfl
            · rfl
            · decide
            · rfl
            · rfl
            · refine PvsOk.cons ?_ ?_ ?_
              · refine PvOk.callB0 (f := .builtin "len") ?_ ?_ ?_ ?_ ?_ ?_ ?_ ?_ ?_ ?_ ?_
                · exact F
                · exact .inl ⟨_, rfl⟩
                · rfl
                · rw [hK]; k_is
                · rfl
                · rfl
                · decide
                · rfl
                · rfl
                · exact lenOk
                · refine P0sOk.cons ?_ ?_ ?_
                  · refine PvOk.zero ?_
                    · refine PvOk.name 8 ?_ ?_ ?_
                      · exact F
                      · exact .inr ⟨_, .inl rfl⟩
                      · rfl
                  · exact P0sOk.nil
                  · exact stName
              · exact PvsOk.nil
              · exact stCall
          · rfl
          · exact fun _ => rfl
          · intro C D G
            refine CtOk.name ?_ ?_
            · exact G
            · rfl
          · intro C D G
            exact IfsOk.nil
          · intro C D G
            refine PvOk.callB (f := .builtin "min") ?_ ?_ ?_ ?_ ?_ ?_ ?_ ?_ ?_ ?_ ?_
            · exact G
            · exact .inl ⟨_, rfl⟩
            · rfl
            · rw [hK]; k_is
            · rfl
            · rfl
            · decide
            · rfl
            · rfl
            · exact min2Ok hh
            · refine PvsOk.cons ?_ ?_ ?_
              · refine PvOk.index ?_ ?_
                · refine PvOk.name 8 ?_ ?_ ?_
                  · exact G
                  · exact .inr ⟨_, .inr rfl⟩
                  · rfl
                · refine PvOk.name 29 ?_ ?_ ?_
                  · exact G
                  · exact .inl rfl
                  · rfl
              · refine PvsOk.cons ?_ ?_ ?_
                · refine PvOk.index ?_ ?_
                  · refine PvOk.name 9 ?_ ?_ ?_
                    · exact G
                    · exact .inr ⟨_, .inr rfl⟩
                    · rfl
                  · refine PvOk.name 29 ?_ ?_ ?_
                    · exact G
                    · exact .inl rfl
                    · rfl
                · exact PvsOk.nil
                · exact stSubscript
              · exact stSubscript
      · refine EvsOk.cons ?_ ?_ ?_
        · refine EvOk.listNew ?_
          · exact PvsOk.nil
        · exact EvsOk.nil
        · exact stList
      · exact stListComp
    · refine .cons ?_ ?_ ?_
      · refine AsOk.name ?_ ?_
        · exact F
        · exact .inr ⟨_, rfl⟩
      · rfl
      · refine .cons ?_ ?_ ?_
        · refine AsOk.name ?_ ?_
          · exact F
          · exact .inl rfl
        · rfl
        · exact .nil
    · rfl
    · rfl
  refine BkOk.cons ?_ ?_
  · refine SkOk.for ?_ ?_ ?_ ?_
    · refine ItOk.eff ?_
      · refine ItOk.range ?_ ?_ ?_ ?_ ?_ ?_ ?_ ?_ ?_ ?_
        · exact hh
        · exact F
        · rfl
        · rw [hK]; k_is
        · rfl
        · rfl
        · decide
        · rfl
        · rfl
        · refine PvsOk.cons ?_ ?_ ?_
          · exact PvOk.const_int
          · refine PvsOk.cons ?_ ?_ ?_
            · refine PvOk.callB0 (f := .builtin "len") ?_ ?_ ?_ ?_ ?_ ?_ ?_ ?_ ?_ ?_ ?_
              · exact F
              · exact .inl ⟨_, rfl⟩
              · rfl
              · rw [hK]; k_is
              · rfl
              · rfl
              · decide
              · rfl
              · rfl
              · exact lenOk
              · refine P0sOk.cons ?_ ?_ ?_
                · refine PvOk.zero ?_
                  · refine PvOk.name 13 ?_ ?_ ?_
                    · exact F
                    · exact .inr ⟨_, .inl rfl⟩
                    · rfl
                · exact P0sOk.nil
                · exact stName
            · exact PvsOk.nil
            · exact stCall
          · exact stConst
    · refine AsOk.name ?_ ?_
      · exact F
      · exact .inr ⟨_, rfl⟩
    · refine BkOk.cons ?_ ?_
      · refine SkOk.assign ?_ ?_ ?_ ?_ ?_
        · refine EvOk.pure ?_
          · refine PvOk.callB0 (f := .builtin "min") ?_ ?_ ?_ ?_ ?_ ?_ ?_ ?_ ?_ ?_ ?_
            · exact F
            · exact .inl ⟨_, rfl⟩
            · rfl
            · rw [hK]; k_is
            · rfl
            · rfl
            · decide
            · rfl
            · rfl
            · exact minLOk hh
            · refine P0sOk.cons ?_ ?_ ?_
              · refine PvOk.zero ?_
                · refine PvOk.compF ?_ ?_ ?_ ?_ ?_ ?_ ?_ ?_ ?_ ?_ ?_
                  · exact F
                  · decide
                  · decide
                  · decide
                  · decide
                  · refine ItOk.range ?_ ?_ ?_ ?_ ?_ ?_ ?_ ?_ ?_ ?_
                    · exact hh
                    · exact F
                    · rfl
                    · rw [hK]; k_is
                    · rfl
                    · rfl
                    · decide
                    · rfl
                    · rfl
                    · refine PvsOk.cons ?_ ?_ ?_
                      · refine PvOk.bin ?_ ?_ ?_
                        · exact addOk
                        · refine PvOk.name 12 ?_ ?_ ?_
                          · exact F
                          · exact .inr ⟨_, .inl rfl⟩
                          · rfl
                        · exact PvOk.const_int
                      · exact PvsOk.nil
                      · exact stBinOp
                  · rfl
                  · exact fun _ => rfl
                  · intro C D G
                    refine CtOk.name ?_ ?_
                    · exact G
                    · rfl
                  · intro C D G
                    exact IfsOk.nil
                  · intro C D G
                    refine PvOk.bin ?_ ?_ ?_
                    · exact subOk
                    · refine PvOk.bin ?_ ?_ ?_
                      · exact addOk
                      · refine PvOk.index ?_ ?_
                        · refine PvOk.name 13 ?_ ?_ ?_
                          · exact G
                          · exact .inr ⟨_, .inr rfl⟩
                          · rfl
                        · refine PvOk.name 29 ?_ ?_ ?_
                          · exact G
                          · exact .inl rfl
                          · rfl
                      · refine PvOk.index ?_ ?_
                        · refine PvOk.name 10 ?_ ?_ ?_
                          · exact G
                          · exact .inr ⟨_, .inr rfl⟩
                          · rfl
                        · refine PvOk.name 12 ?_ ?_ ?_
                          · exact G
                          · exact .inr ⟨_, .inr rfl⟩
                          · rfl
                    · refine PvOk.index ?_ ?_
                      · refine PvOk.name 10 ?_ ?_ ?_
                        · exact G
                        · exact .inr ⟨_, .inr rfl⟩
                        · rfl
                      · refine PvOk.name 29 ?_ ?_ ?_
                        · exact G
                        · exact .inl rfl
                        · rfl
              · exact P0sOk.nil
              · exact stListComp
        · refine AsOk.name ?_ ?_
          · exact F
          · exact .inr ⟨_, rfl⟩
        · rfl
        · rfl
        · rfl
      refine BkOk.cons ?_ ?_
      · refine SkOk.assign ?_ ?_ ?_ ?_ ?_
        · refine EvOk.listNew ?_
          · exact PvsOk.nil
        · refine AsOk.name ?_ ?_
          · exact F
          · exact .inl rfl
        · rfl
        · rfl
        · rfl
      refine BkOk.cons ?_ ?_
      · refine SkOk.for ?_ ?_ ?_ ?_
        · refine ItOk.eff ?_
          · refine ItOk.range ?_ ?_ ?_ ?_ ?_ ?_ ?_ ?_ ?_ ?_
            · exact hh
            · exact F
            · rfl
            · rw [hK]; k_is
            · rfl
            · rfl
            · decide
            · rfl
            · rfl
            · refine PvsOk.cons ?_ ?_ ?_
              · refine PvOk.bin ?_ ?_ ?_
                · exact addOk
                · refine PvOk.name 12 ?_ ?_ ?_
                  · exact F
                  · exact .inr ⟨_, .inl rfl⟩
                  · rfl
                · exact PvOk.const_int
              · exact PvsOk.nil
              · exact stBinOp
        · refine AsOk.name ?_ ?_
          · exact F
          · exact .inr ⟨_, rfl⟩
        · refine BkOk.cons ?_ ?_
          · refine SkOk.extendE 16 ?_ ?_ ?_ ?_ ?_ ?_ ?_ ?_
            · exact F
            · exact .inl rfl
            · rfl
            · refine PvOk.compF ?_ ?_ ?_ ?_ ?_ ?_ ?_ ?_ ?_ ?_ ?_
              · exact F
              · decide
              · decide
              · decide
              · decide
              · refine ItOk.range ?_ ?_ ?_ ?_ ?_ ?_ ?_ ?_ ?_ ?_
                · exact hh
                · exact F
                · rfl
                · rw [hK]; k_is
                · rfl
                · rfl
                · decide
                · rfl
                · rfl
                · refine PvsOk.cons ?_ ?_ ?_
                  · refine PvOk.bin ?_ ?_ ?_
                    · exact addOk
                    · refine PvOk.name 17 ?_ ?_ ?_
                      · exact F
                      · exact .inr ⟨_, .inl rfl⟩
                      · rfl
                    · exact PvOk.const_int
                  · exact PvsOk.nil
                  · exact stBinOp
              · rfl
              · exact fun _ => rfl
              · intro C D G
                refine CtOk.name ?_ ?_
                · exact G
                · rfl
              · intro C D G
                exact IfsOk.nil
              · intro C D G
                refine PvOk.bin ?_ ?_ ?_
                · exact subOk
                · refine PvOk.bin ?_ ?_ ?_
                  · exact addOk
                  · refine PvOk.bin ?_ ?_ ?_
                    · exact subOk
                    · refine PvOk.bin ?_ ?_ ?_
                      · exact addOk
                      · refine PvOk.index ?_ ?_
                        · refine PvOk.name 13 ?_ ?_ ?_
                          · exact G
                          · exact .inr ⟨_, .inr rfl⟩
                          · rfl
                        · refine PvOk.name 29 ?_ ?_ ?_
                          · exact G
                          · exact .inl rfl
                          · rfl
                      · refine PvOk.index ?_ ?_
                        · refine PvOk.name 10 ?_ ?_ ?_
                          · exact G
                          · exact .inr ⟨_, .inr rfl⟩
                          · rfl
                        · refine PvOk.name 17 ?_ ?_ ?_
                          · exact G
                          · exact .inr ⟨_, .inr rfl⟩
                          · rfl
                    · refine PvOk.index ?_ ?_
                      · refine PvOk.name 10 ?_ ?_ ?_
                        · exact G
                        · exact .inr ⟨_, .inr rfl⟩
                        · rfl
                      · refine PvOk.name 29 ?_ ?_ ?_
                        · exact G
                        · exact .inl rfl
                        · rfl
                  · refine PvOk.index ?_ ?_
                    · refine PvOk.name 11 ?_ ?_ ?_
                      · exact G
                      · exact .inr ⟨_, .inr rfl⟩
                      · rfl
                    · refine PvOk.name 12 ?_ ?_ ?_
                      · exact G
                      · exact .inr ⟨_, .inr rfl⟩
                      · rfl
                · refine PvOk.index ?_ ?_
                  · refine PvOk.name 11 ?_ ?_ ?_
                    · exact G
                    · exact .inr ⟨_, .inr rfl⟩
                    · rfl
                  · refine PvOk.name 17 ?_ ?_ ?_
                    · exact G
                    · exact .inr ⟨_, .inr rfl⟩
                    · rfl
            · rfl
            · rfl
            · exact ⟨_, rfl⟩
            · rfl
          exact BkOk.nil
        · exact fun _ => rfl
      refine BkOk.freeze 16 ?_
      refine BkOk.cons ?_ ?_
      · refine SkOk.append 14 ?_ ?_ ?_ ?_ ?_ ?_ ?_ ?_ ?_ ?_
        · exact F
        · exact .inl rfl
        · rfl
        · refine PvOk.tuple ?_
          · refine PvsOk.cons ?_ ?_ ?_
            · refine PvOk.name 15 ?_ ?_ ?_
              · exact F
              · exact .inr ⟨_, .inl rfl⟩
              · rfl
            · refine PvsOk.cons ?_ ?_ ?_
              · refine PvOk.callB0 (f := .builtin "min") ?_ ?_ ?_ ?_ ?_ ?_ ?_ ?_ ?_ ?_ ?_
                · exact F
                · exact .inl ⟨_, rfl⟩
                · rfl
                · rw [hK]; k_is
                · rfl
                · rfl
                · decide
                · rfl
                · rfl
                · exact minLOk hh
                · refine P0sOk.cons ?_ ?_ ?_
                  · refine PvOk.zero ?_
                    · refine PvOk.name 16 ?_ ?_ ?_
                      · exact F
                      · exact .inl rfl
                      · rfl
                  · exact P0sOk.nil
                  · exact stName
              · exact PvsOk.nil
              · exact stCall
            · exact stName
        · rfl
        · rfl
        · rfl
        · rfl
        · rfl
        · rfl
      exact BkOk.nil
    · exact fun _ => rfl
  refine BkOk.freeze 14 ?_
  refine BkOk.cons ?_ ?_
  · refine SkOk.if ?_ ?_ ?_
    · refine TvOk.eff ?_
      · refine TvOk.cmp ?_ ?_ ?_ ?_
        · exact neOk hu8
        · refine PvOk.zero ?_
          · refine PvOk.call0 (fv := .ref 201) (r := 4) ?_ ?_ ?_
            · refine CaOk.name ?_ ?_ ?_ ?_ ?_ ?_ ?_ ?_
              · exact F
              · rfl
              · rw [hK]; k_is
              · rfl
              · rw [hK]; k_is
              · rfl
              · rfl
              · refine AvsOk.cons ?_ ?_ ?_
                · refine PvOk.name 2 ?_ ?_ ?_
                  · exact F
                  · exact .inl rfl
                  · rfl
                · exact AvsOk.nil
                · exact stName
            · exact k_run hK hC hO
            · exact RoomA.mono (by decide) hA
        · refine PvOk.zero ?_
          · refine PvOk.name 14 ?_ ?_ ?_
            · exact F
            · exact .inl rfl
            · rfl
        · rfl
    · refine BkOk.cons ?_ ?_
      · refine SkOk.ret ?_
        · refine EvOk.pure ?_
          · exact PvOk.const_bool
      exact BkOk.nil
    · exact BkOk.nil
  refine BkOk.cons ?_ ?_
  · refine SkOk.assignT ?_ ?_ ?_ ?_ ?_
    · exact hh
    · refine EvsOk.cons ?_ ?_ ?_
      · refine EvOk.pure ?_
        · refine PvOk.index ?_ ?_
          · refine PvOk.index ?_ ?_
            · refine PvOk.name 2 ?_ ?_ ?_
              · exact F
              · exact .inl rfl
              · rfl
            · exact PvOk.const_int
          · exact PvOk.const_int
      · refine EvsOk.cons ?_ ?_ ?_
        · refine EvOk.pure ?_
          · refine PvOk.index ?_ ?_
            · refine PvOk.index ?_ ?_
              · refine PvOk.name 2 ?_ ?_ ?_
                · exact F
                · exact .inl rfl
                · rfl
              · exact PvOk.const_int
            · exact PvOk.const_int
        · exact EvsOk.nil
        · exact stSubscript
      · exact stSubscript
    · refine .cons ?_ ?_ ?_
      · refine AsOk.name ?_ ?_
        · exact F
        · exact .inr ⟨_, rfl⟩
      · rfl
      · refine .cons ?_ ?_ ?_
        · refine AsOk.name ?_ ?_
          · exact F
          · exact .inr ⟨_, rfl⟩
        · rfl
        · exact .nil
    · rfl
    · rfl
  refine BkOk.cons ?_ ?_
  · refine SkOk.assign ?_ ?_ ?_ ?_ ?_
    · refine EvOk.pure ?_
      · refine PvOk.call0 (fv := .ref 201) (r := 4) ?_ ?_ ?_
        · refine CaOk.name ?_ ?_ ?_ ?_ ?_ ?_ ?_ ?_
          · exact F
          · rfl
          · rw [hK]; k_is
          · rfl
          · rw [hK]; k_is
          · rfl
          · rfl
          · refine AvsOk.cons ?_ ?_ ?_
            · refine PvOk.compF ?_ ?_ ?_ ?_ ?_ ?_ ?_ ?_ ?_ ?_ ?_
              · exact F
              · decide
              · decide
              · decide
              · decide
              · refine ItOk.data ?_ ?_
                · exact hh
                · refine PvOk.name 2 ?_ ?_ ?_
                  · exact F
                  · exact .inl rfl
                  · rfl
              · rfl
              · exact fun _ => rfl
              · intro C D G
                refine CtOk.name ?_ ?_
                · exact G
                · rfl
              · intro C D G
                exact IfsOk.nil
              · intro C D G
                refine PvOk.tuple ?_
                · refine PvsOk.cons ?_ ?_ ?_
                  · refine PvOk.index ?_ ?_
                    · refine PvOk.name 29 ?_ ?_ ?_
                      · exact G
                      · exact .inl rfl
                      · rfl
                    · exact PvOk.const_int
                  · refine PvsOk.cons ?_ ?_ ?_
                    · refine PvOk.index ?_ ?_
                      · refine PvOk.name 29 ?_ ?_ ?_
                        · exact G
                        · exact .inl rfl
                        · rfl
                      · exact PvOk.const_int
                    · refine PvsOk.cons ?_ ?_ ?_
                      · refine PvOk.name 15 ?_ ?_ ?_
                        · exact G
                        · exact .inr ⟨_, .inr rfl⟩
                        · rfl
                      · refine PvsOk.cons ?_ ?_ ?_
                        · refine PvOk.name 18 ?_ ?_ ?_
                          · exact G
                          · exact .inr ⟨_, .inr rfl⟩
                          · rfl
                        · exact PvsOk.nil
                        · exact stName
                      · exact stName
                    · exact stSubscript
                  · exact stSubscript
            · exact AvsOk.nil
            · exact stListComp
        · exact k_run hK hC hO
        · exact RoomA.mono (by decide) hA
    · refine AsOk.name ?_ ?_
      · exact F
      · exact .inl rfl
    · rfl
    · rfl
    · rfl
  refine BkOk.cons ?_ ?_
  · refine SkOk.assign ?_ ?_ ?_ ?_ ?_
    · refine EvOk.pure ?_
      · refine PvOk.call0 (fv := .ref 201) (r := 4) ?_ ?_ ?_
        · refine CaOk.name ?_ ?_ ?_ ?_ ?_ ?_ ?_ ?_
          · exact F
          · rfl
          · rw [hK]; k_is
          · rfl
          · rw [hK]; k_is
          · rfl
          · rfl
          · refine AvsOk.cons ?_ ?_ ?_
            · refine PvOk.compF ?_ ?_ ?_ ?_ ?_ ?_ ?_ ?_ ?_ ?_ ?_
              · exact F
              · decide
              · decide
              · decide
              · decide
              · refine ItOk.data ?_ ?_
                · exact hh
                · refine PvOk.name 2 ?_ ?_ ?_
                  · exact F
                  · exact .inl rfl
                  · rfl
              · rfl
              · exact fun _ => rfl
              · intro C D G
                refine CtOk.name ?_ ?_
                · exact G
                · rfl
              · intro C D G
                exact IfsOk.nil
              · intro C D G
                refine PvOk.tuple ?_
                · refine PvsOk.cons ?_ ?_ ?_
                  · refine PvOk.index ?_ ?_
                    · refine PvOk.name 29 ?_ ?_ ?_
                      · exact G
                      · exact .inl rfl
                      · rfl
                    · exact PvOk.const_int
                  · refine PvsOk.cons ?_ ?_ ?_
                    · refine PvOk.index ?_ ?_
                      · refine PvOk.name 29 ?_ ?_ ?_
                        · exact G
                        · exact .inl rfl
                        · rfl
                      · exact PvOk.const_int
                    · refine PvsOk.cons ?_ ?_ ?_
                      · refine PvOk.name 18 ?_ ?_ ?_
                        · exact G
                        · exact .inr ⟨_, .inr rfl⟩
                        · rfl
                      · refine PvsOk.cons ?_ ?_ ?_
                        · refine PvOk.name 15 ?_ ?_ ?_
                          · exact G
                          · exact .inr ⟨_, .inr rfl⟩
                          · rfl
                        · exact PvsOk.nil
                        · exact stName
                      · exact stName
                    · exact stSubscript
                  · exact stSubscript
            · exact AvsOk.nil
            · exact stListComp
        · exact k_run hK hC hO
        · exact RoomA.mono (by decide) hA
    · refine AsOk.name ?_ ?_
      · exact F
      · exact .inl rfl
    · rfl
    · rfl
    · rfl
  refine BkOk.cons ?_ ?_
  · refine SkOk.assign ?_ ?_ ?_ ?_ ?_
    · refine EvOk.pure ?_
      · refine PvOk.call0 (fv := .ref 201) (r := 4) ?_ ?_ ?_
        · refine CaOk.name ?_ ?_ ?_ ?_ ?_ ?_ ?_ ?_
          · exact F
          · rfl
          · rw [hK]; k_is
          · rfl
          · rw [hK]; k_is
          · rfl
          · rfl
          · refine AvsOk.cons ?_ ?_ ?_
            · refine PvOk.compF ?_ ?_ ?_ ?_ ?_ ?_ ?_ ?_ ?_ ?_ ?_
              · exact F
              · decide
              · decide
              · decide
              · decide
              · refine ItOk.data ?_ ?_
                · exact hh
                · refine PvOk.name 2 ?_ ?_ ?_
                  · exact F
                  · exact .inl rfl
                  · rfl
              · rfl
              · exact fun _ => rfl
              · intro C D G
                refine CtOk.name ?_ ?_
                · exact G
                · rfl
              · intro C D G
                exact IfsOk.nil
              · intro C D G
                refine PvOk.tuple ?_
                · refine PvsOk.cons ?_ ?_ ?_
                  · refine PvOk.index ?_ ?_
                    · refine PvOk.name 29 ?_ ?_ ?_
                      · exact G
                      · exact .inl rfl
                      · rfl
                    · exact PvOk.const_int
                  · refine PvsOk.cons ?_ ?_ ?_
                    · refine PvOk.index ?_ ?_
                      · refine PvOk.name 29 ?_ ?_ ?_
                        · exact G
                        · exact .inl rfl
                        · rfl
                      · exact PvOk.const_int
                    · refine PvsOk.cons ?_ ?_ ?_
                      · refine PvOk.callB (f := .builtin "min") ?_ ?_ ?_ ?_ ?_ ?_ ?_ ?_ ?_ ?_ ?_
                        · exact G
                        · exact .inl ⟨_, rfl⟩
                        · rfl
                        · rw [hK]; k_is
                        · rfl
                        · rfl
                        · decide
                        · rfl
                        · rfl
                        · exact min2Ok hh
                        · refine PvsOk.cons ?_ ?_ ?_
                          · refine PvOk.name 15 ?_ ?_ ?_
                            · exact G
                            · exact .inr ⟨_, .inr rfl⟩
                            · rfl
                          · refine PvsOk.cons ?_ ?_ ?_
                            · refine PvOk.name 18 ?_ ?_ ?_
                              · exact G
                              · exact .inr ⟨_, .inr rfl⟩
                              · rfl
                            · exact PvsOk.nil
                            · exact stName
                          · exact stName
                      · refine PvsOk.cons ?_ ?_ ?_
                        · exact PvOk.const_int
                        · exact PvsOk.nil
                        · exact stConst
                      · exact stCall
                    · exact stSubscript
                  · exact stSubscript
            · exact AvsOk.nil
            · exact stListComp
        · exact k_run hK hC hO
        · exact RoomA.mono (by decide) hA
    · refine AsOk.name ?_ ?_
      · exact F
      · exact .inl rfl
    · rfl
    · rfl
    · rfl
  refine BkOk.cons ?_ ?_
  · refine SkOk.if ?_ ?_ ?_
    · refine TvOk.eff ?_
      · refine TvOk.or ?_
        · refine .cons ?_ ?_
          · refine TvOk.cmp ?_ ?_ ?_ ?_
            · exact isNoneOk
            · refine PvOk.zero ?_
              · refine PvOk.name 19 ?_ ?_ ?_
                · exact F
                · exact .inl rfl
                · rfl
            · refine PvOk.zero ?_
              · exact PvOk.const_none
            · rfl
          · refine .cons ?_ ?_
            · refine TvOk.cmp ?_ ?_ ?_ ?_
              · exact isNoneOk
              · refine PvOk.zero ?_
                · refine PvOk.name 20 ?_ ?_ ?_
                  · exact F
                  · exact .inl rfl
                  · rfl
              · refine PvOk.zero ?_
                · exact PvOk.const_none
              · rfl
            · refine .cons ?_ ?_
              · refine TvOk.cmp ?_ ?_ ?_ ?_
                · exact isNoneOk
                · refine PvOk.zero ?_
                  · refine PvOk.name 21 ?_ ?_ ?_
                    · exact F
                    · exact .inl rfl
                    · rfl
                · refine PvOk.zero ?_
                  · exact PvOk.const_none
                · rfl
              · exact .nil
    · refine BkOk.cons ?_ ?_
      · refine SkOk.ret ?_
        · refine EvOk.pure ?_
          · exact PvOk.const_bool
      exact BkOk.nil
    · exact BkOk.nil
  refine BkOk.cons ?_ ?_
  · refine SkOk.ret ?_
    · refine EvOk.pure ?_
      · refine PvOk.chain ?_ ?_ ?_ ?_ ?_ ?_
        · exact eqOk hu8
        · exact eqOk hu8
        · refine PvOk.compF ?_ ?_ ?_ ?_ ?_ ?_ ?_ ?_ ?_ ?_ ?_
          · exact F
          · decide
          · decide
          · decide
          · decide
          · refine ItOk.data ?_ ?_
            · exact hh
            · refine PvOk.name 19 ?_ ?_ ?_
              · exact F
              · exact .inl rfl
              · rfl
          · rfl
          · exact fun _ => rfl
          · intro C D G
            refine CtOk.name ?_ ?_
            · exact G
            · rfl
          · intro C D G
            exact IfsOk.nil
          · intro C D G
            refine PvOk.index ?_ ?_
            · refine PvOk.name 29 ?_ ?_ ?_
              · exact G
              · exact .inl rfl
              · rfl
            · exact PvOk.const_int
        · refine PvOk.compF ?_ ?_ ?_ ?_ ?_ ?_ ?_ ?_ ?_ ?_ ?_
          · exact F
          · decide
          · decide
          · decide
          · decide
          · refine ItOk.data ?_ ?_
            · exact hh
            · refine PvOk.name 20 ?_ ?_ ?_
              · exact F
              · exact .inl rfl
              · rfl
          · rfl
          · exact fun _ => rfl
          · intro C D G
            refine CtOk.name ?_ ?_
            · exact G
            · rfl
          · intro C D G
            exact IfsOk.nil
          · intro C D G
            refine PvOk.index ?_ ?_
            · refine PvOk.name 29 ?_ ?_ ?_
              · exact G
              · exact .inl rfl
              · rfl
            · exact PvOk.const_int
        · refine PvOk.compF ?_ ?_ ?_ ?_ ?_ ?_ ?_ ?_ ?_ ?_ ?_
          · exact F
          · decide
          · decide
          · decide
          · decide
          · refine ItOk.data ?_ ?_
            · exact hh
            · refine PvOk.name 21 ?_ ?_ ?_
              · exact F
              · exact .inl rfl
              · rfl
          · rfl
          · exact fun _ => rfl
          · intro C D G
            refine CtOk.name ?_ ?_
            · exact G
            · rfl
          · intro C D G
            exact IfsOk.nil
          · intro C D G
            refine PvOk.index ?_ ?_
            · refine PvOk.name 29 ?_ ?_ ?_
              · exact G
              · exact .inl rfl
              · rfl
            · exact PvOk.const_int
        · rfl
  exact BkOk.nil

end Mine
end
section
namespace Mine
open PySem PySem.W

theorem seq_next {f g : S → Option (Fl × S)} {σ σ' : S} {r : Option (Fl × S)} (h : f σ = some (.next, σ')) (h2 : g σ' = r) : seqF f g σ = r := by unfold seqF; rw [h]; exact h2
theorem seq_ret {f g : S → Option (Fl × S)} {σ σ' : S} {d : D} (h : f σ = some (.ret d, σ')) : seqF f g σ = some (.ret d, σ') := by unfold seqF; rw [h]; rfl
theorem run_ret {names : List (Str × NameKind)} {ps : List Str} {f : S → Option (Fl × S)} {ds : List V} {hp : List Cell} {prot : Nat} (σ : S) {d : D} {σ' : S} (hl : ds.length = ps.length) (h0 : S0 names ps ds hp prot = σ) (h : f σ = some (.ret d, σ')) : runF names ps f ds hp prot = some (d, σ'.heap.take hp.length) := by
  unfold runF; rw [if_pos hl, h0, h]; rfl
theorem run_next {names : List (Str × NameKind)} {ps : List Str} {f : S → Option (Fl × S)} {ds : List V} {hp : List Cell} {prot : Nat} (σ : S) {σ' : S} (hl : ds.length = ps.length) (h0 : S0 names ps ds hp prot = σ) (h : f σ = some (.next, σ')) : runF names ps f ds hp prot = some (.none, σ'.heap.take hp.length) := by
  unfold runF; rw [if_pos hl, h0, h]; rfl

variable {σ σ' σ₁ : S}
theorem ev_bin {g : D → D → Option D} {p q : S → Option D} {a b c : D} (hp : p σ = some a) (hq : q σ = some b) (hg : g a b = some c) : binP g p q σ = some c := by unfold binP; rw [hp, hq]; exact hg
theorem ev_cons {α : Type} {p : S → Option α} {ps : S → Option (List α)} {a : α} {l : List α} (hp : p σ = some a) (hq : ps σ = some l) : consP p ps σ = some (a :: l) := by unfold consP; rw [hp, hq]; rfl
theorem ev_cb {g : List D → Option D} {ps : S → Option (List D)} {ds : List D} {c : D} (hp : ps σ = some ds) (hg : g ds = some c) : cbP g ps σ = some c := by show (ps σ).bind g = _; rw [hp]; exact hg
theorem ev_cmp {g : D → D → Option Bool} {p q : S → Option D} {a b : D} {c : Bool} (hp : p σ = some a) (hq : q σ = some b) (hg : g a b = some c) : cmpP g p q σ = some c := by unfold cmpP; rw [hp, hq]; exact hg
theorem ev_if_t {t : S → Option Bool} {f g : S → Option (Fl × S)} {r : Option (Fl × S)} (ht : t σ = some true) (hf : f σ = r) : ifF (pureF t) f g σ = r := by unfold ifF pureF; rw [ht]; exact hf
theorem ev_if_f {t : S → Option Bool} {f g : S → Option (Fl × S)} {r : Option (Fl × S)} (ht : t σ = some false) (hf : g σ = r) : ifF (pureF t) f g σ = r := by unfold ifF pureF; rw [ht]; exact hf
theorem ev_ite_t {α : Type} {t : S → Option Bool} {p q : S → Option α} {r : Option α} (ht : t σ = some true) (hf : p σ = r) : iteP t p q σ = r := by unfold iteP; rw [ht]; exact hf
theorem ev_ite_f {α : Type} {t : S → Option Bool} {p q : S → Option α} {r : Option α} (ht : t σ = some false) (hf : q σ = r) : iteP t p q σ = r := by unfold iteP; rw [ht]; exact hf
theorem ev_ret {f : S → Option (V × S)} {d : D} (h : f σ = some (.d d, σ')) : retF f σ = some (.ret d, σ') := by unfold retF; rw [h]; rfl
theorem ev_d {p : S → Option D} {d : D} (h : p σ = some d) : dF p σ = some (.d d, σ) := by unfold dF; rw [h]; rfl
theorem ev_as {f : S → Option (V × S)} {a : V → S → Option S} {v : V} (h : f σ = some (v, σ₁)) (ha : a v σ₁ = some σ') : asF f a σ = some (.next, σ') := by unfold asF; rw [h]; simp [ha]
theorem ev_tup {ps : S → Option (List D)} {ds : List D} (h : ps σ = some ds) (hl : ds.length ≤ 1000) : tupP ps σ = some (.tup ds) := by unfold tupP; rw [h, Option.bind_some, if_pos hl]
theorem ev_idxR {i : Nat} {q : S → Option D} {a b c : D} (hp : snap i σ = some a) (hq : q σ = some b) (hg : idxD a b = some c) : idxR i q σ = some c := by unfold idxR; rw [hp, hq]; exact hg
theorem ev_consF {f : S → Option (V × S)} {g : S → Option (List V × S)} {v : V} {vs : List V} (h : f σ = some (v, σ₁)) (h2 : g σ₁ = some (vs, σ')) : consF f g σ = some (v :: vs, σ') := by unfold consF; rw [h]; simp [h2]
theorem ev_asTF {f : S → Option (List V × S)} {as : List (V → S → Option S)} {vs : List V} (h : f σ = some (vs, σ₁)) (hl : vs.length ≤ 1000) (ha : asgL as vs σ₁ = some σ') : asTF f as σ = some (.next, σ') := by unfold asTF; rw [h]; simp [hl, ha]
theorem ev_asTr {k : Nat} {is : List Nat} {f : S → Option (List V × S)} {vs : List V} (h : f σ = some (vs, σ₁)) (hl : vs.length = k ∧ vs.length ≤ 1000) (ha : asgL (is.reverse.map fun i => Tgt.asg (.one i)) vs.reverse σ₁ = some σ') : asTrF k is f σ = some (.next, σ') := by
  show ((f σ).bind _) = _
  rw [h]; simp only [Option.bind_some]; rw [if_pos hl, ha]; rfl
theorem ev_ex {f : S → Option (V × S)} {v : V} (h : f σ = some (v, σ')) : exF f σ = some (.next, σ') := by show (f σ).map _ = _; rw [h]; rfl
theorem ev_frz {i : Nat} {f : S → Option (Fl × S)} {r : Option (Fl × S)} (h : freeze i σ = some σ₁) (hf : f σ₁ = r) : frzF i f σ = r := by unfold frzF; rw [h]; exact hf
theorem ev_app {i : Nat} {p : S → Option D} {d : D} {r : Nat × List D} (hp : p σ = some d) (hr : listR i σ = some r) (hl : r.2.length ≤ 16777216) : appF i p σ = some (.next, σ.setCell r.1 (.list (r.2 ++ [d]))) := by unfold appF; rw [hp, Option.bind_some, hr, Option.bind_some, if_pos hl]
theorem ev_ext {i : Nat} {p : S → Option D} {ds : List D} {r : Nat × List D} (hp : p σ = some (.lst ds)) (hr : listR i σ = some r) (hl : r.2.length ≤ 4096 ∧ ds.length ≤ 4096) : extF i p σ = some (.next, σ.setCell r.1 (.list (r.2 ++ ds))) := by
  unfold extF; rw [hp, Option.bind_some]; simp only [hr, Option.bind_some]; rw [if_pos hl]
theorem ev_at {f : S → Option (V × S)} {i : Nat} {C : Addr} {k : Nat} {d : D} {q : Nat × List D} {xs : List D} (h : f σ = some (.d d, σ₁)) (hr : instR i C σ₁ = some q) (hp : putA k d q.2 = some xs) (hk : σ₁.prot ≤ q.1) : atF f i C k σ = some (.next, σ₁.setCell q.1 (.inst C xs)) := by
  unfold atF; rw [h]; simp [hr, hp, hk]
theorem ev_call0 {F : Fun} {ps : S → Option (List V)} {ds : List V} {xs : List D} {d : D} {hp : List Cell} (h : ps σ = some ds) (hd : dataV ds = some xs) (hF : F ds [] 0 = some (d, hp)) : call0 F ps σ = some d := by unfold call0; rw [h, Option.bind_some, hd, Option.bind_some, hF]; rfl
theorem ev_call1 {F : Fun} {ps : S → Option (List V)} {ds : List V} {j : Nat} {c : Cell} {d : D} {hp : List Cell} (h : ps σ = some ds) (hj : oneRef ds = some j) (hc : σ.heap[j]? = some c) (hF : F (ds.map ren) [c] 1 = some (d, hp)) : call1 F ps σ = some d := by unfold call1; rw [h, Option.bind_some, hj, Option.bind_some, hc, Option.bind_some, hF]; rfl
theorem ev_callE {F : Fun} {ps : S → Option (List V)} {ds : List V} {j : Nat} {c c' : Cell} {d : D} (h : ps σ = some ds) (hj : oneRef ds = some j) (hc : σ.heap[j]? = some c) (hp : σ.prot ≤ j) (hF : F (ds.map ren) [c] 0 = some (d, [c'])) : callE F ps σ = some (.d d, σ.setCell j c') := by
  unfold callE; rw [h, Option.bind_some, hj, Option.bind_some, hc, Option.bind_some, if_pos hp, hF]; rfl
theorem ev_new {C : Addr} {F : Fun} {ps : S → Option (List V)} {ds : List V} {xs : List D} {c : Cell} (h : ps σ = some ds) (hd : dataV ds = some xs) (hF : F (.r 0 :: ds) [.inst C []] 0 = some (.none, [c])) : newF C F ps σ = some (.r σ.heap.length, σ.addCell c) := by
  unfold newF; rw [h, Option.bind_some, hd, Option.bind_some, hF]; rfl
theorem ev_lnew {ps : S → Option (List D)} {ds : List D} (h : ps σ = some ds) (hl : ds.length ≤ 1000) : lnewF ps σ = some (.r σ.heap.length, σ.addCell (.list ds)) := by unfold lnewF; rw [h, Option.bind_some, if_pos hl]
theorem ev_binF {g : D → D → Option D} {f₁ f₂ : S → Option (V × S)} {a b c : D} (h1 : f₁ σ = some (.d a, σ₁)) (h2 : f₂ σ₁ = some (.d b, σ')) (hg : g a b = some c) : binF g f₁ f₂ σ = some (.d c, σ') := by unfold binF; rw [h1]; simp [h2, hg]
theorem ev_rng {f : S → Option (V × S)} {d : D} {xs : List D} (h : f σ = some (.d d, σ')) (hr : rangeD [d] = some xs) : rngF f σ = some (xs, σ') := by unfold rngF; rw [h]; simp [hr]
theorem ev_for {f : S → Option (List D × S)} {a : V → S → Option S} {b : S → Option (Fl × S)} {ds : List D} {r : Option (Fl × S)} (h : f σ = some (ds, σ₁)) (hr : forR a b ds σ₁ = r) : forF f a b σ = r := by unfold forF; rw [h]; exact hr
theorem ev_pureF {α : Type} {p : S → Option α} {a : α} (h : p σ = some a) : pureF p σ = some (a, σ) := by unfold pureF; rw [h]; rfl
theorem ev_it {p : S → Option D} {d : D} {xs : List D} (h : p σ = some d) (hd : itemsD d = some xs) : itP p σ = some xs := by show (p σ).bind _ = _; rw [h]; exact hd
theorem ev_rg {p : S → Option (List D)} {d xs : List D} (h : p σ = some d) (hd : rangeD d = some xs) : rgP p σ = some xs := by show (p σ).bind _ = _; rw [h]; exact hd
theorem ev_slice {p : S → Option D} {l u : S → Option (Option Int)} {a c : D} {x y : Option Int} (hp : p σ = some a) (hl : l σ = some x) (hu : u σ = some y) (hs : sliceD a x y = some c) : sliceP p l u σ = some c := by unfold sliceP; rw [hp, Option.bind_some, hl, Option.bind_some, hu]; exact hs
theorem ev_part {p : S → Option D} {d : D} {x : Option Int} (hp : p σ = some d) (h : partD d = some x) : partP p σ = some x := by show (p σ).bind _ = _; rw [hp]; exact h
theorem ev_comp {base k : Nat} {p : S → Option (List D)} {a : V → S → Option S} {t : S → Option Bool} {pe : S → Option D} {ds xs : List D} (hp : p σ = some ds) (hl : ds.length ≤ 16777216) (h : compGo a t pe ds ⟨compVars base k σ.vars, σ.heap, σ.heap.length⟩ = some xs) : compP base k p a t pe σ = some (.lst xs) := by
  unfold compP; rw [hp, Option.bind_some, if_pos hl, h]; rfl
end Mine
end
section
set_option maxRecDepth 100000
namespace Mine
open PySem PySem.W

noncomputable def drawn (ns : List Int) (k : Nat) (m : Int) : Int :=
  (if k < ns.length then (if ns.getD k 0 < 0 then -(ns.getD k 0) else ns.getD k 0) else ([0, 3, 1, 2, 1, 1, 2, 3, 1, 0, 3, 1, 3] : List Int).getD (k % 13) 0) % m
theorem drawn_range {ns : List Int} {k : Nat} {m : Int} (h : 0 < m) : 0 ≤ drawn ns k m ∧ drawn ns k m < m := ⟨Int.emod_nonneg _ (by (first | lia | omega)), Int.emod_lt_of_pos _ h⟩
theorem getI_at {xs : List D} {k : Nat} {d : D} (hk : k < 1000000) (h : xs[k]? = some d) : getI xs (k : Int) = some d := by unfold getI; rw [if_pos (by (first | lia | omega))]; exact h
theorem len_lst {xs : List D} (h : xs.length ≤ 16777216) : lenD [.lst xs] = some (.int xs.length) := if_pos h
theorem mod_int {a b : Int} (h : 0 < b) : modD (.int a) (.int b) = some (.int (a % b)) := if_pos h
theorem lt_int {a b : Int} : ltD (.int a) (.int b) = some (decide (a < b)) := rfl

theorem draw_eq (ns : List Int) (k : Nat) (m : Int) (hk : k < 100000) (hm : 0 < m) (hn : ns.length ≤ 1000) :
    g_draw [.r 0, .d (.int m)] [.list [.lst (ns.map .int), .int k]] 0 = some (.int (drawn ns k m), [.list [.lst (ns.map .int), .int (k + 1)]]) := by
  refine run_ret ⟨[some (.r 0), some (.d (.int m)), none, none, none], [.list [.lst (ns.map .int), .int k]], 0⟩ rfl rfl (σ' := ⟨[some (.r 0), some (.d (.int m)), some (.d (.int k)), none, none], [.list [.lst (ns.map .int), .int (k + 1)]], 0⟩) ?_
  delta b_draw
  refine seq_next (σ' := ⟨[some (.r 0), some (.d (.int m)), some (.d (.int k)), none, none], [.list [.lst (ns.map .int), .int k]], 0⟩) rfl ?_
  refine seq_next (σ' := ⟨[some (.r 0), some (.d (.int m)), some (.d (.int k)), none, none], [.list [.lst (ns.map .int), .int (k + 1)]], 0⟩) rfl ?_
  have hlen : (ns.map D.int).length ≤ 16777216 := by rw [List.length_map]; (first | lia | omega)
  by_cases hlt : k < ns.length
  · have hc : ((k : Int) < ((ns.map D.int).length : Int)) := by rw [List.length_map]; (first | lia | omega)
    refine seq_ret (ev_if_t ?_ (seq_ret (ev_ret (ev_d (ev_bin (a := .int (if ns.getD k 0 < 0 then -(ns.getD k 0) else ns.getD k 0)) (b := .int m) ?_ rfl ?_)))))
    · exact ev_cmp rfl (ev_cb (ev_cons (ev_idxR rfl rfl rfl) rfl) (len_lst hlen)) (by rw [lt_int, decide_eq_true hc])
    · refine ev_cb (ev_cons (ev_bin (ev_idxR rfl rfl rfl) rfl (getI_at (d := .int (ns.getD k 0)) (by (first | lia | omega)) ?_)) rfl) rfl
      simp [List.getElem?_eq_getElem hlt, List.getD_eq_getElem?_getD]
    · rw [mod_int hm]; unfold drawn; rw [if_pos hlt]
  · have hc : ¬ ((k : Int) < ((ns.map D.int).length : Int)) := by rw [List.length_map]; (first | lia | omega)
    refine seq_next (σ' := ⟨[some (.r 0), some (.d (.int m)), some (.d (.int k)), none, none], [.list [.lst (ns.map .int), .int (k + 1)]], 0⟩) (ev_if_f ?_ rfl) ?_
    · exact ev_cmp rfl (ev_cb (ev_cons (ev_idxR rfl rfl rfl) rfl) (len_lst hlen)) (by rw [lt_int, decide_eq_false hc])
    · refine seq_ret (ev_ret (ev_d (ev_bin (a := .int (([0, 3, 1, 2, 1, 1, 2, 3, 1, 0, 3, 1, 3] : List Int).getD (k % 13) 0)) (b := .int m) (ev_bin (b := .int ((k % 13 : Nat) : Int)) rfl ?_ (getI_at (by (first | lia | omega)) ?_)) rfl ?_)))
      · exact ev_bin rfl rfl (by rw [mod_int (by decide)]; simp)
      · have hz : k % 13 < 13 := Nat.mod_lt _ (by decide)
        generalize k % 13 = z at hz
        match z, hz with
        | 0, _ | 1, _ | 2, _ | 3, _ | 4, _ | 5, _ | 6, _ | 7, _ | 8, _ | 9, _ | 10, _ | 11, _ | 12, _ => rfl
      · rw [mod_int hm]; unfold drawn; rw [if_neg hlt]
end Mine
end
section
set_option maxRecDepth 100000
namespace Mine
open PySem PySem.W

noncomputable def sumsFrom (acc : Int) : List Int → List Int
  | [] => []
  | n :: r => (acc + n) :: sumsFrom (acc + n) r
noncomputable def sums (ns : List Int) : List Int := 0 :: sumsFrom 0 ns
theorem getI_last {xs : List D} {d : D} (hl : xs.length < 1000000) : getI (xs ++ [d]) (-1) = some d := by
  unfold getI
  rw [if_neg (by (first | lia | omega)), if_pos (by refine ⟨by (first | lia | omega), by (first | lia | omega), ?_⟩; rw [List.length_append, List.length_singleton]; (first | lia | omega))]
  rw [List.length_append, List.length_singleton, show (((xs.length + 1 : Nat) : Int) + -1).toNat = xs.length by (first | lia | omega)]
  simp
theorem sums_loop (v0 : Option V) : ∀ (ns pre : List Int) (acc : Int) (w : Option V), pre.length + ns.length ≤ 1000 →
    ∃ w', forR (Tgt.asg (.one 2)) (seqF (appF 1 (binP addD (idxR 1 (fun σ => ((cP (.int 1)) σ).bind negD)) (vget 2))) skip) (ns.map .int) ⟨[v0, some (.r 0), w], [.list ((pre ++ [acc]).map .int)], 0⟩ =
      some (.next, ⟨[v0, some (.r 0), w'], [.list ((pre ++ [acc] ++ sumsFrom acc ns).map .int)], 0⟩)
  | [], pre, acc, w, h => ⟨w, by simp [sumsFrom, forR]⟩
  | n :: r, pre, acc, w, h => by
    obtain ⟨w', hw⟩ := sums_loop v0 r (pre ++ [acc]) (acc + n) (some (.d (.int n))) (by simp at h ⊢; (first | lia | omega))
    refine ⟨w', ?_⟩
    have hb : seqF (appF 1 (binP addD (idxR 1 (fun σ => ((cP (.int 1)) σ).bind negD)) (vget 2))) skip ⟨[v0, some (.r 0), some (.d (.int n))], [.list ((pre ++ [acc]).map .int)], 0⟩ =
        some (.next, ⟨[v0, some (.r 0), some (.d (.int n))], [.list (((pre ++ [acc]) ++ [acc + n]).map .int)], 0⟩) := by
      refine seq_next (ev_app (d := .int (acc + n)) (r := (0, (pre ++ [acc]).map .int)) (ev_bin (a := .int acc) (ev_idxR (a := .lst ((pre ++ [acc]).map .int)) rfl (b := .int (-1)) rfl ?_) rfl rfl) rfl ?_) ?_
      · show getI _ (-1) = _
        rw [List.map_append]; exact getI_last (by simp at h ⊢; (first | lia | omega))
      · simp at h ⊢; (first | lia | omega)
      · simp [S.setCell, skip]
    show ((some _).bind fun σ₁ => _) = _
    rw [Option.bind_some]
    show ((seqF _ _ ⟨[v0, some (.r 0), some (.d (.int n))], _, 0⟩).bind _) = _
    rw [hb, Option.bind_some]
    rw [show sumsFrom acc (n :: r) = (acc + n) :: sumsFrom (acc + n) r from rfl]
    rw [show pre ++ [acc] ++ (acc + n) :: sumsFrom (acc + n) r = pre ++ [acc] ++ [acc + n] ++ sumsFrom (acc + n) r by simp]
    exact hw
theorem sums_eq (ns : List Int) (h : ns.length ≤ 900) : g_sums [.d (.lst (ns.map .int))] [] 0 = some (.lst ((sums ns).map .int), []) := by
  obtain ⟨w', hw⟩ := sums_loop (some (.d (.lst (ns.map .int)))) ns [] 0 none (by simp; (first | lia | omega))
  refine run_ret ⟨[some (.d (.lst (ns.map .int))), none, none], [], 0⟩ rfl rfl (σ' := ⟨[some (.d (.lst (ns.map .int))), some (.d (.lst ((sums ns).map .int))), w'], [.dead], 0⟩) ?_
  delta b_sums
  refine seq_next (σ' := ⟨[some (.d (.lst (ns.map .int))), some (.r 0), none], [.list [.int 0]], 0⟩) rfl ?_
  refine seq_next (ev_for (ev_pureF (ev_it rfl rfl)) hw) ?_
  exact ev_frz rfl (seq_ret rfl)
end Mine
end
section
set_option maxRecDepth 100000
namespace Mine
open PySem PySem.W

noncomputable def stS (b : Bool) : Str := if b then "send" else "ready"
noncomputable def spL (L : Int) (b : Bool) (w : List UInt8) (s : Int) : List D := [.int L, .str (stS b), .bytes w, .int s, .lst [], .lst [], .bool false, .bool false, .bool false, .none, .bool false]
noncomputable def sp (L : Int) (b : Bool) (w : List UInt8) (s : Int) : Cell := .inst 178 (spL L b w s)
noncomputable def mn (a b : Int) : Int := if b < a then b else a
noncomputable def mx (a b : Int) : Int := if b > a then b else a
theorem init_eq (l : Int) : g_init [.r 0, .d (.int l)] [.inst 178 []] 0 = some (.none, [sp l false [] 0]) := rfl
theorem write_eq (L : Int) (b : Bool) (w c : List UInt8) (s : Int) (h : w.length + c.length ≤ 16777216) : g_write [.r 0, .d (.bytes c)] [sp L b w s] 0 = some (.none, [sp L b (w ++ c) s]) := by
  have ha : addD (.bytes w) (.bytes c) = some (.bytes (w ++ c)) := if_pos h
  have key : b_write ⟨[some (.r 0), some (.d (.bytes c)), none, none, none, none], [sp L b w s], 0⟩ = some (.next, ⟨[some (.r 0), some (.d (.bytes c)), none, none, none, none], [sp L b (w ++ c) s], 0⟩) := by
    delta b_write
    refine seq_next (ev_if_f (by cases b <;> rfl) rfl) (seq_next (ev_at (ev_d (ev_bin (a := .bytes w) (b := .bytes c) rfl (ev_cb (ev_cons rfl rfl) rfl) ha)) rfl rfl (Nat.le_refl _)) rfl)
  exact run_next ⟨[some (.r 0), some (.d (.bytes c)), none, none, none, none], [sp L b w s], 0⟩ rfl rfl key
theorem lim_eq (L : Int) (b : Bool) (w : List UInt8) (s l : Int) : g_lim [.r 0, .d (.int l)] [sp L b w s] 0 = some (.none, [sp (mx L l) b w s]) := rfl
noncomputable def roomI (L : Int) (w : List UInt8) (s : Int) : Int := mx 0 (mn w.length L - s)
theorem room_eq (L : Int) (b : Bool) (w : List UInt8) (s : Int) (h : w.length ≤ 16777216) : g_room [.r 0, .d .none] [sp L b w s] 1 = some (.int (roomI L w s), [sp L b w s]) := by
  have hl : lenD [.bytes w] = some (.int w.length) := if_pos h
  have key : b_room ⟨[some (.r 0), some (.d .none), none, none, none, none, none], [sp L b w s], 1⟩ = some (.ret (.int (roomI L w s)), ⟨[some (.r 0), some (.d .none), some (.d (.int (mn w.length L - s))), none, none, none, none], [sp L b w s], 1⟩) := by
    delta b_room
    refine seq_next (ev_if_f (by cases b <;> rfl) rfl) (seq_next (ev_as (ev_d (ev_bin (a := .int (mn w.length L)) (b := .int s) (ev_cb (ev_cons (a := .int w.length) (ev_cb (ev_cons rfl rfl) hl) (ev_cons (a := .int L) rfl rfl)) rfl) rfl rfl)) rfl) (seq_ret (ev_ret (ev_d (ev_cb (ev_cons rfl (ev_cons (ev_ite_t rfl rfl) rfl)) rfl)))))
  exact run_ret ⟨[some (.r 0), some (.d .none), none, none, none, none, none], [sp L b w s], 1⟩ rfl rfl key
end Mine
end
section
set_option maxRecDepth 100000
namespace Mine
open PySem PySem.W
theorem fst_eq (most : Int) : g_fst [.d (.lst []), .d (.int most)] [] 0 = some (.none, []) := rfl
theorem eq_int (a b : Int) : eqD (.int a) (.int b) = some (a == b) := rfl
theorem cut_eq (low high : Int) : g_cut [.d (.lst []), .d (.int low), .d (.int high)] [] 0 = some (.lst [], []) := by
  by_cases h : low < high
  · refine run_ret ⟨[some (.d (.lst [])), some (.d (.int low)), some (.d (.int high)), none, none, none, none, none, none], [], 0⟩ (σ' := ⟨[some (.d (.lst [])), some (.d (.int low)), some (.d (.int high)), some (.d (.lst [])), none, none, none, none, none], [.dead], 0⟩) rfl rfl ?_
    delta b_cut
    exact seq_next rfl (seq_next rfl (ev_frz rfl (seq_ret (ev_ret (ev_d (ev_ite_t (ev_cmp rfl rfl (by rw [lt_int, decide_eq_true h])) rfl))))))
  · refine run_ret ⟨[some (.d (.lst [])), some (.d (.int low)), some (.d (.int high)), none, none, none, none, none, none], [], 0⟩ (σ' := ⟨[some (.d (.lst [])), some (.d (.int low)), some (.d (.int high)), some (.d (.lst [])), none, none, none, none, none], [.dead], 0⟩) rfl rfl ?_
    delta b_cut
    exact seq_next rfl (seq_next rfl (ev_frz rfl (seq_ret (ev_ret (ev_d (ev_ite_f (ev_cmp rfl rfl (by rw [lt_int, decide_eq_false h])) rfl))))))
end Mine
end
section
set_option maxRecDepth 100000
namespace Mine
open PySem PySem.W
noncomputable def goes (L : Int) (w : List UInt8) (s most : Int) : Int := mx 0 (mn most (roomI L w s))
noncomputable def nx (most : Int) (sp' ro lo hi en : Option V) : List (Option V) := [some (.r 0), some (.d (.int most)), some (.d .none), sp', ro, lo, hi, en, none, none, none, none, none, none, none, none]
theorem next_room (L : Int) (b : Bool) (w : List UInt8) (s most : Int) (h : w.length ≤ 16777216) (x : Option V) (y z u v : Option V) :
    cbP min2D (consP (vget 1) (consP (call1 g_room (selfP 0 178 (consP (dV (vget 2)) (nilP)))) (nilP))) ⟨nx most x y z u v, [sp L b w s], 0⟩ = some (.int (mn most (roomI L w s))) :=
  ev_cb (ev_cons (a := .int most) rfl (ev_cons (a := .int (roomI L w s)) (ev_call1 (ds := [.r 0, .d .none]) (hp := [sp L b w s]) (j := 0) (c := sp L b w s) rfl rfl rfl (by show g_room [.r 0, .d .none] [sp L b w s] 1 = _; exact room_eq L b w s h)) rfl)) rfl
theorem next_none (L : Int) (b : Bool) (w : List UInt8) (s most : Int) (h : w.length ≤ 16777216) (hq : goes L w s most = 0) :
    g_next [.r 0, .d (.int most), .d .none] [sp L b w s] 0 = some (.none, [sp L b w s]) := by
  let q := goes L w s most
  have hz : s + q = s := by show s + goes L w s most = s; (first | lia | omega)
  refine run_ret ⟨nx most none none none none none, [sp L b w s], 0⟩ (σ' := ⟨nx most (some (.d (.tup [.int s, .int (s + q)]))) (some (.d (.int (mn most (roomI L w s))))) (some (.d (.int s))) (some (.d (.int (s + q)))) (some (.d (.bool false))), [sp L b w s], 0⟩) rfl rfl ?_
  delta b_next
  refine seq_next (ev_if_f (by cases b <;> rfl) rfl) ?_
  refine seq_next (ev_as (ev_d (ev_call0 (ds := [.d (.lst []), .d (.int most)]) rfl rfl (fst_eq most))) rfl) ?_
  refine seq_next (ev_if_t rfl (seq_next (ev_as (ev_d (next_room L b w s most h _ _ _ _ _)) rfl) (seq_next (ev_as (ev_d (ev_tup (ds := [.int s, .int (s + q)]) (ev_cons rfl (ev_cons (ev_bin (a := .int s) (b := .int q) rfl rfl rfl) rfl)) (by simp))) rfl) rfl))) ?_
  refine seq_next rfl ?_
  refine seq_next rfl ?_
  refine seq_ret (ev_if_t ?_ rfl)
  have he : cmpP eqD (vget 5) (vget 6) ⟨nx most (some (.d (.tup [.int s, .int (s + q)]))) (some (.d (.int (mn most (roomI L w s))))) (some (.d (.int s))) (some (.d (.int (s + q)))) (some (.d (.bool false))), [sp L b w s], 0⟩ = some true :=
    ev_cmp rfl rfl (by rw [eq_int, hz]; simp)
  show ((cmpP eqD (vget 5) (vget 6) _).bind _) = _
  erw [he]
  rfl
end Mine
end
section
set_option maxRecDepth 100000
namespace Mine
open PySem PySem.W
theorem next_some (L : Int) (b : Bool) (w : List UInt8) (s most : Int) (h : w.length ≤ 16777216) (hs : 0 ≤ s) (hq : 0 < goes L w s most) :
    g_next [.r 0, .d (.int most), .d .none] [sp L b w s] 0 = some (.tup [.int s, .bytes (cutL w (some s) (some (s + goes L w s most))), .bool false], [sp L true w (s + goes L w s most)]) := by
  generalize hqq : goes L w s most = q at hq
  refine run_ret ⟨nx most none none none none none, [sp L b w s], 0⟩ (σ' := ⟨nx most (some (.d (.tup [.int s, .int (s + q)]))) (some (.d (.int (mn most (roomI L w s))))) (some (.d (.int s))) (some (.d (.int (s + q)))) (some (.d (.bool false))), [sp L true w (s + q)], 0⟩) rfl rfl ?_
  delta b_next
  refine seq_next (ev_if_f (by cases b <;> rfl) rfl) ?_
  refine seq_next (ev_as (ev_d (ev_call0 (ds := [.d (.lst []), .d (.int most)]) rfl rfl (fst_eq most))) rfl) ?_
  refine seq_next (ev_if_t rfl (seq_next (ev_as (ev_d (next_room L b w s most h _ _ _ _ _)) rfl) (seq_next (ev_as (ev_d (ev_tup (ds := [.int s, .int (s + q)]) (ev_cons rfl (ev_cons (ev_bin (a := .int s) (b := .int q) rfl (by rw [← hqq]; rfl) rfl) rfl)) (by simp))) rfl) rfl))) ?_
  refine seq_next rfl ?_
  refine seq_next rfl ?_
  have he : (s == s + q) = false := beq_eq_false_iff_ne.mpr (by (first | lia | omega))
  have hm : mx s (s + q) = s + q := by unfold mx; rw [if_pos (by (first | lia | omega))]
  refine seq_next (ev_if_f (by show ((eqD (.int s) (.int (s + q))).bind _) = _; rw [eq_int, he]; rfl) rfl) ?_
  refine seq_next (ev_at (ev_d (ev_call0 (ds := [.d (.lst []), .d (.int s), .d (.int (s + q))]) rfl rfl (cut_eq s (s + q)))) rfl rfl (Nat.le_refl _)) ?_
  refine seq_next (ev_at (d := .int (s + q)) (ev_d (ev_cb (ds := [.int s, .int (s + q)]) (ev_cons rfl (ev_cons rfl rfl)) (by show some (D.int (mx s (s + q))) = _; rw [hm]))) rfl rfl (Nat.le_refl _)) ?_
  refine seq_next (ev_if_f rfl rfl) ?_
  refine seq_next (ev_at (d := .str "send") (ev_d (by cases b <;> rfl)) rfl rfl (Nat.le_refl _)) ?_
  refine seq_ret (ev_ret (ev_d (ev_tup (ev_cons rfl (ev_cons (ev_slice (a := .bytes w) (x := some s) (y := some (s + q)) rfl (ev_part rfl (if_pos hs)) (ev_part rfl (if_pos (by (first | lia | omega)))) (if_pos ⟨h, hs, by show 0 ≤ s + q; (first | lia | omega)⟩)) (ev_cons rfl rfl))) (by simp))))
end Mine
end
section
set_option maxRecDepth 100000
namespace Mine
open PySem PySem.W
theorem goes_le (L : Int) (w : List UInt8) (s most : Int) : 0 ≤ goes L w s most ∧ (0 < goes L w s most → goes L w s most ≤ most ∧ s + goes L w s most ≤ w.length) := by
  unfold goes roomI mx mn
  refine ⟨?_, fun h => ?_⟩ <;> (split <;> try (first | lia | omega)) <;> (repeat' split) <;> (first | lia | omega)
theorem cut_len {w : List UInt8} {s q : Int} (hs : 0 ≤ s) (hq : 0 ≤ q) (h : s + q ≤ w.length) : ((cutL w (some s) (some (s + q))).length : Int) = q := by
  unfold cutL
  rw [List.length_drop, List.length_take]
  show (((min (s + q).toNat w.length) - s.toNat : Nat) : Int) = q
  (first | lia | omega)
theorem len_bytes {w : List UInt8} (h : w.length ≤ 16777216) : lenD [.bytes w] = some (.int w.length) := if_pos h
theorem ev_or_f {σ : S} {p : S → Option Bool} {ps : List (S → Option Bool)} {r : Option Bool} (h : p σ = some false) (h2 : orT ps σ = r) : orT (p :: ps) σ = r := by unfold orT; rw [h]; exact h2
theorem gone_eq (L : Int) (b : Bool) (w oct : List UInt8) (s most : Int) (h : w.length ≤ 16777216) (ho : oct.length ≤ 16777216) (hs : 0 ≤ s)
    (hcut : cutL w (some s) (some (s + goes L w s most)) = cutL oct (some s) (some (s + goes L w s most))) :
    ∃ b', g_gone [.r 0, .d (.int most), .d (.bytes oct), .d (.int s)] [sp L b w s] 0 = some (.int (s + goes L w s most), [sp L b' w (s + goes L w s most)]) := by
  by_cases hq : goes L w s most = 0
  · refine ⟨b, ?_⟩
    rw [hq, Int.add_zero]
    refine run_ret ⟨[some (.r 0), some (.d (.int most)), some (.d (.bytes oct)), some (.d (.int s)), none, none, none], [sp L b w s], 0⟩ (σ' := ⟨[some (.r 0), some (.d (.int most)), some (.d (.bytes oct)), some (.d (.int s)), some (.d .none), none, none], [sp L b w s], 0⟩) rfl rfl ?_
    delta b_gone
    refine seq_next (ev_as (ev_callE (ds := [.r 0, .d (.int most), .d .none]) (j := 0) (c := sp L b w s) (c' := sp L b w s) (d := .none) rfl rfl rfl (Nat.le_refl _) (by show g_next [.r 0, .d (.int most), .d .none] _ 0 = _; exact next_none L b w s most h hq)) rfl) ?_
    exact seq_ret (ev_if_t rfl rfl)
  · obtain ⟨h0, h1⟩ := goes_le L w s most
    have hq' : 0 < goes L w s most := by (first | lia | omega)
    obtain ⟨h2, h3⟩ := h1 hq'
    have hn := next_some L b w s most h hs hq'
    generalize goes L w s most = q at *
    have hcl := cut_len hs (Int.le_of_lt hq') h3
    have hcz : (cutL w (some s) (some (s + q))).length ≤ 16777216 := Nat.le_trans (cutL_length _ _ _) h
    refine ⟨true, ?_⟩
    refine run_ret ⟨[some (.r 0), some (.d (.int most)), some (.d (.bytes oct)), some (.d (.int s)), none, none, none], [sp L b w s], 0⟩ (σ' := ⟨[some (.r 0), some (.d (.int most)), some (.d (.bytes oct)), some (.d (.int s)), some (.d (.tup [.int s, .bytes (cutL w (some s) (some (s + q))), .bool false])), some (.d (.int q)), none], [sp L true w (s + q)], 0⟩) rfl rfl ?_
    delta b_gone
    refine seq_next (ev_as (ev_callE (ds := [.r 0, .d (.int most), .d .none]) (j := 0) (c := sp L b w s) (c' := sp L true w (s + q)) rfl rfl rfl (Nat.le_refl _) (by show g_next [.r 0, .d (.int most), .d .none] _ 0 = _; exact hn)) rfl) ?_
    refine seq_next (ev_if_f rfl rfl) ?_
    refine seq_next (ev_as (v := .d (.int q)) (ev_d (ev_cb (ev_cons (a := .bytes (cutL w (some s) (some (s + q)))) (ev_bin rfl rfl rfl) rfl) (by rw [len_bytes hcz, hcl]))) rfl) ?_
    refine seq_next (ev_if_f ?_ rfl) ?_
    · have e1 : (q == 0) = false := beq_eq_false_iff_ne.mpr (by (first | lia | omega))
      have e2 : decide (q > most) = false := decide_eq_false (by (first | lia | omega))
      have hsl : sliceD (.bytes oct) (some s) (some (s + q)) = some (.bytes (cutL oct (some s) (some (s + q)))) := if_pos ⟨ho, hs, by show 0 ≤ s + q; (first | lia | omega)⟩
      refine ev_or_f (ev_cmp (a := .int q) (b := .int 0) rfl rfl (by rw [eq_int, e1])) (ev_or_f (ev_cmp (a := .int q) (b := .int most) rfl rfl (by rw [← e2]; rfl)) (ev_or_f (ev_cmp (a := .tup [.int s, .bytes (cutL w (some s) (some (s + q))), .bool false]) (b := .tup [.int s, .bytes (cutL w (some s) (some (s + q))), .bool false]) rfl
        (ev_tup (ev_cons rfl (ev_cons (ev_slice (x := some s) (y := some (s + q)) rfl (ev_part rfl (if_pos hs)) (ev_part (d := .int (s + q)) rfl (if_pos (by (first | lia | omega)))) (by rw [hcut]; exact hsl)) (ev_cons rfl rfl))) (by simp)) ?_) rfl))
      show ((allEq (eqB 7) _ _).map _) = _
      simp [allEq, eqB]
    · exact seq_ret rfl
end Mine
end
section
set_option maxRecDepth 100000
namespace Mine
open PySem PySem.W

noncomputable def oct (n : Nat) : List UInt8 := (List.range n).map fun i => i.toUInt8
theorem oct_length (n : Nat) : (oct n).length = n := by simp [oct]
theorem oct_take {k n : Nat} (h : k ≤ n) : (oct n).take k = oct k := by
  unfold oct; rw [← List.map_take, List.take_range, Nat.min_eq_left h]
theorem oct_cut {k n : Nat} (j : Nat) (h : k ≤ n) : cutL (oct n) (some (j : Int)) (some (k : Int)) = (oct k).drop j := by
  unfold cutL
  show ((oct n).take (k : Int).toNat).drop (j : Int).toNat = _
  rw [Int.toNat_natCast, Int.toNat_natCast, oct_take h]
theorem oct_join {j k : Nat} (h : j ≤ k) : oct j ++ (oct k).drop j = oct k := by
  rw [← oct_take h]; exact List.take_append_drop j (oct k)
theorem oct_add (n a : Nat) : oct n ++ byteL ((upto 0 (a : Int)).map fun i => (n : Int) + i) = oct (n + a) := by
  unfold oct byteL upto
  rw [List.range_add, List.map_append, List.map_map, List.map_map, List.map_map]
  congr 1
  rw [show ((a : Int) - 0).toNat = a by (first | lia | omega)]
  refine List.map_congr_left fun i _ => ?_
  simp only [Function.comp]
  congr 1
  (first | lia | omega)
theorem goes_nat (W L x r : Nat) (h : x ≤ min W L) : (x : Int) + goes L (oct W) x r = ((min (min W L) (x + r) : Nat) : Int) := by
  unfold goes roomI mx mn
  rw [oct_length]
  (first | lia | omega)

theorem comp_ints (σ : S) (w : List UInt8) (h3 : vget 3 σ = some (.bytes w)) (hl : 20 < σ.vars.length) (hw : w.length ≤ 16777216) : ∀ (ns : List Int),
    ∀ (u : Option V), compGo (Tgt.asg (.one 20)) yesP (binP addD (cbP lenD (consP (vget 3) nilP)) (vget 20)) (ns.map .int) (σ.setVar 20 u) = some (ns.map fun n => .int ((w.length : Int) + n))
  | [], _ => rfl
  | n :: r, u => by
    have ih := comp_ints σ w h3 hl hw r (some (.d (.int n)))
    have h3' : vget 3 (σ.setVar 20 (some (.d (.int n)))) = some (.bytes w) := by
      unfold vget S.setVar at *
      simpa [List.getElem?_set_ne] using h3
    have h20 : vget 20 (σ.setVar 20 (some (.d (.int n)))) = some (.int n) := by
      unfold vget S.setVar
      simp [List.getElem?_set_self hl]
    have e : (σ.setVar 20 u).setVar 20 (some (.d (.int n))) = σ.setVar 20 (some (.d (.int n))) := by simp [S.setVar, List.set_set]
    show ((some ((σ.setVar 20 u).setVar 20 (some (.d (.int n))))).bind _) = _
    rw [e, Option.bind_some]
    show ((binP _ _ _ _).bind _) = _
    rw [ev_bin (a := .int w.length) (b := .int n) (c := .int ((w.length : Int) + n)) (ev_cb (ev_cons h3' rfl) (len_bytes hw)) h20 rfl, Option.bind_some, ih]
    rfl
end Mine
end
section
set_option maxRecDepth 100000
namespace Mine
open PySem PySem.W
noncomputable def runBody : S → Option (Fl × S) :=
  seqF (asF (dF (binP addD (vget 4) (vget 9))) (Tgt.asg (.one 4))) (seqF (asF (dF (cbP bytesLD (consP (compP 19 2 (rgP (consP (vget 8) (nilP))) (Tgt.asg (.one 20)) (yesP) (binP addD (cbP lenD (consP (vget 3) (nilP))) (vget 20))) (nilP)))) (Tgt.asg (.one 12))) (seqF (asF (dF (binP addD (vget 3) (vget 12))) (Tgt.asg (.one 3))) (seqF (exF (callE g_write (selfP 1 178 (consP (dV (vget 12)) (nilP))))) (seqF (exF (callE g_lim (selfP 1 178 (consP (dV (vget 4)) (nilP))))) (seqF (asF (callE g_gone (consP (anyget 1) (consP (dV (vget 10)) (consP (dV (vget 3)) (consP (dV (vget 5)) (nilP)))))) (Tgt.asg (.one 13))) (seqF (ifF (pureF (cmpP isNoneD (vget 13) (cP .none))) (seqF (retF (dF (cP .none))) (skip)) (skip)) (seqF (exF (callE g_write (selfP 2 178 (consP (dV (sliceP (vget 3) (partP (vget 5)) (partP (vget 13)))) (nilP))))) (seqF (asTrF 2 [5, 14] (consF (dF (vget 13)) (consF (callE g_gone (consP (anyget 2) (consP (dV (vget 11)) (consP (dV (vget 3)) (consP (dV (vget 6)) (nilP)))))) ((fun σ => some ([], σ)))))) (seqF (ifF (pureF (cmpP isNoneD (vget 14) (cP .none))) (seqF (retF (dF (cP .none))) (skip)) (skip)) (seqF (asF (dF (vget 14)) (Tgt.asg (.one 6))) (seqF (appF 7 (tupP (consP (vget 5) (consP (vget 6) (nilP))))) (skip))))))))))))
noncomputable def rv (R : D) (W L x y : Nat) (a m r l da ne fa : Option V) : List (Option V) :=
  [some (.d R), some (.r 0), some (.r 1), some (.d (.bytes (oct W))), some (.d (.int L)), some (.d (.int x)), some (.d (.int y)), some (.r 2), a, m, r, l, da, ne, fa, none, none, none, none]
noncomputable def nI (n : Nat) : Option V := some (.d (.int n))
theorem upto_mem {a b n : Int} (h : n ∈ upto a b) : a ≤ n ∧ n < b := by
  unfold upto at h
  obtain ⟨i, hi, rfl⟩ := List.mem_map.mp h
  have := List.mem_range.mp hi
  (first | lia | omega)
theorem range_nat {n : Nat} (h : n < 1000000) : rangeD [.int (n : Int)] = some ((upto 0 (n : Int)).map .int) := by
  unfold rangeD
  exact if_pos (by (first | lia | omega))
theorem part_nat (n : Nat) : partD (.int (n : Int)) = some (some (n : Int)) := by
  unfold partD
  exact if_pos (by (first | lia | omega))
theorem bytes_new (w a : Nat) (h : w + a ≤ 99) : bytesLD [.lst ((upto 0 (a : Int)).map fun n => .int ((w : Int) + n))] = some (.bytes (byteL ((upto 0 (a : Int)).map fun i => (w : Int) + i))) := by
  have e : ((upto 0 (a : Int)).map fun n => D.int ((w : Int) + n)) = ((upto 0 (a : Int)).map fun i => (w : Int) + i).map D.int := by rw [List.map_map]; rfl
  rw [e]
  show ((intsOf _).bind _) = _
  rw [intsOf_map, Option.bind_some, if_pos]
  refine ⟨List.all_eq_true.mpr fun n hn => ?_, by rw [List.length_map, upto_length]; (first | lia | omega)⟩
  obtain ⟨i, hi, rfl⟩ := List.mem_map.mp hn
  have := upto_mem hi
  simp only [Bool.and_eq_true, decide_eq_true_eq]
  (first | lia | omega)
theorem run_turn (R : D) (W L x y a m r l : Nat) (b1 b2 : Bool) (fs : List D) (Da Ne Fa : Option V) (hx : x ≤ min W L) (hy : y ≤ x) (hW : W + a ≤ 99) (hf : fs.length ≤ 1000) {x' y' : Nat} (ex : x' = min (min (W + a) (L + m)) (x + r)) (ey : y' = min x' (y + l)) :
    ∃ b1' b2' Da', runBody ⟨rv R W L x y (nI a) (nI m) (nI r) (nI l) Da Ne Fa, [sp L b1 (oct W) x, sp 99 b2 (oct x) y, .list fs], 0⟩ =
      some (.next, ⟨rv R (W + a) (L + m) x' y' (nI a) (nI m) (nI r) (nI l) Da' (nI x') (nI y'), [sp ((L + m : Nat) : Int) b1' (oct (W + a)) x', sp 99 b2' (oct x') y', .list (fs ++ [.tup [.int x', .int y']])], 0⟩) := by
  have hx1 : x ≤ x' := by (first | lia | omega)
  have hx2 : x' ≤ W + a := by (first | lia | omega)
  have hy1 : y ≤ y' := by (first | lia | omega)
  have hy2 : y' ≤ x' := by (first | lia | omega)
  have ol : ∀ n, n ≤ 99 → (oct n).length ≤ 16777216 := fun n hn => by rw [oct_length]; (first | lia | omega)
  have g1 : (x : Int) + goes ((L + m : Nat) : Int) (oct (W + a)) x r = (x' : Int) := by rw [goes_nat _ _ _ _ (by (first | lia | omega)), ex]
  have g2 : (y : Int) + goes ((99 : Nat) : Int) (oct x') y l = (y' : Int) := by rw [goes_nat _ _ _ _ (by (first | lia | omega)), ey]; congr 1; (first | lia | omega)
  obtain ⟨b1', e1⟩ := gone_eq ((L + m : Nat) : Int) b1 (oct (W + a)) (oct (W + a)) x r (ol _ (by (first | lia | omega))) (ol _ (by (first | lia | omega))) (by (first | lia | omega)) rfl
  obtain ⟨b2', e2⟩ := gone_eq ((99 : Nat) : Int) b2 (oct x') (oct (W + a)) y l (ol _ (by (first | lia | omega))) (ol _ (by (first | lia | omega))) (by (first | lia | omega)) (by rw [g2, oct_cut y hy2, oct_cut y (by (first | lia | omega))])
  rw [g1] at e1
  rw [g2] at e2
  refine ⟨b1', b2', some (.d (.bytes (byteL ((upto 0 (a : Int)).map fun i => (W : Int) + i)))), ?_⟩
  delta runBody
  have hd : ((upto 0 (a : Int)).map D.int).length ≤ 16777216 := by rw [List.length_map, upto_length]; (first | lia | omega)
  generalize hdata : byteL ((upto 0 (a : Int)).map fun i => (W : Int) + i) = data
  have hadd : oct W ++ data = oct (W + a) := by rw [← hdata]; exact oct_add W a
  have haL : ((oct W).length + data.length) ≤ 16777216 := by rw [← List.length_append, hadd]; exact ol _ (by (first | lia | omega))
  have hmx : mx (L : Int) ((L + m : Nat) : Int) = ((L + m : Nat) : Int) := by unfold mx; split <;> (first | lia | omega)
  refine seq_next (σ' := ⟨rv R W (L + m) x y (nI a) (nI m) (nI r) (nI l) Da Ne Fa, [sp L b1 (oct W) x, sp 99 b2 (oct x) y, .list fs], 0⟩) (ev_as (ev_d (ev_bin rfl rfl rfl)) rfl) ?_
  refine seq_next (σ' := ⟨rv R W (L + m) x y (nI a) (nI m) (nI r) (nI l) (some (.d (.bytes data))) Ne Fa, [sp L b1 (oct W) x, sp 99 b2 (oct x) y, .list fs], 0⟩) (ev_as (ev_d (ev_cb (ev_cons (ev_comp (ds := (upto 0 (a : Int)).map .int) (xs := (upto 0 (a : Int)).map fun n => .int ((W : Int) + n)) ?_ hd ?_) rfl) ?_)) rfl) ?_
  · exact ev_rg (d := [.int a]) rfl (range_nat (by (first | lia | omega)))
  rotate_left
  · rw [← hdata]; exact bytes_new W a hW
  · refine seq_next (σ' := ⟨(rv R W (L + m) x y (nI a) (nI m) (nI r) (nI l) (some (.d (.bytes data))) Ne Fa).set 3 (some (.d (.bytes (oct (W + a))))), [sp L b1 (oct W) x, sp 99 b2 (oct x) y, .list fs], 0⟩) (ev_as (v := .d (.bytes (oct (W + a)))) (ev_d (ev_bin (a := .bytes (oct W)) (b := .bytes data) rfl rfl (by rw [← hadd]; exact if_pos haL))) rfl) ?_
    refine seq_next (σ' := ⟨rv R (W + a) (L + m) x y (nI a) (nI m) (nI r) (nI l) (some (.d (.bytes data))) Ne Fa, [sp L b1 (oct (W + a)) x, sp 99 b2 (oct x) y, .list fs], 0⟩) (ev_ex (v := .d .none) (ev_callE (ds := [.r 0, .d (.bytes data)]) (j := 0) (c := sp L b1 (oct W) x) (c' := sp L b1 (oct (W + a)) x) rfl rfl rfl (Nat.le_refl _) (by rw [← hadd]; exact write_eq L b1 (oct W) data x haL))) ?_
    refine seq_next (σ' := ⟨rv R (W + a) (L + m) x y (nI a) (nI m) (nI r) (nI l) (some (.d (.bytes data))) Ne Fa, [sp ((L + m : Nat) : Int) b1 (oct (W + a)) x, sp 99 b2 (oct x) y, .list fs], 0⟩) (ev_ex (v := .d .none) (ev_callE (ds := [.r 0, .d (.int ((L + m : Nat) : Int))]) (j := 0) (c := sp L b1 (oct (W + a)) x) (c' := sp ((L + m : Nat) : Int) b1 (oct (W + a)) x) rfl rfl rfl (Nat.le_refl _) (by have := lim_eq L b1 (oct (W + a)) x ((L + m : Nat) : Int); rw [hmx] at this; exact this))) ?_
    refine seq_next (σ' := ⟨rv R (W + a) (L + m) x y (nI a) (nI m) (nI r) (nI l) (some (.d (.bytes data))) (nI x') Fa, [sp ((L + m : Nat) : Int) b1' (oct (W + a)) x', sp 99 b2 (oct x) y, .list fs], 0⟩) (ev_as (v := .d (.int x')) (ev_callE (ds := [.r 0, .d (.int r), .d (.bytes (oct (W + a))), .d (.int x)]) (j := 0) (c := sp ((L + m : Nat) : Int) b1 (oct (W + a)) x) (c' := sp ((L + m : Nat) : Int) b1' (oct (W + a)) x') rfl rfl rfl (Nat.le_refl _) e1) rfl) ?_
    refine seq_next (ev_if_f rfl rfl) ?_
    have hsl : sliceD (.bytes (oct (W + a))) (some (x : Int)) (some (x' : Int)) = some (.bytes ((oct x').drop x)) := by
      rw [← oct_cut x hx2]; exact if_pos ⟨ol _ (by (first | lia | omega)), by show (0 : Int) ≤ x; (first | lia | omega), by show (0 : Int) ≤ x'; (first | lia | omega)⟩
    have hoj := oct_join hx1
    have hdl : (oct x).length + ((oct x').drop x).length ≤ 16777216 := by rw [← List.length_append, hoj]; exact ol _ (by (first | lia | omega))
    refine seq_next (σ' := ⟨rv R (W + a) (L + m) x y (nI a) (nI m) (nI r) (nI l) (some (.d (.bytes data))) (nI x') Fa, [sp ((L + m : Nat) : Int) b1' (oct (W + a)) x', sp 99 b2 (oct x') y, .list fs], 0⟩) (ev_ex (v := .d .none) (ev_callE (ds := [.r 1, .d (.bytes ((oct x').drop x))]) (j := 1) (c := sp 99 b2 (oct x) y) (c' := sp 99 b2 (oct x') y) ?_ rfl rfl (Nat.zero_le _) (by have := write_eq 99 b2 (oct x) ((oct x').drop x) y hdl; rw [hoj] at this; exact this))) ?_
    · show ((instR 2 178 _).bind _) = _
      show ((consP _ _ _).map _) = _
      rw [ev_cons (a := .d (.bytes ((oct x').drop x))) (l := [])]
      · rfl
      · show ((sliceP _ _ _ _).map _) = _
        have e := ev_slice (σ := ⟨rv R (W + a) (L + m) x y (nI a) (nI m) (nI r) (nI l) (some (.d (.bytes data))) (nI x') Fa, [sp ((L + m : Nat) : Int) b1' (oct (W + a)) x', sp 99 b2 (oct x) y, .list fs], 0⟩) (p := vget 3) (l := partP (vget 5)) (u := partP (vget 13)) (x := some (x : Int)) (y := some (x' : Int)) (a := .bytes (oct (W + a))) rfl (ev_part (d := .int x) rfl (part_nat x)) (ev_part (d := .int x') rfl (part_nat x')) hsl
        rw [e]; rfl
      · rfl
    refine seq_next (σ' := ⟨rv R (W + a) (L + m) x' y (nI a) (nI m) (nI r) (nI l) (some (.d (.bytes data))) (nI x') (nI y'), [sp ((L + m : Nat) : Int) b1' (oct (W + a)) x', sp 99 b2' (oct x') y', .list fs], 0⟩) (ev_asTr (vs := [.d (.int x'), .d (.int y')]) (ev_consF (ev_d rfl) (ev_consF (ev_callE (ds := [.r 1, .d (.int l), .d (.bytes (oct (W + a))), .d (.int y)]) (j := 1) (c := sp 99 b2 (oct x') y) (c' := sp 99 b2' (oct x') y') rfl rfl rfl (Nat.zero_le _) e2) rfl)) (by simp) rfl) ?_
    refine seq_next (ev_if_f rfl rfl) ?_
    refine seq_next (σ' := ⟨rv R (W + a) (L + m) x' y' (nI a) (nI m) (nI r) (nI l) (some (.d (.bytes data))) (nI x') (nI y'), [sp ((L + m : Nat) : Int) b1' (oct (W + a)) x', sp 99 b2' (oct x') y', .list fs], 0⟩) (ev_as (ev_d rfl) rfl) ?_
    exact seq_next (ev_app (d := .tup [.int x', .int y']) (r := (2, fs)) (ev_tup (ev_cons rfl (ev_cons rfl rfl)) (by simp)) rfl (by show fs.length ≤ _; (first | lia | omega))) rfl
  · have := comp_ints ⟨compVars 19 2 (rv R W (L + m) x y (nI a) (nI m) (nI r) (nI l) Da Ne Fa), [sp L b1 (oct W) x, sp 99 b2 (oct x) y, .list fs], 3⟩ (oct W) rfl (by show 20 < 21; (first | lia | omega)) (ol _ (by (first | lia | omega))) (upto 0 (a : Int)) none
    rw [oct_length] at this
    exact this
end Mine
end
section
set_option maxRecDepth 100000
namespace Mine
open PySem PySem.W
structure Qd where
  a : Nat
  m : Nat
  r : Nat
  l : Nat
noncomputable def Qd.d (q : Qd) : D := .tup [.int q.a, .int q.m, .int q.r, .int q.l]
noncomputable def tot (qs : List Qd) : Nat := (qs.map Qd.a).sum
noncomputable def runL : List Qd → Nat → Nat → Nat → Nat → List (Nat × Nat)
  | [], _, _, _, _ => []
  | q :: qs, W, L, x, y => (min (min (W + q.a) (L + q.m)) (x + q.r), min (min (min (W + q.a) (L + q.m)) (x + q.r)) (y + q.l)) :: runL qs (W + q.a) (L + q.m) (min (min (W + q.a) (L + q.m)) (x + q.r)) (min (min (min (W + q.a) (L + q.m)) (x + q.r)) (y + q.l))
noncomputable def prD (p : Nat × Nat) : D := .tup [.int p.1, .int p.2]
theorem runL_length : ∀ (qs : List Qd) (W L x y : Nat), (runL qs W L x y).length = qs.length
  | [], _, _, _, _ => rfl
  | q :: qs, W, L, x, y => by simp [runL, runL_length qs]
theorem for_step {a : V → S → Option S} {body : S → Option (Fl × S)} {d : D} {ds : List D} {σ σ₁ σ₂ : S} {r : Option (Fl × S)} (ha : a (.d d) σ = some σ₁) (hb : body σ₁ = some (.next, σ₂)) (hr : forR a body ds σ₂ = r) : forR a body (d :: ds) σ = r := by
  show ((a (.d d) σ).bind _) = _
  rw [ha, Option.bind_some]
  show ((body σ₁).bind _) = _
  rw [hb, Option.bind_some]
  exact hr
theorem run_loop (R : D) : ∀ (qs : List Qd) (W L x y : Nat) (A M P Q Da Ne Fa : Option V) (b1 b2 : Bool) (fs : List D), x ≤ min W L → y ≤ x → W + tot qs ≤ 99 → fs.length + qs.length ≤ 1000 →
    ∃ W' L' x' y' A' M' P' Q' Da' Ne' Fa' b1' b2', forR (Tgt.asg (.tup [8, 9, 10, 11])) runBody (qs.map Qd.d) ⟨rv R W L x y A M P Q Da Ne Fa, [sp L b1 (oct W) x, sp 99 b2 (oct x) y, .list fs], 0⟩ =
      some (.next, ⟨rv R W' L' x' y' A' M' P' Q' Da' Ne' Fa', [sp (L' : Nat) b1' (oct W') x', sp 99 b2' (oct x') y', .list (fs ++ (runL qs W L x y).map prD)], 0⟩)
  | [], W, L, x, y, A, M, P, Q, Da, Ne, Fa, b1, b2, fs, _, _, _, _ => ⟨W, L, x, y, A, M, P, Q, Da, Ne, Fa, b1, b2, by simp [forR, runL]⟩
  | q :: qs, W, L, x, y, A, M, P, Q, Da, Ne, Fa, b1, b2, fs, hx, hy, hW, hf => by
    have hW' : W + q.a + tot qs ≤ 99 := by simp [tot] at hW ⊢; (first | lia | omega)
    obtain ⟨b1', b2', Da', ht⟩ := run_turn R W L x y q.a q.m q.r q.l b1 b2 fs Da Ne Fa hx hy (by (first | lia | omega)) (by simp at hf; (first | lia | omega)) rfl rfl
    obtain ⟨W₂, L₂, x₂, y₂, A₂, M₂, P₂, Q₂, Da₂, Ne₂, Fa₂, c1, c2, ih⟩ := run_loop R qs (W + q.a) (L + q.m) (min (min (W + q.a) (L + q.m)) (x + q.r)) (min (min (min (W + q.a) (L + q.m)) (x + q.r)) (y + q.l)) (nI q.a) (nI q.m) (nI q.r) (nI q.l) Da'
      (nI (min (min (W + q.a) (L + q.m)) (x + q.r))) (nI (min (min (min (W + q.a) (L + q.m)) (x + q.r)) (y + q.l))) b1' b2' (fs ++ [prD (min (min (W + q.a) (L + q.m)) (x + q.r), min (min (min (W + q.a) (L + q.m)) (x + q.r)) (y + q.l))]) (by (first | lia | omega)) (by (first | lia | omega)) hW' (by simp at hf ⊢; (first | lia | omega))
    refine ⟨W₂, L₂, x₂, y₂, A₂, M₂, P₂, Q₂, Da₂, Ne₂, Fa₂, c1, c2, ?_⟩
    rw [show fs ++ (runL (q :: qs) W L x y).map prD = fs ++ [prD (min (min (W + q.a) (L + q.m)) (x + q.r), min (min (min (W + q.a) (L + q.m)) (x + q.r)) (y + q.l))] ++ (runL qs (W + q.a) (L + q.m) (min (min (W + q.a) (L + q.m)) (x + q.r)) (min (min (min (W + q.a) (L + q.m)) (x + q.r)) (y + q.l))).map prD by simp [runL]]
    exact for_step (σ₁ := ⟨rv R W L x y (nI q.a) (nI q.m) (nI q.r) (nI q.l) Da Ne Fa, [sp L b1 (oct W) x, sp 99 b2 (oct x) y, .list fs], 0⟩) rfl ht ih
theorem run_eq (qs : List Qd) (hW : tot qs ≤ 99) (hl : qs.length ≤ 900) : g_run [.d (.lst (qs.map Qd.d))] [] 0 = some (.lst ((runL qs 0 0 0 0).map prD), []) := by
  obtain ⟨W', L', x', y', A', M', P', Q', Da', Ne', Fa', b1', b2', hr⟩ := run_loop (.lst (qs.map Qd.d)) qs 0 0 0 0 none none none none none none none false false [] (by (first | lia | omega)) (by (first | lia | omega)) (by (first | lia | omega)) (by simp; (first | lia | omega))
  refine run_ret ⟨[some (.d (.lst (qs.map Qd.d))), none, none, none, none, none, none, none, none, none, none, none, none, none, none, none, none, none, none], [], 0⟩ rfl rfl
    (σ' := ⟨(rv (.lst (qs.map Qd.d)) W' L' x' y' A' M' P' Q' Da' Ne' Fa').set 7 (some (.d (.lst ([] ++ (runL qs 0 0 0 0).map prD)))), [sp (L' : Nat) b1' (oct W') x', sp 99 b2' (oct x') y', .dead], 0⟩) ?_
  delta b_run
  refine seq_next (σ' := ⟨rv (.lst (qs.map Qd.d)) 0 0 0 0 none none none none none none none, [sp 0 false (oct 0) 0, sp 99 false (oct 0) 0, .list []], 0⟩) ?_ ?_
  · refine ev_asTF (vs := [.r 0, .r 1, .d (.bytes []), .d (.int 0), .d (.int 0), .d (.int 0), .r 2]) (ev_consF (ev_new (ds := [.d (.int 0)]) rfl rfl (init_eq 0)) (ev_consF (ev_new (ds := [.d (.int 99)]) rfl rfl (init_eq 99)) rfl)) (by simp) rfl
  · refine seq_next (ev_for (ev_pureF (ev_it rfl rfl)) hr) ?_
    exact ev_frz rfl (seq_ret rfl)
end Mine
end
section
set_option maxRecDepth 100000
namespace Mine
open PySem PySem.W

noncomputable def up (g : Nat → Nat) : Nat → Nat
  | 0 => 0
  | t + 1 => up g t + g t
theorem reich (R N X : Nat → Int) (h0 : X 0 = R 0) (hs : ∀ t, X (t + 1) = min (R (t + 1)) (X t + (N (t + 1) - N t))) : ∀ t, (∃ e, e ≤ t ∧ X t = R e + N t - N e) ∧ ∀ e, e ≤ t → X t ≤ R e + N t - N e
  | 0 => ⟨⟨0, Nat.le_refl _, by (first | lia | omega)⟩, fun e he => by rw [Nat.le_zero.mp he]; (first | lia | omega)⟩
  | t + 1 => by
    obtain ⟨⟨e, he, h1⟩, h2⟩ := reich R N X h0 hs t
    have h3 := hs t
    refine ⟨?_, fun e' he' => ?_⟩
    · by_cases hc : R (t + 1) ≤ X t + (N (t + 1) - N t)
      · exact ⟨t + 1, Nat.le_refl _, by (first | lia | omega)⟩
      · exact ⟨e, by (first | lia | omega), by (first | lia | omega)⟩
    · rcases Nat.lt_or_ge t e' with hlt | hle
      · have : e' = t + 1 := by (first | lia | omega)
        subst this; (first | lia | omega)
      · have := h2 e' hle; (first | lia | omega)
noncomputable def XY (q : Nat → Qd) : Nat → Nat × Nat
  | 0 => (0, 0)
  | t + 1 => (min (min (up (fun i => (q i).a) (t + 1)) (up (fun i => (q i).m) (t + 1))) ((XY q t).1 + (q t).r), min (min (min (up (fun i => (q i).a) (t + 1)) (up (fun i => (q i).m) (t + 1))) ((XY q t).1 + (q t).r)) ((XY q t).2 + (q t).l))
theorem runL_XY (q : Nat → Qd) : ∀ (qs : List Qd) (t : Nat), (∀ (i : Nat) (p : Qd), qs[i]? = some p → p = q (t + i)) →
    runL qs (up (fun i => (q i).a) t) (up (fun i => (q i).m) t) (XY q t).1 (XY q t).2 = (List.range' (t + 1) qs.length).map (XY q)
  | [], t, h => rfl
  | p :: qs, t, h => by
    have hp := h 0 p rfl
    have ih := runL_XY q qs (t + 1) fun i p' hi => by rw [h (i + 1) p' (by simpa using hi)]; congr 1; (first | lia | omega)
    subst hp
    show _ :: runL qs _ _ _ _ = _
    rw [List.length_cons, List.range'_succ, List.map_cons]
    exact congrArg _ ih
theorem sumsFrom_up (g : Nat → Nat) : ∀ (ns : List Int) (t : Nat), (∀ (i : Nat) (n : Int), ns[i]? = some n → n = (g (t + i) : Nat)) → sumsFrom (up g t : Nat) ns = (List.range' (t + 1) ns.length).map fun s => ((up g s : Nat) : Int)
  | [], t, h => rfl
  | n :: ns, t, h => by
    have hp := h 0 n rfl
    have ih := sumsFrom_up g ns (t + 1) fun i p' hi => by rw [h (i + 1) p' (by simpa using hi)]; congr 2; (first | lia | omega)
    subst hp
    show _ :: sumsFrom _ ns = _
    rw [List.length_cons, List.range'_succ, List.map_cons]
    rw [show ((up g t : Nat) : Int) + ((g (t + 0) : Nat) : Int) = ((up g (t + 1) : Nat) : Int) by rw [Nat.add_zero]; show _ = ((up g t + g t : Nat) : Int); (first | lia | omega), ih]
theorem sums_up (g : Nat → Nat) (ns : List Int) (h : ∀ (i : Nat) (n : Int), ns[i]? = some n → n = (g i : Nat)) : sums ns = (List.range (ns.length + 1)).map fun s => ((up g s : Nat) : Int) := by
  have := sumsFrom_up g ns 0 fun i n hi => by rw [h i n hi]; congr 2; (first | lia | omega)
  unfold sums
  rw [show (0 : Int) = ((up g 0 : Nat) : Int) from rfl, this, List.range_eq_range', List.range'_succ, List.map_cons]
theorem min_is {ns : List Int} {m : Int} (h1 : m ∈ ns) (h2 : ∀ n, n ∈ ns → m ≤ n) : minLD [.lst (ns.map .int)] = some (.int m) := by
  show ((intsOf (ns.map .int)).bind _) = _
  rw [intsOf_map, Option.bind_some, List.min?_eq_some_iff.mpr ⟨h1, h2⟩]; rfl
noncomputable def Qd.const (p q : Nat) (c : Qd) : Qd := ⟨c.a, c.m, p, q⟩
theorem run_same (p q : Nat) : ∀ (qs : List Qd) (W L x y : Nat), y ≤ x → (p ≤ q → x = y) → W + tot qs ≤ 99 →
    (runL (qs.map (Qd.const p q)) W L x y).map (·.2) = (runL (qs.map (Qd.const (min p q) 99)) W L y y).map (·.2)
  | [], W, L, x, y, _, _, _ => rfl
  | c :: qs, W, L, x, y, h1, h2, h3 => by
    have h3' : W + c.a + tot qs ≤ 99 := by simp [tot] at h3 ⊢; (first | lia | omega)
    show min (min (min (W + c.a) (L + c.m)) (x + p)) (y + q) :: (runL (qs.map (Qd.const p q)) (W + c.a) (L + c.m) (min (min (W + c.a) (L + c.m)) (x + p)) (min (min (min (W + c.a) (L + c.m)) (x + p)) (y + q))).map (·.2) =
      min (min (min (W + c.a) (L + c.m)) (y + min p q)) (y + 99) :: (runL (qs.map (Qd.const (min p q) 99)) (W + c.a) (L + c.m) (min (min (W + c.a) (L + c.m)) (y + min p q)) (min (min (min (W + c.a) (L + c.m)) (y + min p q)) (y + 99))).map (·.2)
    have e1 : min (min (min (W + c.a) (L + c.m)) (y + min p q)) (y + 99) = min (min (min (W + c.a) (L + c.m)) (x + p)) (y + q) := by (first | lia | omega)
    have e2 : min (min (W + c.a) (L + c.m)) (y + min p q) = min (min (min (W + c.a) (L + c.m)) (x + p)) (y + q) := by (first | lia | omega)
    rw [e1, e2]
    congr 1
    exact run_same p q qs _ _ _ _ (by (first | lia | omega)) (by (first | lia | omega)) h3'
theorem one_is (q : Nat → Qd) (t : Nat) : minLD [.lst (((List.range (t + 1)).map fun e => ((min (up (fun i => (q i).a) e) (up (fun i => (q i).m) e) : Nat) : Int) + ((up (fun i => (q i).r) t : Nat) : Int) - ((up (fun i => (q i).r) e : Nat) : Int)).map .int)] = some (.int ((XY q t).1 : Nat)) := by
  obtain ⟨⟨e, he, h1⟩, h2⟩ := reich (fun e => ((min (up (fun i => (q i).a) e) (up (fun i => (q i).m) e) : Nat) : Int)) (fun e => ((up (fun i => (q i).r) e : Nat) : Int)) (fun e => (((XY q e).1 : Nat) : Int)) rfl (fun t => by
    show ((min (min (up (fun i => (q i).a) (t + 1)) (up (fun i => (q i).m) (t + 1))) ((XY q t).1 + (q t).r) : Nat) : Int) = min _ (_ + (((up (fun i => (q i).r) t + (q t).r : Nat) : Int) - _))
    (first | lia | omega)) t
  refine min_is (List.mem_map.mpr ⟨e, List.mem_range.mpr (by (first | lia | omega)), h1.symm⟩) fun n hn => ?_
  obtain ⟨e', he', rfl⟩ := List.mem_map.mp hn
  exact h2 e' (by have := List.mem_range.mp he'; (first | lia | omega))
noncomputable def midL (q : Nat → Qd) (t m : Nat) : List Int := (List.range (m + 1)).map fun e => ((min (up (fun i => (q i).a) e) (up (fun i => (q i).m) e) : Nat) : Int) + ((up (fun i => (q i).r) m : Nat) : Int) - ((up (fun i => (q i).r) e : Nat) : Int) + ((up (fun i => (q i).l) t : Nat) : Int) - ((up (fun i => (q i).l) m : Nat) : Int)
theorem two_is (q : Nat → Qd) (t : Nat) : minLD [.lst (((List.range (t + 1)).flatMap (midL q t)).map .int)] = some (.int ((XY q t).2 : Nat)) := by
  have hX := reich (fun e => ((min (up (fun i => (q i).a) e) (up (fun i => (q i).m) e) : Nat) : Int)) (fun e => ((up (fun i => (q i).r) e : Nat) : Int)) (fun e => (((XY q e).1 : Nat) : Int)) rfl (fun t => by
    show ((min (min (up (fun i => (q i).a) (t + 1)) (up (fun i => (q i).m) (t + 1))) ((XY q t).1 + (q t).r) : Nat) : Int) = min _ (_ + (((up (fun i => (q i).r) t + (q t).r : Nat) : Int) - _))
    (first | lia | omega))
  obtain ⟨⟨m, hm, h1⟩, h2⟩ := reich (fun e => (((XY q e).1 : Nat) : Int)) (fun e => ((up (fun i => (q i).l) e : Nat) : Int)) (fun e => (((XY q e).2 : Nat) : Int)) rfl (fun t => by
    show ((min (XY q (t + 1)).1 ((XY q t).2 + (q t).l) : Nat) : Int) = min _ (_ + (((up (fun i => (q i).l) t + (q t).l : Nat) : Int) - _))
    (first | lia | omega)) t
  refine min_is (List.mem_flatMap.mpr ?_) fun n hn => ?_
  · obtain ⟨⟨e, he, h3⟩, _⟩ := hX m
    refine ⟨m, List.mem_range.mpr (by (first | lia | omega)), List.mem_map.mpr ⟨e, List.mem_range.mpr (by (first | lia | omega)), ?_⟩⟩
    (first | lia | omega)
  · obtain ⟨m', hm', hn⟩ := List.mem_flatMap.mp hn
    obtain ⟨e', he', rfl⟩ := List.mem_map.mp hn
    have hm' := List.mem_range.mp hm'
    have he' := List.mem_range.mp he'
    have := h2 m' (by (first | lia | omega))
    have := (hX m').2 e' (by (first | lia | omega))
    (first | lia | omega)
end Mine
end
section
set_option maxRecDepth 100000
namespace Mine
open PySem PySem.W

theorem comp_go {α : Type} {i : Nat} {pe : S → Option D} {σ : S} {g f : α → D} : ∀ (is : List α) (u : Option V), (∀ a, a ∈ is → pe (σ.setVar i (some (.d (g a)))) = some (f a)) → compGo (Tgt.asg (.one i)) yesP pe (is.map g) (σ.setVar i u) = some (is.map f)
  | [], _, _ => rfl
  | a :: r, u, h => by
    have ih := comp_go r (some (.d (g a))) fun b hb => h b (List.mem_cons_of_mem _ hb)
    have e : (σ.setVar i u).setVar i (some (.d (g a))) = σ.setVar i (some (.d (g a))) := by simp [S.setVar, List.set_set]
    show ((some ((σ.setVar i u).setVar i (some (.d (g a))))).bind _) = _
    rw [e, Option.bind_some]
    show ((pe _).bind _) = _
    rw [h a (List.mem_cons_self ..), Option.bind_some, ih]
    rfl
theorem ev_compM {α : Type} {σ σ' : S} {base k i : Nat} {p : S → Option (List D)} {pe : S → Option D} (is : List α) (g f : α → D) (hp : p σ = some (is.map g)) (hl : is.length ≤ 16777216) (h0 : ⟨compVars base k σ.vars, σ.heap, σ.heap.length⟩ = σ')
    (hi : σ'.setVar i none = σ') (h : ∀ a, a ∈ is → pe (σ'.setVar i (some (.d (g a)))) = some (f a)) : compP base k p (Tgt.asg (.one i)) yesP pe σ = some (.lst (is.map f)) := by
  refine ev_comp hp (by rw [List.length_map]; exact hl) ?_
  rw [h0, ← hi]
  exact comp_go is none h
theorem upto_nat (n : Nat) : (upto 0 (n : Int)).map D.int = (List.range n).map fun i : Nat => D.int i := by
  unfold upto
  rw [List.map_map, show ((n : Int) - 0).toNat = n by (first | lia | omega)]
  refine List.map_congr_left fun i _ => ?_
  show D.int (0 + (i : Int)) = _
  rw [Int.zero_add]
theorem rangeN {n : Nat} (h : n < 1000000) : rangeD [.int (n : Int)] = some ((List.range n).map fun i : Nat => D.int i) := by rw [range_nat h, upto_nat]
noncomputable def lv (R0 : D) (po rw' tu mo me ro la wr le ne fa at' rd du on so mi ot ev tn al : Option V) : List (Option V) :=
  [some (.d R0), po, rw', tu, mo, me, ro, la, wr, le, ne, fa, at', rd, du, on, so, mi, ot, ev, tn, al, none, none, none, none, none, none]
noncomputable def dr (ns : List Int) (k : Nat) : Nat := (drawn ns k 4).toNat
theorem dr_eq (ns : List Int) (k : Nat) : drawn ns k 4 = ((dr ns k : Nat) : Int) := by have := (drawn_range (ns := ns) (k := k) (m := 4) (by (first | lia | omega))).1; unfold dr; (first | lia | omega)
theorem dr_le (ns : List Int) (k : Nat) : dr ns k ≤ 3 := by have := (drawn_range (ns := ns) (k := k) (m := 4) (by (first | lia | omega))); unfold dr; (first | lia | omega)
noncomputable def qdAt (ns : List Int) (k : Nat) : Qd := ⟨dr ns k, dr ns (k + 1), dr ns (k + 2), dr ns (k + 3)⟩
noncomputable def rowsAt (ns : List Int) : Nat → Nat → List Qd
  | _, 0 => []
  | k, n + 1 => qdAt ns k :: rowsAt ns (k + 4) n
theorem rowsAt_length (ns : List Int) : ∀ (n k : Nat), (rowsAt ns k n).length = n
  | 0, _ => rfl
  | n + 1, k => by simp [rowsAt, rowsAt_length ns n]
theorem rowsAt_tot (ns : List Int) : ∀ (n k : Nat), tot (rowsAt ns k n) ≤ 3 * n
  | 0, _ => by simp [rowsAt, tot]
  | n + 1, k => by
    have h1 := rowsAt_tot ns n (k + 4)
    have h2 := dr_le ns k
    simp [rowsAt, tot, qdAt] at h1 ⊢; (first | lia | omega)
noncomputable def poolC (ns : List Int) (k : Nat) : Cell := .list [.lst (ns.map .int), .int (k : Nat)]
theorem pool_draw {σ σ' : S} (ns : List Int) (k m : Nat) (hk : k < 100000) (hm : 0 < m) (hn : ns.length ≤ 1000) {v : D} (hv : v = .int (drawn ns k m)) {H : List Cell} (h1 : σ.heap = poolC ns k :: H) (hp : σ.prot = 0) (hv1 : σ.vars[1]? = some (some (.r 0)))
    (h2 : ⟨σ.vars, poolC ns (k + 1) :: H, 0⟩ = σ') : callE g_draw (consP (anyget 1) (consP (dV (cP (.int m))) nilP)) σ = some (.d v, σ') := by
  subst hv h2
  have := draw_eq ns k m hk (by (first | lia | omega)) hn
  rw [ev_callE (ds := [.r 0, .d (.int m)]) (j := 0) (c := poolC ns k) (c' := poolC ns (k + 1)) (d := .int (drawn ns k m)) (ev_cons (by unfold anyget; rw [hv1]) rfl) rfl (by rw [h1]; rfl) (by (first | lia | omega)) this]
  unfold S.setCell
  rw [h1, hp]; rfl
noncomputable def rowBody : S → Option (Fl × S) := (seqF (asTF (consF (callE g_draw (consP (anyget 1) (consP (dV (cP (.int 4))) (nilP)))) (consF (callE g_draw (consP (anyget 1) (consP (dV (cP (.int 4))) (nilP)))) (consF (callE g_draw (consP (anyget 1) (consP (dV (cP (.int 4))) (nilP)))) (consF (callE g_draw (consP (anyget 1) (consP (dV (cP (.int 4))) (nilP)))) ((fun σ => some ([], σ))))))) [Tgt.asg (.one 4), Tgt.asg (.one 5), Tgt.asg (.one 6), Tgt.asg (.one 7)]) (seqF (appF 2 (tupP (consP (vget 4) (consP (vget 5) (consP (vget 6) (consP (vget 7) (nilP))))))) (skip)))
noncomputable def pv (R0 : D) (tu mo me ro la : Option V) : List (Option V) := lv R0 (some (.r 0)) (some (.r 1)) tu mo me ro la none none none none none none none none none none none none none none
theorem rowBody_eq (R0 : D) (tu mo me ro la : Option V) (ns : List Int) (k : Nat) (acc : List D) (hk : k + 4 < 100000) (hn : ns.length ≤ 1000) (ha : acc.length ≤ 1000) :
    ∃ mo' me' ro' la', rowBody ⟨pv R0 tu mo me ro la, [poolC ns k, .list acc], 0⟩ = some (.next, ⟨pv R0 tu mo' me' ro' la', [poolC ns (k + 4), .list (acc ++ [(qdAt ns k).d])], 0⟩) := by
  refine ⟨nI (dr ns k), nI (dr ns (k + 1)), nI (dr ns (k + 2)), nI (dr ns (k + 3)), ?_⟩
  delta rowBody
  refine seq_next (σ' := ⟨pv R0 tu (nI (dr ns k)) (nI (dr ns (k + 1))) (nI (dr ns (k + 2))) (nI (dr ns (k + 3))), [poolC ns (k + 4), .list acc], 0⟩) (ev_asTF (vs := [.d (.int (dr ns k : Nat)), .d (.int (dr ns (k + 1) : Nat)), .d (.int (dr ns (k + 2) : Nat)), .d (.int (dr ns (k + 3) : Nat))]) (σ₁ := ⟨pv R0 tu mo me ro la, [poolC ns (k + 4), .list acc], 0⟩)
    (ev_consF (pool_draw ns k 4 (by (first | lia | omega)) (by (first | lia | omega)) hn (congrArg D.int (dr_eq ns _).symm) rfl rfl rfl rfl) (ev_consF (pool_draw ns (k + 1) 4 (by (first | lia | omega)) (by (first | lia | omega)) hn (congrArg D.int (dr_eq ns _).symm) rfl rfl rfl rfl) (ev_consF (pool_draw ns (k + 2) 4 (by (first | lia | omega)) (by (first | lia | omega)) hn (congrArg D.int (dr_eq ns _).symm) rfl rfl rfl rfl) (ev_consF (pool_draw ns (k + 3) 4 (by (first | lia | omega)) (by (first | lia | omega)) hn (congrArg D.int (dr_eq ns _).symm) rfl rfl rfl rfl) rfl)))) (by simp) rfl) ?_
  exact seq_next (ev_app (d := (qdAt ns k).d) (r := (1, acc)) (ev_tup (ev_cons rfl (ev_cons rfl (ev_cons rfl (ev_cons rfl rfl)))) (by simp)) rfl (by show acc.length ≤ _; (first | lia | omega))) rfl
theorem rows_loop (R0 : D) (ns : List Int) (hn : ns.length ≤ 1000) : ∀ (ts : List D) (tu mo me ro la : Option V) (k : Nat) (acc : List D), k + 4 * ts.length < 1000 → acc.length + ts.length ≤ 1000 →
    ∃ tu' mo' me' ro' la', forR (Tgt.asg (.one 3)) rowBody ts ⟨pv R0 tu mo me ro la, [poolC ns k, .list acc], 0⟩ =
      some (.next, ⟨pv R0 tu' mo' me' ro' la', [poolC ns (k + 4 * ts.length), .list (acc ++ (rowsAt ns k ts.length).map Qd.d)], 0⟩)
  | [], tu, mo, me, ro, la, k, acc, _, _ => ⟨tu, mo, me, ro, la, by simp [forR, rowsAt]⟩
  | t :: ts, tu, mo, me, ro, la, k, acc, hk, ha => by
    simp only [List.length_cons] at hk ha
    obtain ⟨mo', me', ro', la', hb⟩ := rowBody_eq R0 (some (.d t)) mo me ro la ns k acc (by (first | lia | omega)) hn (by (first | lia | omega))
    obtain ⟨tu₂, mo₂, me₂, ro₂, la₂, ih⟩ := rows_loop R0 ns hn ts (some (.d t)) mo' me' ro' la' (k + 4) (acc ++ [(qdAt ns k).d]) (by (first | lia | omega)) (by simp; (first | lia | omega))
    refine ⟨tu₂, mo₂, me₂, ro₂, la₂, ?_⟩
    rw [show acc ++ (rowsAt ns k (t :: ts).length).map Qd.d = acc ++ [(qdAt ns k).d] ++ (rowsAt ns (k + 4) ts.length).map Qd.d by simp [rowsAt], show k + 4 * (t :: ts).length = k + 4 + 4 * ts.length by simp; (first | lia | omega)]
    exact for_step (σ₁ := ⟨pv R0 (some (.d t)) mo me ro la, [poolC ns k, .list acc], 0⟩) rfl hb ih
end Mine
end
section
set_option maxRecDepth 100000
namespace Mine
open PySem PySem.W

noncomputable def fdL (g : Nat → Int) (n : Nat) : D := .lst ((List.range n).map fun e => D.int (g e))
theorem idx_fdL {g : Nat → Int} {n e : Nat} (h : e < n) (hn : n < 1000000) : idxD (fdL g n) (.int (e : Nat)) = some (.int (g e)) := by
  show getI _ _ = _
  exact getI_at (by (first | lia | omega)) (by simp [h])
theorem len_fdL {g : Nat → Int} {n : Nat} (h : n ≤ 16777216) : lenD [fdL g n] = some (.int (n : Nat)) := by
  have := len_lst (xs := (List.range n).map fun e => D.int (g e)) (by simpa using h)
  rw [List.length_map, List.length_range] at this
  exact this
noncomputable def qAt (qs : List Qd) (i : Nat) : Qd := qs.getD i ⟨0, 0, 0, 0⟩
noncomputable def upQ (qs : List Qd) (f : Qd → Nat) (t : Nat) : Nat := up (fun i => f (qAt qs i)) t
theorem sums_col (qs : List Qd) (f : Qd → Nat) (h : qs.length ≤ 900) : g_sums [.d (.lst (qs.map fun q => .int (f q : Nat)))] [] 0 = some (fdL (fun t => ((upQ qs f t : Nat) : Int)) (qs.length + 1), []) := by
  have := sums_eq (qs.map fun q => ((f q : Nat) : Int)) (by simpa using h)
  rw [List.map_map, sums_up (fun i => f (qAt qs i)) (qs.map fun q => ((f q : Nat) : Int)) (fun i n hi => ?_), List.length_map, List.map_map] at this
  · exact this
  · obtain ⟨q, hq, rfl⟩ := List.getElem?_map .. ▸ hi |> Option.map_eq_some_iff.mp
    simp [qAt, List.getD_eq_getElem?_getD, hq]
theorem col_comp {σ : S} {k : Nat} (qs : List Qd) (f : Qd → Nat) (h : qs.length ≤ 900) (hv : vget 2 σ = some (.lst (qs.map Qd.d))) (hl : σ.vars.length = 28) (hf : ∀ q : Qd, idxD q.d (.int k) = some (.int (f q : Nat))) :
    call0 g_sums (consP (dV (compP 28 2 (itP (vget 2)) (Tgt.asg (.one 29)) (yesP) (binP idxD (vget 29) (cP (.int k))))) nilP) σ = some (fdL (fun t => ((upQ qs f t : Nat) : Int)) (qs.length + 1)) := by
  refine ev_call0 (ds := [.d (.lst (qs.map fun q => .int (f q : Nat)))]) (ev_cons ?_ rfl) rfl (sums_col qs f h)
  show ((compP _ _ _ _ _ _ _).map _) = _
  have e : compVars 28 2 σ.vars = σ.vars ++ [none, none] := by unfold compVars; rw [List.take_of_length_le (by (first | lia | omega)), hl]; simp
  rw [ev_compM qs Qd.d (fun q => .int (f q : Nat)) (ev_it hv rfl) (by (first | lia | omega)) (σ' := ⟨σ.vars ++ [none, none], σ.heap, σ.heap.length⟩) (by rw [e]) ?_ ?_]
  · rfl
  · simp [S.setVar, List.set_append, hl]
  · intro q _
    refine ev_bin (a := q.d) ?_ rfl (hf q)
    simp [vget, S.setVar, List.set_append, hl]
noncomputable def v3 (R0 : D) (qs : List Qd) (tu mo me ro la wr le ne fa at' rd du on so mi ot ev tn al : Option V) : List (Option V) := lv R0 (some (.r 0)) (some (.d (.lst (qs.map Qd.d)))) tu mo me ro la wr le ne fa at' rd du on so mi ot ev tn al
noncomputable def dI (d : D) : Option V := some (.d d)
noncomputable def uI (qs : List Qd) (f : Qd → Nat) : D := fdL (fun t => ((upQ qs f t : Nat) : Int)) (qs.length + 1)
theorem idx_uI {qs : List Qd} {f : Qd → Nat} {e : Nat} (he : e < qs.length + 1) (h : qs.length ≤ 900) : idxD (uI qs f) (.int (e : Nat)) = some (.int ((upQ qs f e : Nat) : Int)) := idx_fdL (g := fun t => ((upQ qs f t : Nat) : Int)) he (by (first | lia | omega))
noncomputable def rdy (qs : List Qd) (e : Nat) : Nat := min (upQ qs Qd.a e) (upQ qs Qd.m e)
noncomputable def sums2 : S → Option (Fl × S) := (asTF (consF (dF (call0 g_sums (consP (dV (compP 28 2 (itP (vget 2)) (Tgt.asg (.one 29)) (yesP) (binP idxD (vget 29) (cP (.int 0))))) (nilP)))) (consF (dF (call0 g_sums (consP (dV (compP 28 2 (itP (vget 2)) (Tgt.asg (.one 29)) (yesP) (binP idxD (vget 29) (cP (.int 1))))) (nilP)))) ((fun σ => some ([], σ))))) [Tgt.asg (.one 8), Tgt.asg (.one 9)])
noncomputable def sums3 : S → Option (Fl × S) := (asTF (consF (dF (call0 g_sums (consP (dV (compP 28 2 (itP (vget 2)) (Tgt.asg (.one 29)) (yesP) (binP idxD (vget 29) (cP (.int 2))))) (nilP)))) (consF (dF (call0 g_sums (consP (dV (compP 28 2 (itP (vget 2)) (Tgt.asg (.one 29)) (yesP) (binP idxD (vget 29) (cP (.int 3))))) (nilP)))) ((fun σ => some ([], σ))))) [Tgt.asg (.one 10), Tgt.asg (.one 11)])
noncomputable def readyF : S → Option (Fl × S) := (asTF (consF (dF (compP 28 2 (rgP (consP (cbP lenD (consP (vget 8) (nilP))) (nilP))) (Tgt.asg (.one 29)) (yesP) (cbP min2D (consP (binP idxD (vget 8) (vget 29)) (consP (binP idxD (vget 9) (vget 29)) (nilP)))))) (consF (lnewF (nilP)) ((fun σ => some ([], σ))))) [Tgt.asg (.one 13), Tgt.asg (.one 14)])
section
variable (R0 : D) (qs : List Qd) (tu mo me ro la : Option V) (P : Cell)
theorem sums2_eq (h : qs.length ≤ 900) : sums2 ⟨v3 R0 qs tu mo me ro la none none none none none none none none none none none none none none, [P, .dead], 0⟩ =
    some (.next, ⟨v3 R0 qs tu mo me ro la (dI (uI qs Qd.a)) (dI (uI qs Qd.m)) none none none none none none none none none none none none, [P, .dead], 0⟩) := by
  delta sums2
  exact ev_asTF (vs := [.d (uI qs Qd.a), .d (uI qs Qd.m)]) (ev_consF (ev_d (col_comp (k := 0) qs Qd.a h rfl rfl fun _ => rfl)) (ev_consF (ev_d (col_comp (k := 1) qs Qd.m h rfl rfl fun _ => rfl)) rfl)) (by simp) rfl
theorem sums3_eq (h : qs.length ≤ 900) : sums3 ⟨v3 R0 qs tu mo me ro la (dI (uI qs Qd.a)) (dI (uI qs Qd.m)) none none none none none none none none none none none none, [P, .dead], 0⟩ =
    some (.next, ⟨v3 R0 qs tu mo me ro la (dI (uI qs Qd.a)) (dI (uI qs Qd.m)) (dI (uI qs Qd.r)) (dI (uI qs Qd.l)) none none none none none none none none none none, [P, .dead], 0⟩) := by
  delta sums3
  exact ev_asTF (vs := [.d (uI qs Qd.r), .d (uI qs Qd.l)]) (ev_consF (ev_d (col_comp (k := 2) qs Qd.r h rfl rfl fun _ => rfl)) (ev_consF (ev_d (col_comp (k := 3) qs Qd.l h rfl rfl fun _ => rfl)) rfl)) (by simp) rfl
noncomputable def rdL (qs : List Qd) : D := fdL (fun e => ((rdy qs e : Nat) : Int)) (qs.length + 1)
theorem min2_nat (a b : Nat) : min2D [.int (a : Nat), .int (b : Nat)] = some (.int (min a b : Nat)) := by
  show some (D.int _) = _
  congr 2
  split <;> (first | lia | omega)
theorem ready_eq (h : qs.length ≤ 900) : readyF ⟨v3 R0 qs tu mo me ro la (dI (uI qs Qd.a)) (dI (uI qs Qd.m)) (dI (uI qs Qd.r)) (dI (uI qs Qd.l)) none none none none none none none none none none, [P, .dead], 0⟩ =
    some (.next, ⟨v3 R0 qs tu mo me ro la (dI (uI qs Qd.a)) (dI (uI qs Qd.m)) (dI (uI qs Qd.r)) (dI (uI qs Qd.l)) none (dI (rdL qs)) (some (.r 2)) none none none none none none none, [P, .dead, .list []], 0⟩) := by
  delta readyF
  refine ev_asTF (vs := [.d (rdL qs), .r 2]) (ev_consF (ev_d ?_) (ev_consF (ev_lnew rfl (by simp)) rfl)) (by simp) rfl
  refine ev_compM (List.range (qs.length + 1)) (fun i => D.int (i : Nat)) (fun e => D.int ((rdy qs e : Nat) : Int)) (ev_rg (d := [.int (qs.length + 1 : Nat)]) (ev_cons (ev_cb (ev_cons rfl rfl) (len_fdL (by (first | lia | omega)))) rfl) (rangeN (by (first | lia | omega)))) (by rw [List.length_range]; (first | lia | omega)) rfl rfl fun e he => ?_
  have he := List.mem_range.mp he
  exact ev_cb (ev_cons (a := .int ((upQ qs Qd.a e : Nat) : Int)) (ev_bin rfl rfl (idx_uI he h)) (ev_cons (a := .int ((upQ qs Qd.m e : Nat) : Int)) (ev_bin rfl rfl (idx_uI he h)) rfl)) (min2_nat _ _)
end
end Mine
end
section
set_option maxRecDepth 100000
namespace Mine
open PySem PySem.W

theorem idx_rdL {qs : List Qd} {e : Nat} (he : e < qs.length + 1) (h : qs.length ≤ 900) : idxD (rdL qs) (.int (e : Nat)) = some (.int ((rdy qs e : Nat) : Int)) := idx_fdL (g := fun t => ((rdy qs t : Nat) : Int)) he (by (first | lia | omega))
noncomputable def midBody : S → Option (Fl × S) := (seqF (extF 16 (compP 28 2 (rgP (consP (binP addD (vget 17) (cP (.int 1))) (nilP))) (Tgt.asg (.one 29)) (yesP) (binP subD (binP addD (binP subD (binP addD (binP idxD (vget 13) (vget 29)) (binP idxD (vget 10) (vget 17))) (binP idxD (vget 10) (vget 29))) (binP idxD (vget 11) (vget 12))) (binP idxD (vget 11) (vget 17))))) (skip))
noncomputable def dueBody : S → Option (Fl × S) := (seqF (asF (dF (cbP minLD (consP (compP 28 2 (rgP (consP (binP addD (vget 12) (cP (.int 1))) (nilP))) (Tgt.asg (.one 29)) (yesP) (binP subD (binP addD (binP idxD (vget 13) (vget 29)) (binP idxD (vget 10) (vget 12))) (binP idxD (vget 10) (vget 29)))) (nilP)))) (Tgt.asg (.one 15))) (seqF (asF (lnewF (nilP)) (Tgt.asg (.one 16))) (seqF (forF (pureF (rgP (consP (binP addD (vget 12) (cP (.int 1))) (nilP)))) (Tgt.asg (.one 17)) midBody) (frzF 16 (seqF (appF 14 (tupP (consP (vget 15) (consP (cbP minLD (consP (vget 16) (nilP))) (nilP))))) (skip))))))
section
variable (R0 : D) (qs : List Qd) (tu mo me ro la : Option V)
noncomputable def v4 (at' on so mi : Option V) : List (Option V) := v3 R0 qs tu mo me ro la (dI (uI qs Qd.a)) (dI (uI qs Qd.m)) (dI (uI qs Qd.r)) (dI (uI qs Qd.l)) at' (dI (rdL qs)) (some (.r 2)) on so mi none none none none
theorem set_last {H : List Cell} {c c' : Cell} : (H ++ [c]).set H.length c' = H ++ [c'] := by simp
theorem get_last {H : List Cell} {c : Cell} : (H ++ [c])[H.length]? = some c := by simp
theorem freeze_last {vars : List (Option V)} {i : Nat} {H : List Cell} {xs : List D} (hv : vars[i]? = some (some (.r H.length))) : freeze i ⟨vars, H ++ [.list xs], 0⟩ = some ⟨vars.set i (some (.d (.lst xs))), H ++ [.dead], 0⟩ := by
  simp [freeze, hv]
theorem midBody_eq (h : qs.length ≤ 900) (t m : Nat) (ht : t < qs.length + 1) (hm : m ≤ t) (on : Option V) (H : List Cell) (xs : List Int) (hx : xs.length ≤ 4096) :
    midBody ⟨v4 R0 qs tu mo me ro la (nI t) on (some (.r H.length)) (nI m), H ++ [.list (xs.map .int)], 0⟩ =
      some (.next, ⟨v4 R0 qs tu mo me ro la (nI t) on (some (.r H.length)) (nI m), H ++ [.list ((xs ++ midL (qAt qs) t m).map .int)], 0⟩) := by
  delta midBody
  refine seq_next (ev_ext (ds := (midL (qAt qs) t m).map .int) (r := (H.length, xs.map .int)) ?_ ?_ ?_) ?_
  · have hlen : (midL (qAt qs) t m).length = m + 1 := by simp [midL]
    have e1 : (midL (qAt qs) t m).map D.int = (List.range (m + 1)).map fun e : Nat => D.int (((rdy qs e : Nat) : Int) + ((upQ qs Qd.r m : Nat) : Int) - ((upQ qs Qd.r e : Nat) : Int) + ((upQ qs Qd.l t : Nat) : Int) - ((upQ qs Qd.l m : Nat) : Int)) := by
      unfold midL; rw [List.map_map]; rfl
    rw [e1]
    refine ev_compM (List.range (m + 1)) (fun i => D.int (i : Nat)) _ (ev_rg (d := [.int (m + 1 : Nat)]) rfl (rangeN (by (first | lia | omega)))) (by rw [List.length_range]; (first | lia | omega)) rfl rfl fun e he => ?_
    have he := List.mem_range.mp he
    exact ev_bin (ev_bin (ev_bin (ev_bin (ev_bin rfl rfl (idx_rdL (e := e) (by (first | lia | omega)) h)) (ev_bin rfl rfl (idx_uI (e := m) (by (first | lia | omega)) h)) rfl) (ev_bin rfl rfl (idx_uI (e := e) (by (first | lia | omega)) h)) rfl) (ev_bin rfl rfl (idx_uI (e := t) (by (first | lia | omega)) h)) rfl) (ev_bin rfl rfl (idx_uI (e := m) (by (first | lia | omega)) h)) rfl
  · unfold listR
    show ((some H.length).bind _) = _
    rw [Option.bind_some]
    show (match (H ++ [Cell.list (xs.map .int)])[H.length]? with | some (.list xs) => if 0 ≤ H.length then some (H.length, xs) else none | _ => none) = _
    rw [get_last]
    exact if_pos (Nat.zero_le _)
  · refine ⟨by simpa using hx, ?_⟩
    simp [midL]; (first | lia | omega)
  · show some (Fl.next, S.setCell _ _ _) = _
    unfold S.setCell
    show some (Fl.next, S.mk _ ((H ++ [Cell.list (xs.map .int)]).set H.length _) 0) = _
    rw [set_last, List.map_append]
theorem mid_loop (h : qs.length ≤ 900) (t : Nat) (ht : t < qs.length + 1) (on : Option V) (H : List Cell) : ∀ (ms : List Nat) (mi : Option V) (xs : List Int), (∀ m, m ∈ ms → m ≤ t) → xs.length + ms.length * (t + 1) ≤ 4096 →
    ∃ mi', forR (Tgt.asg (.one 17)) midBody (ms.map fun i : Nat => .int i) ⟨v4 R0 qs tu mo me ro la (nI t) on (some (.r H.length)) mi, H ++ [.list (xs.map .int)], 0⟩ =
      some (.next, ⟨v4 R0 qs tu mo me ro la (nI t) on (some (.r H.length)) mi', H ++ [.list ((xs ++ ms.flatMap (midL (qAt qs) t)).map .int)], 0⟩)
  | [], mi, xs, _, _ => ⟨mi, by simp [forR]⟩
  | m :: ms, mi, xs, hm, hx => by
    have hm0 := hm m (List.mem_cons_self ..)
    have hml : (midL (qAt qs) t m).length = m + 1 := by simp [midL]
    rw [List.length_cons, Nat.succ_mul] at hx
    obtain ⟨mi', ih⟩ := mid_loop h t ht on H ms (nI m) (xs ++ midL (qAt qs) t m) (fun m' h' => hm m' (List.mem_cons_of_mem _ h')) (by rw [List.length_append, hml]; (first | lia | omega))
    refine ⟨mi', ?_⟩
    rw [show xs ++ (m :: ms).flatMap (midL (qAt qs) t) = xs ++ midL (qAt qs) t m ++ ms.flatMap (midL (qAt qs) t) by simp]
    have hb := midBody_eq R0 qs tu mo me ro la h t m ht hm0 on H xs (Nat.le_trans (Nat.le_add_right _ _) hx)
    exact for_step rfl hb ih
theorem dueBody_eq (h : qs.length ≤ 30) (t : Nat) (ht : t < qs.length + 1) (on so mi : Option V) (P : Cell) (ds : List D) (E : List Cell) (hd : ds.length ≤ 1000) :
    ∃ on' so' mi', dueBody ⟨v4 R0 qs tu mo me ro la (nI t) on so mi, [P, .dead, .list ds] ++ E, 0⟩ =
      some (.next, ⟨v4 R0 qs tu mo me ro la (nI t) on' so' mi', [P, .dead, .list (ds ++ [prD (XY (qAt qs) t)])] ++ (E ++ [.dead]), 0⟩) := by
  obtain ⟨mi', hl⟩ := mid_loop R0 qs tu mo me ro la (by (first | lia | omega)) t ht (dI (.int ((XY (qAt qs) t).1 : Nat))) ([P, .dead, .list ds] ++ E) (List.range (t + 1)) mi [] (fun m hm => by have := List.mem_range.mp hm; (first | lia | omega))
    (by rw [List.length_range, List.length_nil, Nat.zero_add]; have h2 : (t + 1) * (t + 1) ≤ 31 * 31 := Nat.mul_le_mul (by (first | lia | omega)) (by (first | lia | omega)); exact Nat.le_trans h2 (by decide))
  refine ⟨dI (.int ((XY (qAt qs) t).1 : Nat)), dI (.lst (((List.range (t + 1)).flatMap (midL (qAt qs) t)).map .int)), mi', ?_⟩
  delta dueBody
  refine seq_next (σ' := ⟨v4 R0 qs tu mo me ro la (nI t) (dI (.int ((XY (qAt qs) t).1 : Nat))) so mi, [P, .dead, .list ds] ++ E, 0⟩) (ev_as (ev_d (ev_cb (ev_cons (a := .lst ((List.range (t + 1)).map fun e : Nat => D.int (((rdy qs e : Nat) : Int) + ((upQ qs Qd.r t : Nat) : Int) - ((upQ qs Qd.r e : Nat) : Int)))) ?_ rfl) ?_)) rfl) ?_
  · refine ev_compM (List.range (t + 1)) (fun i => D.int (i : Nat)) _ (ev_rg (d := [.int (t + 1 : Nat)]) rfl (rangeN (by (first | lia | omega)))) (by rw [List.length_range]; (first | lia | omega)) rfl rfl fun e he => ?_
    have he := List.mem_range.mp he
    exact ev_bin (ev_bin (ev_bin rfl rfl (idx_rdL (e := e) (by (first | lia | omega)) (by (first | lia | omega)))) (ev_bin rfl rfl (idx_uI (e := t) (by (first | lia | omega)) (by (first | lia | omega)))) rfl) (ev_bin rfl rfl (idx_uI (e := e) (by (first | lia | omega)) (by (first | lia | omega)))) rfl
  · have := one_is (qAt qs) t
    rw [List.map_map] at this
    exact this
  refine seq_next (σ' := ⟨v4 R0 qs tu mo me ro la (nI t) (dI (.int ((XY (qAt qs) t).1 : Nat))) (some (.r ([P, .dead, .list ds] ++ E).length)) mi, ([P, .dead, .list ds] ++ E) ++ [.list []], 0⟩) (ev_as (ev_lnew rfl (by simp)) rfl) ?_
  refine seq_next (ev_for (ev_pureF (ev_rg (d := [.int (t + 1 : Nat)]) rfl (rangeN (by (first | lia | omega))))) hl) ?_
  rw [List.nil_append]
  refine ev_frz (σ₁ := ⟨v4 R0 qs tu mo me ro la (nI t) (dI (.int ((XY (qAt qs) t).1 : Nat))) (dI (.lst (((List.range (t + 1)).flatMap (midL (qAt qs) t)).map .int))) mi', ([P, .dead, .list ds] ++ E) ++ [.dead], 0⟩) ?_ ?_
  · exact freeze_last rfl
  · refine seq_next (ev_app (d := prD (XY (qAt qs) t)) (r := (2, ds)) (ev_tup (ev_cons rfl (ev_cons (ev_cb (ev_cons rfl rfl) (two_is (qAt qs) t)) rfl)) (by simp)) rfl (by show ds.length ≤ _; (first | lia | omega))) ?_
    show some (Fl.next, S.mk _ _ _) = _
    congr 3
theorem due_loop (h : qs.length ≤ 30) (P : Cell) : ∀ (ts : List Nat) (at' on so mi : Option V) (ds : List D) (E : List Cell), (∀ t, t ∈ ts → t < qs.length + 1) → ds.length + ts.length ≤ 1000 →
    ∃ at₂ on₂ so₂ mi₂ E₂, forR (Tgt.asg (.one 12)) dueBody (ts.map fun i : Nat => .int i) ⟨v4 R0 qs tu mo me ro la at' on so mi, [P, .dead, .list ds] ++ E, 0⟩ =
      some (.next, ⟨v4 R0 qs tu mo me ro la at₂ on₂ so₂ mi₂, [P, .dead, .list (ds ++ ts.map fun t => prD (XY (qAt qs) t))] ++ E₂, 0⟩)
  | [], at', on, so, mi, ds, E, _, _ => ⟨at', on, so, mi, E, by simp [forR]⟩
  | t :: ts, at', on, so, mi, ds, E, ht, hd => by
    rw [List.length_cons] at hd
    obtain ⟨on', so', mi', hb⟩ := dueBody_eq R0 qs tu mo me ro la h t (ht t (List.mem_cons_self ..)) on so mi P ds E (by (first | lia | omega))
    obtain ⟨at₂, on₂, so₂, mi₂, E₂, ih⟩ := due_loop h P ts (nI t) on' so' mi' (ds ++ [prD (XY (qAt qs) t)]) (E ++ [.dead]) (fun t' h' => ht t' (List.mem_cons_of_mem _ h')) (by simp; (first | lia | omega))
    refine ⟨at₂, on₂, so₂, mi₂, E₂, ?_⟩
    rw [show ds ++ (t :: ts).map (fun t => prD (XY (qAt qs) t)) = ds ++ [prD (XY (qAt qs) t)] ++ ts.map (fun t => prD (XY (qAt qs) t)) by simp]
    exact for_step (σ₁ := ⟨v4 R0 qs tu mo me ro la (nI t) on so mi, [P, .dead, .list ds] ++ E, 0⟩) rfl hb ih
end
end Mine
end
section
set_option maxRecDepth 100000
namespace Mine
open PySem PySem.W

theorem allEq_self {e : D → D → Option Bool} : ∀ {xs : List D}, (∀ x, x ∈ xs → e x x = some true) → allEq e xs xs = some true
  | [], _ => rfl
  | x :: xs, h => by
    show ((e x x).bind fun a => (allEq e xs xs).bind fun b => some (a && b)) = _
    rw [h x (List.mem_cons_self ..), allEq_self fun y hy => h y (List.mem_cons_of_mem _ hy)]; rfl
theorem eqD_lst {xs : List D} (h : ∀ x, x ∈ xs → eqB 7 x x = some true) : eqD (.lst xs) (.lst xs) = some true := by
  show (if xs.length = xs.length then allEq (eqB 7) xs xs else some false) = _
  rw [if_pos rfl, allEq_self h]
theorem eq_pairs (ps : List (Nat × Nat)) : eqD (.lst (ps.map prD)) (.lst (ps.map prD)) = some true := by
  refine eqD_lst fun x hx => ?_
  obtain ⟨p, _, rfl⟩ := List.mem_map.mp hx
  show allEq (eqB 6) [D.int p.1, D.int p.2] [D.int p.1, D.int p.2] = _
  refine allEq_self fun y hy => ?_
  simp only [List.mem_cons, List.not_mem_nil, or_false] at hy
  rcases hy with rfl | rfl <;> simp [eqB]
theorem eq_nats (ps : List Nat) : eqD (.lst (ps.map fun p => D.int (p : Nat))) (.lst (ps.map fun p => D.int (p : Nat))) = some true := by
  refine eqD_lst fun x hx => ?_
  obtain ⟨p, _, rfl⟩ := List.mem_map.mp hx
  simp [eqB]
section
variable (R0 : D) (qs : List Qd)
noncomputable def runs (qs : List Qd) : D := .lst ((runL qs 0 0 0 0).map prD)
theorem run_d (h : tot qs ≤ 99) (hl : qs.length ≤ 900) {p : S → Option D} {σ : S} (hp : p σ = some (.lst (qs.map Qd.d))) : call0 g_run (consP (dV p) nilP) σ = some (runs qs) := by
  refine ev_call0 (ds := [.d (.lst (qs.map Qd.d))]) (ev_cons ?_ rfl) rfl (run_eq qs h hl)
  show ((p σ).map _) = _
  rw [hp]; rfl
theorem tot_const (p q : Nat) : tot (qs.map (Qd.const p q)) = tot qs := by
  unfold tot; rw [List.map_map]; rfl
theorem const_comp {σ : S} {p q : S → Option D} {a b : Nat} (hl : qs.length ≤ 900) (hv : vget 2 σ = some (.lst (qs.map Qd.d))) (h28 : σ.vars.length = 28)
    (hp : ∀ v : Option V, p ⟨σ.vars ++ [none, v], σ.heap, σ.heap.length⟩ = some (.int (a : Nat))) (hq : ∀ v : Option V, q ⟨σ.vars ++ [none, v], σ.heap, σ.heap.length⟩ = some (.int (b : Nat))) :
    compP 28 2 (itP (vget 2)) (Tgt.asg (.one 29)) (yesP) (tupP (consP (binP idxD (vget 29) (cP (.int 0))) (consP (binP idxD (vget 29) (cP (.int 1))) (consP p (consP q (nilP)))))) σ = some (.lst ((qs.map (Qd.const a b)).map Qd.d)) := by
  have e : compVars 28 2 σ.vars = σ.vars ++ [none, none] := by unfold compVars; rw [List.take_of_length_le (by (first | lia | omega)), h28]; simp
  rw [List.map_map]
  refine ev_compM qs Qd.d (Qd.d ∘ Qd.const a b) (ev_it hv rfl) (by (first | lia | omega)) (σ' := ⟨σ.vars ++ [none, none], σ.heap, σ.heap.length⟩) (by rw [e]) ?_ ?_
  · simp [S.setVar, List.set_append, h28]
  · intro c _
    have e2 : (S.setVar ⟨σ.vars ++ [none, none], σ.heap, σ.heap.length⟩ 29 (some (.d c.d))) = ⟨σ.vars ++ [none, some (.d c.d)], σ.heap, σ.heap.length⟩ := by simp [S.setVar, List.set_append, h28]
    rw [e2]
    have hv29 : vget 29 ⟨σ.vars ++ [none, some (.d c.d)], σ.heap, σ.heap.length⟩ = some c.d := by simp [vget, List.getElem?_append, h28]
    exact ev_tup (ev_cons (ev_bin hv29 rfl rfl) (ev_cons (ev_bin hv29 rfl rfl) (ev_cons (hp _) (ev_cons (hq _) rfl)))) (by simp)
theorem snd_comp {σ : S} {i : Nat} {ps : List (Nat × Nat)} (hl : ps.length ≤ 900) (hv : vget i σ = some (.lst (ps.map prD))) (h28 : σ.vars.length = 28) :
    compP 28 2 (itP (vget i)) (Tgt.asg (.one 29)) (yesP) (binP idxD (vget 29) (cP (.int 1))) σ = some (.lst ((ps.map (·.2)).map fun n => D.int (n : Nat))) := by
  have e : compVars 28 2 σ.vars = σ.vars ++ [none, none] := by unfold compVars; rw [List.take_of_length_le (by (first | lia | omega)), h28]; simp
  rw [List.map_map]
  refine ev_compM ps prD _ (ev_it hv rfl) (by (first | lia | omega)) (σ' := ⟨σ.vars ++ [none, none], σ.heap, σ.heap.length⟩) (by rw [e]) ?_ ?_
  · simp [S.setVar, List.set_append, h28]
  · intro c _
    refine ev_bin (a := prD c) ?_ rfl rfl
    simp [vget, S.setVar, List.set_append, h28]
end
end Mine
end
section
set_option maxRecDepth 100000
namespace Mine
open PySem PySem.W

theorem qAt_get {qs : List Qd} {i : Nat} {p : Qd} (h : qs[i]? = some p) : p = qAt qs i := by
  simp [qAt, List.getD_eq_getElem?_getD, h]
theorem due_is (qs : List Qd) : ((List.range' 1 qs.length).map fun t => prD (XY (qAt qs) t)) = (runL qs 0 0 0 0).map prD := by
  have := runL_XY (qAt qs) qs 0 fun i p h => by rw [Nat.zero_add]; exact qAt_get h
  rw [show runL qs 0 0 0 0 = (List.range' 1 qs.length).map (XY (qAt qs)) from this, List.map_map]
  rfl
theorem range_two {a b : Int} (h : (-1000000 < a ∧ a < 1000000) ∧ (-1000000 < b ∧ b < 1000000)) : rangeD [.int a, .int b] = some ((upto a b).map .int) := if_pos h
theorem range_from1 {n : Nat} (h : n < 10000) : rangeD [.int 1, .int (n + 1 : Nat)] = some ((List.range' 1 n).map fun i : Nat => D.int i) := by
  rw [range_two (by (first | lia | omega))]
  congr 1
  unfold upto
  rw [List.map_map, show (((n + 1 : Nat) : Int) - 1).toNat = n by (first | lia | omega), List.range'_eq_map_range, List.map_map]
  refine List.map_congr_left fun i _ => ?_
  show D.int (1 + (i : Int)) = D.int ((1 + i : Nat) : Int)
  congr 1
theorem slice21 (l : List Int) (h : l.length ≤ 63) : sliceD (.lst (l.map .int)) none (some 21) = some (.lst ((l.take 21).map .int)) := by
  show (if _ then _ else _) = _
  rw [if_pos ⟨by rw [List.length_map]; (first | lia | omega), by decide, by decide⟩]
  show some (D.lst ((l.map D.int).take 21)) = _
  rw [List.map_take]
section
variable (R0 : D) (l : List Int)
noncomputable def poolF : S → Option (Fl × S) := (asF (lnewF (consP (compP 28 2 (itP (sliceP (vget 0) (noP) (partP (cP (.int 21))))) (Tgt.asg (.one 29)) (yesP) (cbP intD (consP (vget 29) (nilP)))) (consP (cP (.int 0)) (nilP)))) (Tgt.asg (.one 1)))
theorem pool_eq (h : l.length ≤ 63) : poolF ⟨lv (.lst (l.map .int)) none none none none none none none none none none none none none none none none none none none none none, [], 0⟩ =
    some (.next, ⟨lv (.lst (l.map .int)) (some (.r 0)) none none none none none none none none none none none none none none none none none none none none, [poolC (l.take 21) 0], 0⟩) := by
  delta poolF
  refine ev_as (ev_lnew (ds := [.lst ((l.take 21).map .int), .int 0]) (ev_cons ?_ rfl) (by simp)) rfl
  refine ev_compM (l.take 21) D.int D.int (ev_it (ev_slice (x := none) (y := some 21) rfl rfl rfl (slice21 l h)) rfl) (by rw [List.length_take]; (first | lia | omega)) rfl rfl fun n _ => ?_
  exact ev_cb (ev_cons rfl rfl) rfl
end
theorem law_eq (l : List Int) (h : l.length ≤ 63) : g_law [.d (.lst (l.map .int))] [] 0 = some (.bool true, []) := by
  have hns : (l.take 21).length ≤ 1000 := by rw [List.length_take]; (first | lia | omega)
  obtain ⟨n, hn, hn3, hn5⟩ : ∃ n : Nat, 3 + drawn (l.take 21) 0 3 = (n : Int) ∧ 3 ≤ n ∧ n ≤ 5 := by
    have := drawn_range (ns := l.take 21) (k := 0) (m := 3) (by (first | lia | omega))
    exact ⟨(3 + drawn (l.take 21) 0 3).toNat, by (first | lia | omega), by (first | lia | omega), by (first | lia | omega)⟩
  obtain ⟨tu, mo, me, ro, la, hrows⟩ := rows_loop (.lst (l.map .int)) (l.take 21) hns ((List.range n).map fun i : Nat => D.int i) none none none none none 1 [] (by simp; (first | lia | omega)) (by simp; (first | lia | omega))
  rw [List.length_map, List.length_range, List.nil_append] at hrows
  have hql := rowsAt_length (l.take 21) n 1
  have hqt := rowsAt_tot (l.take 21) n 1
  generalize rowsAt (l.take 21) 1 n = qs at hrows hql hqt
  generalize hP : poolC (l.take 21) (1 + 4 * n) = P at hrows
  obtain ⟨at₂, on₂, so₂, mi₂, E, hdue⟩ := due_loop (.lst (l.map .int)) qs tu mo me ro la (by (first | lia | omega)) P (List.range' 1 qs.length) none none none none [] [] (fun t ht => by have := List.mem_range'_1.mp ht; (first | lia | omega)) (by simp; (first | lia | omega))
  rw [List.nil_append, due_is] at hdue
  match qs, hql with
  | [], hql => simp at hql; (first | lia | omega)
  | q0 :: qr, hql =>
  generalize hqs : q0 :: qr = qs at *
  have h0 : getI (qs.map Qd.d) 0 = some q0.d := by rw [← hqs]; rfl
  have hq9 : qs.length ≤ 900 := by (first | lia | omega)
  have ht9 : tot qs ≤ 99 := by (first | lia | omega)
  have hrl : ∀ cs : List Qd, cs.length = qs.length → (runL cs 0 0 0 0).length ≤ 900 := fun cs hc => by rw [runL_length]; (first | lia | omega)
  have hlen : ∀ a b, (qs.map (Qd.const a b)).length ≤ 900 := fun a b => by rw [List.length_map]; exact hq9
  have htc : ∀ a b, tot (qs.map (Qd.const a b)) ≤ 99 := fun a b => by rw [tot_const]; exact ht9
  have hrc : ∀ a b, (runL (qs.map (Qd.const a b)) 0 0 0 0).length ≤ 900 := fun a b => hrl _ (by simp)
  have s1 := run_same q0.r q0.l qs 0 0 0 0 (by (first | lia | omega)) (fun _ => rfl) (by (first | lia | omega))
  have s2 := run_same q0.l q0.r qs 0 0 0 0 (by (first | lia | omega)) (fun _ => rfl) (by (first | lia | omega))
  rw [Nat.min_comm q0.l q0.r] at s2
  let vf (du : Option V) (on so ot ev tn al : Option V) : List (Option V) := v3 (.lst (l.map .int)) qs tu mo me ro la (dI (uI qs Qd.a)) (dI (uI qs Qd.m)) (dI (uI qs Qd.r)) (dI (uI qs Qd.l)) at₂ (dI (rdL qs)) du on so mi₂ ot ev tn al
  refine run_ret ⟨lv (.lst (l.map .int)) none none none none none none none none none none none none none none none none none none none none none, [], 0⟩ rfl rfl
    (σ' := ⟨vf (dI (runs qs)) (nI q0.r) so₂ (nI q0.l) (dI (runs (qs.map (Qd.const q0.r q0.l)))) (dI (runs (qs.map (Qd.const q0.l q0.r)))) (dI (runs (qs.map (Qd.const (min q0.r q0.l) 99)))), [P, .dead, .dead] ++ E, 0⟩) ?_
  delta b_law
  refine seq_next (pool_eq l h) ?_
  refine seq_next (σ' := ⟨pv (.lst (l.map .int)) none none none none none, [poolC (l.take 21) 0, .list []], 0⟩) (ev_as (ev_lnew rfl (by simp)) rfl) ?_
  refine seq_next (ev_for (ev_rng (d := .int n) (ev_binF (ev_d rfl) (pool_draw (l.take 21) 0 3 (by (first | lia | omega)) (by (first | lia | omega)) hns rfl rfl rfl rfl rfl) ?_) (rangeN (by (first | lia | omega)))) hrows) ?_
  · show some (D.int _) = _
    exact congrArg (fun i => some (D.int i)) hn
  refine ev_frz (σ₁ := ⟨v3 (.lst (l.map .int)) qs tu mo me ro la none none none none none none none none none none none none none none, [P, .dead], 0⟩) rfl ?_
  refine seq_next (sums2_eq (.lst (l.map .int)) qs tu mo me ro la P hq9) ?_
  refine seq_next (sums3_eq (.lst (l.map .int)) qs tu mo me ro la P hq9) ?_
  refine seq_next (ready_eq (.lst (l.map .int)) qs tu mo me ro la P hq9) ?_
  refine seq_next (ev_for (ev_pureF (ev_rg (d := [.int 1, .int (qs.length + 1 : Nat)]) (ev_cons rfl (ev_cons (ev_cb (ev_cons rfl rfl) (len_fdL (by (first | lia | omega)))) rfl)) (range_from1 (by (first | lia | omega))))) hdue) ?_
  refine ev_frz (σ₁ := ⟨vf (dI (runs qs)) on₂ so₂ none none none none, [P, .dead, .dead] ++ E, 0⟩) rfl ?_
  refine seq_next (ev_if_f (ev_cmp (a := runs qs) (b := runs qs) (run_d qs ht9 hq9 rfl) rfl ?_) rfl) ?_
  · show ((eqD (runs qs) (runs qs)).map (!·)) = _
    rw [show eqD (runs qs) (runs qs) = some true from eq_pairs _]; rfl
  refine seq_next (σ' := ⟨vf (dI (runs qs)) (nI q0.r) so₂ (nI q0.l) none none none, [P, .dead, .dead] ++ E, 0⟩) (ev_asTF (vs := [.d (.int q0.r), .d (.int q0.l)]) (ev_consF (ev_d (ev_bin (ev_bin rfl rfl h0) rfl rfl)) (ev_consF (ev_d (ev_bin (ev_bin rfl rfl h0) rfl rfl)) rfl)) (by simp) rfl) ?_
  refine seq_next (σ' := ⟨vf (dI (runs qs)) (nI q0.r) so₂ (nI q0.l) (dI (runs (qs.map (Qd.const q0.r q0.l)))) none none, [P, .dead, .dead] ++ E, 0⟩) (ev_as (ev_d (run_d _ (htc _ _) (hlen _ _) (const_comp qs hq9 rfl rfl (fun v => rfl) (fun v => rfl)))) rfl) ?_
  refine seq_next (σ' := ⟨vf (dI (runs qs)) (nI q0.r) so₂ (nI q0.l) (dI (runs (qs.map (Qd.const q0.r q0.l)))) (dI (runs (qs.map (Qd.const q0.l q0.r)))) none, [P, .dead, .dead] ++ E, 0⟩) (ev_as (ev_d (run_d _ (htc _ _) (hlen _ _) (const_comp qs hq9 rfl rfl (fun v => rfl) (fun v => rfl)))) rfl) ?_
  refine seq_next (σ' := ⟨vf (dI (runs qs)) (nI q0.r) so₂ (nI q0.l) (dI (runs (qs.map (Qd.const q0.r q0.l)))) (dI (runs (qs.map (Qd.const q0.l q0.r)))) (dI (runs (qs.map (Qd.const (min q0.r q0.l) 99)))), [P, .dead, .dead] ++ E, 0⟩) (ev_as (ev_d (run_d _ (htc _ _) (hlen _ _) (const_comp qs hq9 rfl rfl (fun v => ev_cb (ev_cons rfl (ev_cons rfl rfl)) (min2_nat _ _)) (fun v => rfl)))) rfl) ?_
  refine seq_next (ev_if_f rfl rfl) ?_
  refine seq_ret (ev_ret (ev_d ?_))
  have c1 := snd_comp (σ := ⟨vf (dI (runs qs)) (nI q0.r) so₂ (nI q0.l) (dI (runs (qs.map (Qd.const q0.r q0.l)))) (dI (runs (qs.map (Qd.const q0.l q0.r)))) (dI (runs (qs.map (Qd.const (min q0.r q0.l) 99)))), [P, .dead, .dead] ++ E, 0⟩) (i := 19) (hrc q0.r q0.l) rfl rfl
  have c2 := snd_comp (σ := ⟨vf (dI (runs qs)) (nI q0.r) so₂ (nI q0.l) (dI (runs (qs.map (Qd.const q0.r q0.l)))) (dI (runs (qs.map (Qd.const q0.l q0.r)))) (dI (runs (qs.map (Qd.const (min q0.r q0.l) 99)))), [P, .dead, .dead] ++ E, 0⟩) (i := 20) (hrc q0.l q0.r) rfl rfl
  have c3 := snd_comp (σ := ⟨vf (dI (runs qs)) (nI q0.r) so₂ (nI q0.l) (dI (runs (qs.map (Qd.const q0.r q0.l)))) (dI (runs (qs.map (Qd.const q0.l q0.r)))) (dI (runs (qs.map (Qd.const (min q0.r q0.l) 99)))), [P, .dead, .dead] ++ E, 0⟩) (i := 21) (hrc (min q0.r q0.l) 99) rfl rfl
  rw [s1] at c1
  rw [s2] at c2
  unfold chainP
  rw [c1, Option.bind_some, c2, Option.bind_some, c3, Option.bind_some, eq_nats, Option.bind_some]
  rfl
end Mine
end
section
namespace Mine
open PySem PySem.W PyProof.Rows

theorem rep_ints {P : Params} {h : Heap} {N : Addr → Prop} : ∀ {l : List Int} {vs : List Value}, WellAll P h vs (ofPys (l.map .int)) → RepDs N h (l.map .int) vs
  | [], vs, x => by cases x; rfl
  | n :: l, vs, x => by
    cases x with
    | cons x1 x2 =>
      cases x1
      exact ⟨_, _, rfl, ⟨_, rfl⟩, rep_ints x2⟩
theorem rep_arg {P : Params} {h : Heap} {N : Addr → Prop} (hN : ∀ a, ¬ N a) {a : Addr} {l : List Int} (x : Well P h (.ref a) (ofPy (.list (l.map .int)))) : RepD N h (.lst (l.map .int)) (.ref a) := by
  cases x with
  | list ho xs => exact ⟨a, _, _, rfl, hN a, ho, rep_ints xs⟩
theorem led_none {h₀ : Heap} : Led h₀ (fun _ => False) [] [] h₀ :=
  have no : ∀ a, ¬ Live 0 [] [] a := fun a ⟨k, _, p, c, hp, _⟩ => by simp at hp
  ⟨fun _ _ e => e, rfl, fun k p c hp => by simp at hp, fun a x => x.elim, fun a x => x.elim False.elim fun q => absurd q (no a), fun k k' a ⟨p, c, hp, _⟩ => by simp at hp, fun a q => absurd q (no a)⟩
end Mine
end
section
namespace Mine
open PySem PySem.W PyProof.Rows
set_option maxRecDepth 100000
theorem fill_JB : (PySem.Challenge.rw_tk0097_02 = PySem.Challenge.rw_tk0097_02) ∧ hd.heap_39 = hd.heap_39 := by
  k_fill
  exact ⟨rfl, rfl⟩
set_option maxHeartbeats 8000000
theorem cls_178 {T : TI} (hK : T.K = hd.heap_39 T.w.params) : ClsOk T 178 := by
  refine ⟨?_, ?_, ?_, ?_, ?_, ?_⟩
  · rw [hK]; k_is
  · rw [hK]; k_is
  · rw [hK]; k_is
  · rw [hK]; k_is
  · rw [hK]; k_is
  · rw [hK]
    intro a ha
    simp only [attrNames, List.mem_cons, List.not_mem_nil, or_false] at ha
    rcases ha with rfl | rfl | rfl | rfl | rfl | rfl | rfl | rfl | rfl | rfl | rfl <;> k_is
theorem open_states {K : Frag} {h : Heap} {mg : Str → Option Value} {P : Params} (hK : K = hd.heap_39 P) (X : K.In h) (g : h.Ns mainGlobals mg) : ∃ v, mg "OPEN_STATES" = some v ∧ RepD (fun _ => False) h (.tup [.str "ready", .str "send"]) v := by
  subst hK
  refine ⟨.ref 56, mg_of X g (by k_is), ?_⟩
  refine ⟨56, [.str "ready" ?t, .str "send" ?u], ?n, rfl, fun q => q, X _ _ ?h, ⟨_, _, rfl, ⟨_, rfl⟩, ⟨_, _, rfl, ⟨_, rfl⟩, rfl⟩⟩⟩
  case h => rfl
theorem fin {w : World} {s₀ s₁ : Shared} {mg mb : Str → Option Value} {fa w2 : Addr} {l : List Int} (KX : (hd.heap_39 w.params).In s₁.heap) (hfa : mg "law" = some (.ref fa)) (g : s₁.heap.Ns mainGlobals mg) (b : s₁.heap.Ns builtinsNs mb)
    (hb : ∀ x : Str, x ≠ "__name__" → mb x = bootBuiltins x) (nl : s₁.heap.NoLimit) (hg : s₁.gens = #[]) (x : Well w.params s₁.heap (.ref w2) (ofPy (.list (l.map .int)))) (hl : ¬ (63 : Int) < l.length) :
    codeAny (model PySem.Challenge.rw_tk0097_02.row.prog w) callerA (.call (.ref fa) ⟨[.ref w2], []⟩) (GoodWG PySem.Challenge.rw_tk0097_02.row.claim (classAt s₀.heap) (ExcName.means s₀.heap) [ofPy (.list (l.map .int))] s₁) s₁ := by
  have e : fa = 213 := by
    have : mg "law" = some (.ref 213) := mg_of KX g (by k_is)
    rw [this] at hfa
    injection hfa with q
    injection q with q
    exact q.symm
  subst e
  let T : TI := ⟨PySem.Challenge.rw_tk0097_02.row.prog, w, s₁.heap, hd.heap_39 w.params, mg, mb, KX, g, b, hb, nl⟩
  have k : FnOk T 5 (.ref 213) g_law := k_law (T := T) rfl (cls_178 rfl) (open_states rfl KX g)
  have no : ∀ a, ¬ (False ∨ Live 0 [] [] a) := fun a q => q.elim id fun ⟨k, _, p, c, hp, _⟩ => by simp at hp
  refine k callerA (fun _ => False) [] [] 0 [.d (.lst (l.map .int))] (.bool true) [] [.ref w2] s₁ _ ⟨rfl, by decide, by decide⟩ (law_eq l (by (first | lia | omega))) led_none ⟨_, _, rfl, rep_arg no x, rfl⟩ ?_
  intro v h' tk st led r
  obtain rfl : v = .bool true := r
  refine ⟨.inl ⟨.bool true, .bool true, [], rfl, ?_, .bool true, ?_, ?_⟩, .of_keep fun b o ho => st.keep b o (fun q => no b (.inr q)) ho, rfl, .of_eq hg⟩
  · intro cls; rfl
  · wrow_post
  · intro _; exact ⟨List.nodup_nil, fun a ha => by cases ha⟩
end Mine
end
set_option maxRecDepth 100000 in
set_option maxHeartbeats 8000000 in
theorem PySem.Challenge.cw_tk0097_02_holds : PySem.Challenge.rw_tk0097_02.Holds := by
  refine Mine.hd ?_
  intro w s₀ s₁ mg mb G Y fa o pm cd doc dV kV ho hd' hcd hD hmg hg args vals as hpre hlay hrd hwl hlo
  have KX := PySem.W.kIn_of Y
  have hfa : mg "law" = some (.ref fa) := hmg
  clear hd' hcd hD ho hmg
  refine PySem.W.Ground.open G ?_
  intro T B D TE TW
  wrow_args hpre hlay hrd hwl hlo
  all_goals refine PySem.W.enter_call ?_
  all_goals exact Mine.fin KX hfa T.g T.b T.builtins T.nolimit hg (by assumption) (by assumption)
