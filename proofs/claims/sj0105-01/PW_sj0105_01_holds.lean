import PyProof.Rows.All
import Wide.All
import OpenK.AllK
import Wide.FinOn
import Lean
import PySem.Challenge.RW_sj0105_01
open PySem PySem.W PySem.Calls PyProof.Rows
set_option Elab.async false
set_option linter.all false
set_option maxRecDepth 100000
set_option maxHeartbeats 8000000
namespace Mine
set_option autoImplicit false
theorem le_dd {d a b : Nat} (e : Nat.ble a b = true) : d + a ≤ d + b := Nat.add_le_add_left (Nat.le_of_ble_eq_true e) d
theorem le_to {x a b : Nat} (h : x ≤ a) (e : Nat.ble a b = true) : x ≤ b := Nat.le_trans h (Nat.le_of_ble_eq_true e)
local macro_rules | `(tactic| walk_at "om") => `(tactic| first | assumption | exact Nat.le_of_ble_eq_true rfl | exact le_dd rfl | exact Nat.le_add_right _ _ | (refine le_to (by assumption) ?_; exact rfl) | lia | omega)
inductive V where
  | none
  | bool (b : Bool)
  | int (i : Int)
  | str (s : Str)
  | tup (vs : List V)
  | ref (n : Nat)
  | val (v : Value)
  | rng (n : Int)

/-- a part of a key that is a tuple -/
inductive KI where
  | i (n : Int)
  | s (x : Str)
  | t (l : List Int)
  deriving DecidableEq
noncomputable def KI.v : KI → V
  | .i n => .int n
  | .s x => .str x
  | .t l => .tup (l.map .int)
noncomputable def keyV (k : List KI) : V := .tup (k.map KI.v)
noncomputable def KI.ok : KI → Bool
  | .s x => PyData.strOk x
  | _ => true
noncomputable def keyOk (k : List KI) : Bool := k.all KI.ok

inductive O where
  | list (vs : List V)
  | idict (es : List (Int × V))
  | kdict (es : List (List KI × V))
  | ns (fs : List (Str × V))
  | inst (c : Addr) (n : Nat)

noncomputable abbrev tupObj (items : List Value) : Obj := { cls := .type "tuple", data := .seq items.toArray }
noncomputable abbrev listObj (items : List Value) (ep : Nat) : Obj := { cls := .type "list", data := .seq items.toArray ep }
noncomputable abbrev dictObj (es : List DictEntry) (ep : Nat) : Obj := { cls := .type "dict", data := .dict es.toArray ep }

mutual
inductive VR (ρ : List Addr) (h : Heap) : V → Value → Prop
  | none : VR ρ h .none .none
  | bool (b : Bool) : VR ρ h (.bool b) (.bool b)
  | int (i : Int) (t : Tok) : VR ρ h (.int i) (.int i t)
  | str (s : Str) (t : Tok) : VR ρ h (.str s) (.str s t)
  | tup {a : Addr} {items : List Value} {vs : List V} : h.get? a = some (tupObj items) → VRs ρ h vs items → VR ρ h (.tup vs) (.ref a)
  | ref {n : Nat} {a : Addr} : ρ[n]? = some a → VR ρ h (.ref n) (.ref a)
  | val (v : Value) : VR ρ h (.val v) v
  | rng {a : Addr} {n : Int} {t u v : Tok} : IsRange h a 0 n 1 t u v → VR ρ h (.rng n) (.ref a)
inductive VRs (ρ : List Addr) (h : Heap) : List V → List Value → Prop
  | nil : VRs ρ h [] []
  | cons {v : V} {x : Value} {vs : List V} {xs : List Value} : VR ρ h v x → VRs ρ h vs xs → VRs ρ h (v :: vs) (x :: xs)
end

/-- what never changes -/
noncomputable def Imm (o : Obj) : Prop := (o.cls = .type "tuple" ∧ ∃ xs ep, o.data = .seq xs ep) ∨ (o.cls = .type "range" ∧ ∃ xs, o.data = .fields xs)
theorem imm_tup (items : List Value) : Imm (tupObj items) := .inl ⟨rfl, _, _, rfl⟩
noncomputable def TupKeep (h h' : Heap) : Prop := ∀ t o, Imm o → h.get? t = some o → h'.get? t = some o
theorem TupKeep.of {h h' : Heap} (k : ∀ b o, h.get? b = some o → h'.get? b = some o) : TupKeep h h' := fun t o _ e => k t o e
theorem TupKeep.trans {h h' h'' : Heap} (x : TupKeep h h') (y : TupKeep h' h'') : TupKeep h h'' := fun t o i e => y t o i (x t o i e)

mutual
theorem VR.mono {ρ ρ' : List Addr} {h h' : Heap} (hp : ∃ t, ρ' = ρ ++ t) (ht : TupKeep h h') : ∀ {v : V} {x : Value}, VR ρ h v x → VR ρ' h' v x
  | _, _, .none => .none
  | _, _, .bool b => .bool b
  | _, _, .int i t => .int i t
  | _, _, .str s t => .str s t
  | _, _, .tup ha hs => .tup (ht _ _ (imm_tup _) ha) (VRs.mono hp ht hs)
  | _, _, .ref (n := n) (a := a) hn => .ref (by
      obtain ⟨t, rfl⟩ := hp
      rw [List.getElem?_append_left (List.getElem?_eq_some_iff.mp hn).1]; exact hn)
  | _, _, .val v => .val v
  | _, _, .rng hr => .rng (ht _ _ (.inr ⟨rfl, _, rfl⟩) hr)
theorem VRs.mono {ρ ρ' : List Addr} {h h' : Heap} (hp : ∃ t, ρ' = ρ ++ t) (ht : TupKeep h h') : ∀ {vs : List V} {xs : List Value}, VRs ρ h vs xs → VRs ρ' h' vs xs
  | _, _, .nil => .nil
  | _, _, .cons a b => .cons (VR.mono hp ht a) (VRs.mono hp ht b)
end

theorem VRs.length {ρ : List Addr} {h : Heap} : ∀ {vs : List V} {xs : List Value}, VRs ρ h vs xs → xs.length = vs.length
  | _, _, .nil => rfl
  | _, _, .cons _ b => by rw [List.length_cons, List.length_cons, VRs.length b]
theorem VRs.get {ρ : List Addr} {h : Heap} : ∀ {vs : List V} {xs : List Value} {i : Nat} {v : V}, VRs ρ h vs xs → vs[i]? = some v → ∃ x, xs[i]? = some x ∧ VR ρ h v x
  | _, _, _, _, .nil, e => by simp at e
  | _, _, 0, _, .cons a _, e => by simp only [List.getElem?_cons_zero, Option.some.injEq] at e ⊢; subst e; exact ⟨_, rfl, a⟩
  | _, _, i + 1, _, .cons _ b, e => by simp only [List.getElem?_cons_succ] at e ⊢; exact VRs.get b e
theorem VRs.append {ρ : List Addr} {h : Heap} : ∀ {vs ws : List V} {xs ys : List Value}, VRs ρ h vs xs → VRs ρ h ws ys → VRs ρ h (vs ++ ws) (xs ++ ys)
  | _, _, _, _, .nil, b => b
  | _, _, _, _, .cons a r, b => .cons a (VRs.append r b)
theorem VRs.set {ρ : List Addr} {h : Heap} : ∀ {vs : List V} {xs : List Value} {v : V} {x : Value} (i : Nat), VRs ρ h vs xs → VR ρ h v x → VRs ρ h (vs.set i v) (xs.set i x)
  | _, _, _, _, _, .nil, _ => .nil
  | _, _, _, _, 0, .cons _ r, b => .cons b r
  | _, _, _, _, i + 1, .cons a r, b => .cons a (VRs.set i r b)
theorem VRs.take {ρ : List Addr} {h : Heap} : ∀ {vs : List V} {xs : List Value} (i : Nat), VRs ρ h vs xs → VRs ρ h (vs.take i) (xs.take i)
  | _, _, 0, _ => by simp only [List.take_zero]; exact .nil
  | _, _, _ + 1, .nil => .nil
  | _, _, i + 1, .cons a r => .cons a (VRs.take i r)
theorem VRs.drop {ρ : List Addr} {h : Heap} : ∀ {vs : List V} {xs : List Value} (i : Nat), VRs ρ h vs xs → VRs ρ h (vs.drop i) (xs.drop i)
  | _, _, 0, r => r
  | _, _, _ + 1, .nil => .nil
  | _, _, i + 1, .cons _ r => VRs.drop i r
theorem VRs.reverse {ρ : List Addr} {h : Heap} {vs : List V} {xs : List Value} (r : VRs ρ h vs xs) : VRs ρ h vs.reverse xs.reverse := by
  induction vs generalizing xs with
  | nil => cases r; exact .nil
  | cons v vs ih => cases r with | cons a b => rw [List.reverse_cons, List.reverse_cons]; exact (ih b).append (.cons a .nil)

/-- the hash of a key, by value -/
noncomputable def KI.hash (P : Params) : KI → Int
  | .i n => hashInt n
  | .s x => PyData.keyHash P x
  | .t l => reduceHash (Builtin.Tuple.tupleHashOf (l.map hashInt))
noncomputable def hashK (P : Params) (k : List KI) : Int := reduceHash (Builtin.Tuple.tupleHashOf (k.map (KI.hash P)))

inductive KRs (P : Params) (ρ : List Addr) (h : Heap) : List (List KI × V) → List DictEntry → Prop
  | nil : KRs P ρ h [] []
  | cons {k : List KI} {v : V} {e : DictEntry} {es : List (List KI × V)} {ds : List DictEntry} : keyOk k = true → e.hash = hashK P k → VR ρ h (keyV k) e.key → VR ρ h v e.val → KRs P ρ h es ds → KRs P ρ h ((k, v) :: es) (e :: ds)
inductive IRs (ρ : List Addr) (h : Heap) : List (Int × V) → List DictEntry → Prop
  | nil : IRs ρ h [] []
  | cons {k : Int} {t : Tok} {v : V} {e : DictEntry} {es : List (Int × V)} {ds : List DictEntry} : e.hash = hashInt k → e.key = .int k t → VR ρ h v e.val → IRs ρ h es ds → IRs ρ h ((k, v) :: es) (e :: ds)
inductive NRs (ρ : List Addr) (h : Heap) : List (Str × V) → List DictEntry → Prop
  | nil : NRs ρ h [] []
  | cons {x : Str} {t : Tok} {v : V} {e : DictEntry} {es : List (Str × V)} {ds : List DictEntry} : e.key = .str x t → VR ρ h v e.val → NRs ρ h es ds → NRs ρ h ((x, v) :: es) (e :: ds)

theorem KRs.mono {P : Params} {ρ ρ' : List Addr} {h h' : Heap} (hp : ∃ t, ρ' = ρ ++ t) (ht : TupKeep h h') : ∀ {vs : List (List KI × V)} {xs : List DictEntry}, KRs P ρ h vs xs → KRs P ρ' h' vs xs
  | _, _, .nil => .nil
  | _, _, .cons o a b c d => .cons o a (b.mono hp ht) (c.mono hp ht) (KRs.mono hp ht d)
theorem IRs.mono {ρ ρ' : List Addr} {h h' : Heap} (hp : ∃ t, ρ' = ρ ++ t) (ht : TupKeep h h') : ∀ {vs : List (Int × V)} {xs : List DictEntry}, IRs ρ h vs xs → IRs ρ' h' vs xs
  | _, _, .nil => .nil
  | _, _, .cons a b c d => .cons a b (c.mono hp ht) (IRs.mono hp ht d)
theorem NRs.mono {ρ ρ' : List Addr} {h h' : Heap} (hp : ∃ t, ρ' = ρ ++ t) (ht : TupKeep h h') : ∀ {vs : List (Str × V)} {xs : List DictEntry}, NRs ρ h vs xs → NRs ρ' h' vs xs
  | _, _, .nil => .nil
  | _, _, .cons a b c => .cons a (b.mono hp ht) (NRs.mono hp ht c)

/-- an object of the call's own, in the heap -/
noncomputable def OR (P : Params) (ρ : List Addr) (h : Heap) : O → Addr → Prop
  | .list vs, a => ∃ (items : List Value) (ep : Nat), h.get? a = some (listObj items ep) ∧ VRs ρ h vs items
  | .idict es, a => ∃ ds ep, h.get? a = some (dictObj ds ep) ∧ IRs ρ h es ds ∧ (es.map (·.1)).Nodup
  | .kdict es, a => ∃ ds ep, h.get? a = some (dictObj ds ep) ∧ KRs P ρ h es ds ∧ (es.map (·.1)).Nodup
  | .ns fs, a => ∃ ds ep, h.get? a = some (dictObj ds ep) ∧ NRs ρ h fs ds ∧ (fs.map (·.1)).Nodup
  | .inst c n, a => ∃ d, ρ[n]? = some d ∧ h.get? a = some (instObj c d)

structure HR (P : Params) (ρ : List Addr) (H : List O) (h : Heap) : Prop where
  len : ρ.length = H.length
  nod : ρ.Nodup
  obj : ∀ (i : Nat) (o : O) (a : Addr), H[i]? = some o → ρ[i]? = some a → OR P ρ h o a

theorem OR.there {P : Params} {ρ : List Addr} {h : Heap} {o : O} {a : Addr} (x : OR P ρ h o a) : ∃ ob, h.get? a = some ob ∧ ¬ Imm ob := by
  cases o with
  | list vs => obtain ⟨i, ep, e, _⟩ := x; exact ⟨_, e, fun q => by rcases q with ⟨q, _⟩ | ⟨q, _⟩ <;> simp at q⟩
  | idict es => obtain ⟨i, ep, e, _⟩ := x; exact ⟨_, e, fun q => by rcases q with ⟨q, _⟩ | ⟨q, _⟩ <;> simp at q⟩
  | kdict es => obtain ⟨i, ep, e, _⟩ := x; exact ⟨_, e, fun q => by rcases q with ⟨q, _⟩ | ⟨q, _⟩ <;> simp at q⟩
  | ns fs => obtain ⟨i, ep, e, _⟩ := x; exact ⟨_, e, fun q => by rcases q with ⟨q, _⟩ | ⟨q, _⟩ <;> simp at q⟩
  | inst c n => obtain ⟨d, _, e⟩ := x; exact ⟨_, e, fun q => by rcases q with ⟨q, _⟩ | ⟨q, _⟩ <;> simp at q⟩

theorem HR.own {P : Params} {ρ : List Addr} {H : List O} {h : Heap} (x : HR P ρ H h) {a : Addr} (ha : a ∈ ρ) : ∃ ob, h.get? a = some ob ∧ ¬ Imm ob := by
  obtain ⟨i, hi⟩ := List.mem_iff_getElem?.mp ha
  have hl : i < H.length := by rw [← x.len]; exact (List.getElem?_eq_some_iff.mp hi).1
  exact (x.obj i H[i] a (List.getElem?_eq_getElem hl) hi).there

/-- what a step leaves: all but the call's own objects stands, nothing fixed changes -/
structure Ext (ρ : List Addr) (s : Shared) (ρ' : List Addr) (s' : Shared) : Prop where
  pre : ∃ t, ρ' = ρ ++ t ∧ ∀ a ∈ t, s.heap.get? a = none
  keep : ∀ b o, s.heap.get? b = some o → b ∉ ρ → s'.heap.get? b = some o
  live : ∀ a ∈ ρ, ∀ o, s.heap.get? a = some o → ∃ o', s'.heap.get? a = some o'
  tup : TupKeep s.heap s'.heap
  gens : s'.gens = s.gens
  os : s'.os = s.os

theorem Ext.keeps {ρ : List Addr} {s s' : Shared} (k : ∀ b o, s.heap.get? b = some o → s'.heap.get? b = some o) (hg : s'.gens = s.gens) (ho : s'.os = s.os) : Ext ρ s ρ s' :=
  ⟨⟨[], by simp, by simp⟩, fun b o e _ => k b o e, fun a _ o e => ⟨o, k _ _ e⟩, .of k, hg, ho⟩
theorem Ext.refl (ρ : List Addr) (s : Shared) : Ext ρ s ρ s := .keeps (fun _ _ e => e) rfl rfl
theorem Ext.toks {ρ : List Addr} {s : Shared} (t : Nat) : Ext ρ s ρ { s with toks := t } := .keeps (fun _ _ e => e) rfl rfl
theorem Ext.pre' {ρ ρ' : List Addr} {s s' : Shared} (x : Ext ρ s ρ' s') : ∃ t, ρ' = ρ ++ t := let ⟨t, e, _⟩ := x.pre; ⟨t, e⟩
theorem Ext.notin {ρ ρ' : List Addr} {s s' : Shared} (x : Ext ρ s ρ' s') {b : Addr} {o : Obj} (hb : s.heap.get? b = some o) (hn : b ∉ ρ) : b ∉ ρ' := by
  obtain ⟨t, rfl, ht⟩ := x.pre
  intro hm
  rcases List.mem_append.mp hm with q | q
  · exact hn q
  · rw [ht b q] at hb; cases hb
theorem fresh_back {ρ ρ' : List Addr} {h h' : Heap} (pre : ∃ t, ρ' = ρ ++ t) (keep : ∀ b o, h.get? b = some o → b ∉ ρ → h'.get? b = some o) (live : ∀ a ∈ ρ, ∀ o, h.get? a = some o → ∃ o', h'.get? a = some o')
    {a : Addr} (ha : h'.get? a = none) : h.get? a = none := by
  cases e : h.get? a with
  | none => rfl
  | some o =>
    by_cases q : a ∈ ρ
    · obtain ⟨o', e'⟩ := live a q o e; rw [ha] at e'; cases e'
    · have := keep a o e q; rw [ha] at this; cases this
theorem Ext.trans {ρ ρ' ρ'' : List Addr} {s s' s'' : Shared} (x : Ext ρ s ρ' s') (y : Ext ρ' s' ρ'' s'') : Ext ρ s ρ'' s'' := by
  refine ⟨?_, fun b o e hb => y.keep b o (x.keep b o e hb) (x.notin e hb), fun a ha o e => ?_, x.tup.trans y.tup, y.gens.trans x.gens, y.os.trans x.os⟩
  · obtain ⟨t, rfl, ht⟩ := x.pre
    obtain ⟨t', rfl, ht'⟩ := y.pre
    refine ⟨t ++ t', by simp, fun a ha => ?_⟩
    rcases List.mem_append.mp ha with q | q
    · exact ht a q
    · exact fresh_back ⟨t, rfl⟩ x.keep x.live (ht' a q)
  · obtain ⟨o', e'⟩ := x.live a ha o e
    obtain ⟨t, rfl, _⟩ := x.pre
    exact y.live a (List.mem_append_left _ ha) o' e'
theorem Ext.vr {ρ ρ' : List Addr} {s s' : Shared} (x : Ext ρ s ρ' s') {v : V} {a : Value} (q : VR ρ s.heap v a) : VR ρ' s'.heap v a := q.mono x.pre' x.tup
theorem Ext.vrs {ρ ρ' : List Addr} {s s' : Shared} (x : Ext ρ s ρ' s') {v : List V} {a : List Value} (q : VRs ρ s.heap v a) : VRs ρ' s'.heap v a := q.mono x.pre' x.tup

/-- the call's own heap over the top's -/
structure HS (P : Params) (B : Heap) (ρ : List Addr) (H : List O) (s : Shared) : Prop where
  hr : HR P ρ H s.heap
  base : ∀ b o, B.get? b = some o → s.heap.get? b = some o
  above : ∀ a ∈ ρ, B.get? a = none
  sysm : ∃ c o, sysModules < c ∧ B.get? c = some o
  big : ∀ a ∈ ρ, sysModules < a

theorem HS.notSys {P : Params} {B : Heap} {ρ : List Addr} {H : List O} {s : Shared} (x : HS P B ρ H s) {a : Addr} (h : a ∈ ρ) : (a == sysModules) = false :=
  beq_eq_false_iff_ne.mpr (Nat.ne_of_gt (x.big a h))

theorem OR.mono {P : Params} {ρ ρ' : List Addr} {h h' : Heap} {o : O} {a : Addr} (x : OR P ρ h o a) (hp : ∃ t, ρ' = ρ ++ t) (tk : TupKeep h h') (k : ∀ ob, h.get? a = some ob → h'.get? a = some ob) : OR P ρ' h' o a := by
  cases o with
  | list vs => obtain ⟨i, ep, e, r⟩ := x; exact ⟨i, ep, k _ e, r.mono hp tk⟩
  | idict es => obtain ⟨i, ep, e, r, n⟩ := x; exact ⟨i, ep, k _ e, r.mono hp tk, n⟩
  | kdict es => obtain ⟨i, ep, e, r, n⟩ := x; exact ⟨i, ep, k _ e, r.mono hp tk, n⟩
  | ns fs => obtain ⟨i, ep, e, r, n⟩ := x; exact ⟨i, ep, k _ e, r.mono hp tk, n⟩
  | inst c n =>
    obtain ⟨d, hd, e⟩ := x
    obtain ⟨t, rfl⟩ := hp
    exact ⟨d, by rw [List.getElem?_append_left (List.getElem?_eq_some_iff.mp hd).1]; exact hd, k _ e⟩

/-- what is not the call's own changes, or is new -/
theorem HS.aside {P : Params} {B : Heap} {ρ : List Addr} {H : List O} {s s' : Shared} {wr : List Addr} (x : HS P B ρ H s) (k : ∀ b o, b ∉ wr → s.heap.get? b = some o → s'.heap.get? b = some o)
    (hw : ∀ b ∈ wr, b ∉ ρ ∧ B.get? b = none) (tk : TupKeep s.heap s'.heap) : HS P B ρ H s' :=
  ⟨⟨x.hr.len, x.hr.nod, fun i o a ho ha => (x.hr.obj i o a ho ha).mono ⟨[], by simp⟩ tk fun ob e => k _ _ (fun q => (hw a q).1 (List.mem_of_getElem? ha)) e⟩,
    fun b o e => k b o (fun q => by rw [(hw b q).2] at e; cases e) (x.base b o e), x.above, x.sysm, x.big⟩
/-- nothing of the old heap changes -/
theorem HS.keeps {P : Params} {B : Heap} {ρ : List Addr} {H : List O} {s s' : Shared} (x : HS P B ρ H s) (k : ∀ b o, s.heap.get? b = some o → s'.heap.get? b = some o) : HS P B ρ H s' :=
  x.aside (wr := []) (fun b o _ e => k b o e) (fun b hb => nomatch hb) (.of k)
theorem HS.fresh {P : Params} {B : Heap} {ρ : List Addr} {H : List O} {s : Shared} {a : Addr} (x : HS P B ρ H s) (ha : s.heap.get? a = none) : a ∉ ρ ∧ B.get? a = none := by
  constructor
  · intro q; obtain ⟨o, e, _⟩ := x.hr.own q; rw [ha] at e; cases e
  · cases e : B.get? a with
    | none => rfl
    | some o => have := x.base a o e; rw [ha] at this; cases this
theorem get_end (h : Heap) : h.get? h.objs.size = none := by
  cases e : h.get? h.objs.size with
  | none => rfl
  | some o => exact absurd (Heap.lt_size e) (Nat.lt_irrefl _)

/-- one more object of the call's own -/
theorem HS.more {P : Params} {B : Heap} {ρ : List Addr} {H : List O} {s s' : Shared} {o : O} {a : Addr} (x : HS P B ρ H s) (k : ∀ b o, s.heap.get? b = some o → s'.heap.get? b = some o)
    (ha : s.heap.get? a = none) (ho : OR P (ρ ++ [a]) s'.heap o a) (hz : s.heap.objs.size ≤ a := by exact Nat.le_refl _) : HS P B (ρ ++ [a]) (H ++ [o]) s' := by
  obtain ⟨hn, hB⟩ := x.fresh ha
  have hp : ∃ t, ρ ++ [a] = ρ ++ t := ⟨[a], rfl⟩
  refine ⟨⟨by simp [x.hr.len], ?_, fun i o' a' hi hi' => ?_⟩, fun b o e => k b o (x.base b o e), fun b hb => ?_, x.sysm, fun b hb => ?_⟩
  · rw [List.nodup_append]
    exact ⟨x.hr.nod, by simp, fun b hb c hc => by simp at hc; subst hc; intro e; subst e; exact hn hb⟩
  · by_cases hl : i < H.length
    · rw [List.getElem?_append_left hl] at hi
      rw [List.getElem?_append_left (by rw [x.hr.len]; exact hl)] at hi'
      exact (x.hr.obj i o' a' hi hi').mono hp (.of k) fun ob e => k _ _ e
    · have hl' : i = H.length := by have := (List.getElem?_eq_some_iff.mp hi).1; simp at this; walk_at "om"
      subst hl'
      rw [List.getElem?_append_right (Nat.le_refl _), Nat.sub_self] at hi
      rw [← x.hr.len, List.getElem?_append_right (Nat.le_refl _), Nat.sub_self] at hi'
      simp only [List.getElem?_cons_zero, Option.some.injEq] at hi hi'
      subst hi hi'; exact ho
  · rcases List.mem_append.mp hb with q | q
    · exact x.above b q
    · simp at q; subst q; exact hB
  · rcases List.mem_append.mp hb with q | q
    · exact x.big b q
    · simp at q; subst q
      obtain ⟨c, oc, h1, h2⟩ := x.sysm
      exact Nat.lt_of_lt_of_le (Nat.lt_trans h1 (Heap.lt_size (x.base c oc h2))) hz
theorem Ext.more {ρ : List Addr} {s s' : Shared} {a : Addr} (k : ∀ b o, s.heap.get? b = some o → s'.heap.get? b = some o) (ha : s.heap.get? a = none) (hg : s'.gens = s.gens) (ho : s'.os = s.os) :
    Ext ρ s (ρ ++ [a]) s' := ⟨⟨[a], rfl, fun b hb => by simp at hb; subst hb; exact ha⟩, fun b o e _ => k b o e, fun a _ o e => ⟨o, k _ _ e⟩, .of k, hg, ho⟩

/-- one object of the call's own changes -/
theorem HS.put {P : Params} {B : Heap} {ρ : List Addr} {H : List O} {s s' : Shared} {o : O} {i : Nat} {a : Addr} (x : HS P B ρ H s) (hi : ρ[i]? = some a) (k : ∀ b, b ≠ a → s'.heap.get? b = s.heap.get? b)
    (ho : OR P ρ s'.heap o a) : HS P B ρ (H.set i o) s' := by
  have ham : a ∈ ρ := List.mem_of_getElem? hi
  have tk : TupKeep s.heap s'.heap := fun t it im e => by
    rw [k t fun q => ?_]; exact e
    subst q
    obtain ⟨ob, e', n⟩ := x.hr.own ham
    rw [e] at e'; cases e'; exact n im
  refine ⟨⟨by simp [x.hr.len], x.hr.nod, fun j o' a' hj hj' => ?_⟩, fun b ob e => ?_, x.above, x.sysm, x.big⟩
  · by_cases hij : i = j
    · subst hij
      have e1 := (List.getElem?_eq_some_iff.mp hj).1
      simp at e1
      rw [List.getElem?_set_self e1] at hj
      cases hj
      rw [hi] at hj'; cases hj'; exact ho
    · rw [List.getElem?_set_ne hij] at hj
      have hne : a' ≠ a := fun q => by
        subst q
        exact hij ((List.getElem?_inj (List.getElem?_eq_some_iff.mp hi).1 x.hr.nod).mp (hi.trans hj'.symm))
      exact (x.hr.obj j o' a' hj hj').mono ⟨[], by simp⟩ tk fun ob e => by rw [k _ hne]; exact e
  · rw [k b fun q => ?_]
    · exact x.base b ob e
    · subst q; rw [x.above b ham] at e; cases e
theorem Ext.put {P : Params} {ρ : List Addr} {H : List O} {s s' : Shared} {i : Nat} {a : Addr} {o' : Obj} (x : HR P ρ H s.heap) (hi : ρ[i]? = some a) (k : ∀ b, b ≠ a → s'.heap.get? b = s.heap.get? b) (hl : s'.heap.get? a = some o') (hg : s'.gens = s.gens) (ho : s'.os = s.os) :
    Ext ρ s ρ s' := by
  have ham : a ∈ ρ := List.mem_of_getElem? hi
  refine ⟨⟨[], by simp, by simp⟩, fun b ob e hb => ?_, fun b hb ob e => ?_, fun t it im e => ?_, hg, ho⟩
  · rw [k b fun q => hb (q ▸ ham)]; exact e
  · by_cases q : b = a
    · subst q; exact ⟨_, hl⟩
    · exact ⟨ob, by rw [k b q]; exact e⟩
  · rw [k t fun q => ?_]; exact e
    subst q
    obtain ⟨ob, e', n⟩ := x.own ham
    rw [e] at e'; cases e'; exact n im
noncomputable abbrev Vals := List (Option V)
noncomputable abbrev Names := List (Str × NameKind)

structure Room (A : Around) (d : Nat) : Prop where
  dep : A.depth + d < recursionLimit
  uni : A.units + 8 * d + 80 < cLine
  hand : A.handled = none
theorem Room.mono {A : Around} {d d' : Nat} (r : Room A d) (h : d' ≤ d) : Room A d' := ⟨by have := r.dep; walk_at "om", by have := r.uni; walk_at "om", r.hand⟩
theorem Room.units {A : Around} {d : Nat} (r : Room A d) : A.units < cLine := by have := r.uni; walk_at "om"
theorem Room.units64 {A : Around} {d : Nat} (r : Room A d) : A.units + 64 < cLine := by have := r.uni; walk_at "om"
theorem Room.depth {A : Around} {d : Nat} (r : Room A d) : A.depth < recursionLimit := by have := r.dep; walk_at "om"
theorem Room.deeper {A : Around} {d : Nat} {env : Env} (r : Room A (d + 1)) : Room (A.deeper env) d :=
  ⟨by have := r.dep; show A.depth + 1 + d < recursionLimit; walk_at "om", by have := r.uni; show A.units + 3 + 8 * d + 80 < cLine; walk_at "om", r.hand⟩

structure EnvOk (env : Env) (names : Names) : Prop where
  nm : env.scope.names = names
  kind : env.scope.kind = .function
  glob : env.globals = mainGlobals
  bi : env.builtins = builtinsNs
  nod : (names.map (·.1)).Nodup
  dbg : ∀ x ∈ names, (x.1 == ("__debug__" : Str)) = false ∧ (x.1 == ("__classdict__" : Str)) = false

theorem lookup_of_get {names : Names} (hn : (names.map (·.1)).Nodup) : ∀ {i : Nat} {x : Str} {k : NameKind}, names[i]? = some (x, k) → names.lookup x = some k := by
  induction names with
  | nil => intro i x k h; simp at h
  | cons p r ih =>
    intro i x k h
    obtain ⟨y, k'⟩ := p
    rw [List.map_cons, List.nodup_cons] at hn
    cases i with
    | zero => simp only [List.getElem?_cons_zero, Option.some.injEq, Prod.mk.injEq] at h; obtain ⟨rfl, rfl⟩ := h; rw [List.lookup_cons]; simp
    | succ i =>
      simp only [List.getElem?_cons_succ] at h
      have hx : x ≠ y := fun e => hn.1 (List.mem_map.mpr ⟨(x, k), List.mem_of_getElem? h, e⟩)
      have : (x == y) = false := beq_eq_false_iff_ne.mpr hx
      rw [List.lookup_cons, this]; exact ih hn.2 h
theorem EnvOk.kindOf {env : Env} {names : Names} (ok : EnvOk env names) {i : Nat} {x : Str} {k : NameKind} (h : names[i]? = some (x, k)) : env.kindOf x = some k := by
  show env.scope.names.lookup x = some k
  rw [ok.nm]; exact lookup_of_get ok.nod h
theorem EnvOk.inj {env : Env} {names : Names} (ok : EnvOk env names) {i j : Nat} {x : Str} {k k' : NameKind} (h : names[i]? = some (x, k)) (h' : names[j]? = some (x, k')) : i = j := by
  have a : (names.map (·.1))[i]? = some x := by rw [List.getElem?_map, h]; rfl
  have b : (names.map (·.1))[j]? = some x := by rw [List.getElem?_map, h']; rfl
  exact (List.getElem?_inj (List.getElem?_eq_some_iff.mp a).1 ok.nod).mp (a.trans b.symm)
theorem EnvOk.plain {env : Env} {names : Names} (ok : EnvOk env names) : (env.scope.kind == .class || (env.scope.kind == .module && env.locals != env.globals)) = false := by rw [ok.kind]; rfl
theorem EnvOk.quiet {env : Env} {names : Names} (ok : EnvOk env names) : interactive env = false := by unfold interactive; rw [ok.kind]; rfl
theorem EnvOk.block {env : Env} {names : Names} (ok : EnvOk env names) : env.blockKind = .function := by simp only [Env.blockKind, ok.kind, ScopeKind.isAnnotationScope, Bool.false_and, Bool.false_eq_true, if_false]

/-- a frame: its locals and cells -/
structure FR (B : Heap) (env : Env) (names : Names) (vals : Vals) (ρ : List Addr) (h : Heap) : Prop where
  len : vals.length = names.length
  ns : ∃ m, h.Ns env.locals m ∧ ∀ (i : Nat) (x : Str) (v : V), names[i]? = some (x, .local) → vals[i]? = some (some v) → ∃ a, m x = some a ∧ VR ρ h v a
  cl : ∀ (i : Nat) (x : Str) (k : NameKind) (v : V), names[i]? = some (x, k) → (k = .cell ∨ k = .free) → vals[i]? = some (some v) → ∃ c a, env.cells.lookup x = some c ∧ h.IsCell c (some a) ∧ VR ρ h v a
  cany : ∀ (i : Nat) (x : Str), names[i]? = some (x, .cell) → ∃ c v₀, env.cells.lookup x = some c ∧ h.IsCell c v₀ ∧ B.get? c = none
  capart : env.cells.Pairwise fun x y => x.2 ≠ y.2
  sepL : env.locals ∉ ρ
  sepC : ∀ (x : Str) (c : Addr), env.cells.lookup x = some c → c ∉ ρ ∧ c ≠ env.locals
  cthere : ∀ (x : Str) (c : Addr), env.cells.lookup x = some c → ∃ o, h.get? c = some o
  above : B.get? env.locals = none

structure SR (P : Params) (B : Heap) (env : Env) (names : Names) (vals : Vals) (ρ : List Addr) (H : List O) (s : Shared) : Prop where
  ok : EnvOk env names
  hs : HS P B ρ H s
  fr : FR B env names vals ρ s.heap

theorem FR.there {B : Heap} {env : Env} {names : Names} {vals : Vals} {ρ : List Addr} {h : Heap} (x : FR B env names vals ρ h) : ∃ o es ep, h.get? env.locals = some o ∧ o.data = .dict es ep := let ⟨_, ⟨o, es, ep, ho, hd, _⟩, _⟩ := x.ns; ⟨o, es, ep, ho, hd⟩

theorem FR.ext {B : Heap} {env : Env} {names : Names} {vals : Vals} {ρ ρ' : List Addr} {s s' : Shared} (x : FR B env names vals ρ s.heap) (e : Ext ρ s ρ' s') : FR B env names vals ρ' s'.heap := by
  obtain ⟨m, hn, hm⟩ := x.ns
  have cellK : ∀ (y : Str) (c : Addr), env.cells.lookup y = some c → ∀ v, s.heap.IsCell c v → s'.heap.IsCell c v := fun y c hp v ⟨o, ho, hd⟩ => ⟨o, e.keep _ _ ho (x.sepC y c hp).1, hd⟩
  refine ⟨x.len, ⟨m, ?_, fun i y v h1 h2 => ?_⟩, fun i y k v h1 h2 h3 => ?_, fun i y h1 => ?_, x.capart, (let ⟨_, _, _, ho, _⟩ := x.there; e.notin ho x.sepL), fun y c hp => ⟨?_, (x.sepC y c hp).2⟩, fun y c hp => ?_, x.above⟩
  · obtain ⟨o, es, ep, ho, r⟩ := hn
    exact ⟨o, es, ep, e.keep _ _ ho x.sepL, r⟩
  · obtain ⟨a, q, r⟩ := hm i y v h1 h2
    exact ⟨a, q, e.vr r⟩
  · obtain ⟨c, a, q, r, t⟩ := x.cl i y k v h1 h2 h3
    exact ⟨c, a, q, cellK y c q _ r, e.vr t⟩
  · obtain ⟨c, v₀, q, r, t⟩ := x.cany i y h1
    exact ⟨c, v₀, q, cellK y c q _ r, t⟩
  · obtain ⟨o, ho⟩ := x.cthere y c hp
    exact e.notin ho (x.sepC y c hp).1
  · obtain ⟨o, ho⟩ := x.cthere y c hp
    exact ⟨o, e.keep _ _ ho (x.sepC y c hp).1⟩

theorem SR.ext {P : Params} {B : Heap} {env : Env} {names : Names} {vals : Vals} {ρ ρ' : List Addr} {H H' : List O} {s s' : Shared} (x : SR P B env names vals ρ H s) (e : Ext ρ s ρ' s') (h : HS P B ρ' H' s') : SR P B env names vals ρ' H' s' :=
  ⟨x.ok, h, x.fr.ext e⟩

/-- what a statement leaves -/
structure ExtF (env : Env) (ρ : List Addr) (s : Shared) (ρ' : List Addr) (s' : Shared) : Prop where
  pre : ∃ t, ρ' = ρ ++ t ∧ ∀ a ∈ t, s.heap.get? a = none
  keep : ∀ b o, s.heap.get? b = some o → b ∉ ρ → b ≠ env.locals → (∀ (x : Str) (c : Addr), env.cells.lookup x = some c → b ≠ c) → s'.heap.get? b = some o
  live : ∀ b o, s.heap.get? b = some o → ∃ o', s'.heap.get? b = some o'
  tup : TupKeep s.heap s'.heap
  gens : s'.gens = s.gens
  os : s'.os = s.os
theorem Ext.toF {env : Env} {ρ ρ' : List Addr} {s s' : Shared} (x : Ext ρ s ρ' s') : ExtF env ρ s ρ' s' :=
  ⟨x.pre, fun b o e h _ _ => x.keep b o e h, fun b o e => by
    by_cases q : b ∈ ρ
    · exact x.live b q o e
    · exact ⟨o, x.keep b o e q⟩, x.tup, x.gens, x.os⟩
theorem ExtF.refl (env : Env) (ρ : List Addr) (s : Shared) : ExtF env ρ s ρ s := (Ext.refl ρ s).toF
theorem ExtF.pre' {env : Env} {ρ ρ' : List Addr} {s s' : Shared} (x : ExtF env ρ s ρ' s') : ∃ t, ρ' = ρ ++ t := let ⟨t, e, _⟩ := x.pre; ⟨t, e⟩
theorem ExtF.notin {env : Env} {ρ ρ' : List Addr} {s s' : Shared} (x : ExtF env ρ s ρ' s') {b : Addr} {o : Obj} (hb : s.heap.get? b = some o) (hn : b ∉ ρ) : b ∉ ρ' := by
  obtain ⟨t, rfl, ht⟩ := x.pre
  intro hm
  rcases List.mem_append.mp hm with q | q
  · exact hn q
  · rw [ht b q] at hb; cases hb
theorem ExtF.back {env : Env} {ρ ρ' : List Addr} {s s' : Shared} (x : ExtF env ρ s ρ' s') {a : Addr} (ha : s'.heap.get? a = none) : s.heap.get? a = none := by
  cases e : s.heap.get? a with
  | none => rfl
  | some o => obtain ⟨o', e'⟩ := x.live a o e; rw [ha] at e'; cases e'
theorem ExtF.trans {env : Env} {ρ ρ' ρ'' : List Addr} {s s' s'' : Shared} (x : ExtF env ρ s ρ' s') (y : ExtF env ρ' s' ρ'' s'') : ExtF env ρ s ρ'' s'' := by
  refine ⟨?_, fun b o e hb h1 h2 => y.keep b o (x.keep b o e hb h1 h2) (x.notin e hb) h1 h2, fun b o e => ?_, x.tup.trans y.tup, y.gens.trans x.gens, y.os.trans x.os⟩
  · obtain ⟨t, rfl, ht⟩ := x.pre
    obtain ⟨t', rfl, ht'⟩ := y.pre
    refine ⟨t ++ t', by simp, fun a ha => ?_⟩
    rcases List.mem_append.mp ha with q | q
    · exact ht a q
    · exact x.back (ht' a q)
  · obtain ⟨o', e'⟩ := x.live b o e; exact y.live b o' e'
theorem ExtF.vr {env : Env} {ρ ρ' : List Addr} {s s' : Shared} (x : ExtF env ρ s ρ' s') {v : V} {a : Value} (q : VR ρ s.heap v a) : VR ρ' s'.heap v a := q.mono x.pre' x.tup

inductive Fl where
  | next | brk | cont
  | ret (v : V)
inductive FlR (ρ : List Addr) (h : Heap) : Fl → Flow → Prop
  | next : FlR ρ h .next .next
  | brk : FlR ρ h .brk .brk
  | cont : FlR ρ h .cont .cont
  | ret {v : V} {a : Value} : VR ρ h v a → FlR ρ h (.ret v) (.ret a)

section
variable (prog : Program) (w : World) (B : Heap)
/-- a tree ends and gives back what is said -/
noncomputable def WT {α β : Type} (rel : List Addr → Heap → β → α → Prop) (d : Nat) (t : Sem α) (ρ : List Addr) (s : Shared) (Q : β → List O → Prop) : Prop :=
  ∀ A E, Room A d → wpAny (model prog w) A t (fun val s' => ∃ v H' ρ', rel ρ' s'.heap v val ∧ HS w.params B ρ' H' s' ∧ Ext ρ s ρ' s' ∧ Q v H') E s
structure EvE (names : Names) (d : Nat) (e : PySem.Expr) (vals : Vals) (H : List O) (Q : V → List O → Prop) : Prop where
  go' : ∀ env ρ s, SR w.params B env names vals ρ H s → WT prog w B VR d (eval e env) ρ s Q
/-- several, left to right -/
noncomputable def EvEs (names : Names) (d : Nat) : List PySem.Expr → Vals → List O → (List V → List O → Prop) → Prop
  | [], _, H, Q => Q [] H
  | e :: r, vals, H, Q => EvE prog w B names d e vals H fun v H₁ => EvEs names d r vals H₁ fun vs H₂ => Q (v :: vs) H₂
noncomputable def relB (_ : List Addr) (_ : Heap) (b b' : Bool) : Prop := b = b'
noncomputable def relU (_ : List Addr) (_ : Heap) (_ _ : Unit) : Prop := True
structure EvT (names : Names) (d : Nat) (e : PySem.Expr) (vals : Vals) (H : List O) (Q : Bool → List O → Prop) : Prop where
  go' : ∀ env ρ s, SR w.params B env names vals ρ H s → WT prog w B relB d (isTrue e env (eval e env)) ρ s Q
structure WS (names : Names) (d : Nat) (t : Env → Sem Flow) (vals : Vals) (H : List O) (Q : Fl → Vals → List O → Prop) : Prop where
  go' : ∀ env ρ s, SR w.params B env names vals ρ H s → ∀ A E, Room A d → wpAny (model prog w) A (t env) (fun fl s' => ∃ f vals' H' ρ', FlR ρ' s'.heap f fl ∧ SR w.params B env names vals' ρ' H' s' ∧ ExtF env ρ s ρ' s' ∧ Q f vals' H') E s
noncomputable def Ev1 (names : Names) (d : Nat) (st : Stmt) (vals : Vals) (H : List O) (Q : Fl → Vals → List O → Prop) : Prop := WS prog w B names d (exec st) vals H Q
noncomputable def EvS (names : Names) (d : Nat) (ss : List Stmt) (vals : Vals) (H : List O) (Q : Fl → Vals → List O → Prop) : Prop := WS prog w B names d (execs ss) vals H Q
structure CallC (d : Nat) (f : Addr) (args : List V) (H : List O) (Q : V → List O → Prop) : Prop where
  go' : ∀ ρ s vals A R, HS w.params B ρ H s → VRs ρ s.heap args vals → Room A d →
    (∀ v val H' ρ' s', VR ρ' s'.heap v val → HS w.params B ρ' H' s' → Ext ρ s ρ' s' → Q v H' → R (.ok (.ret val)) s') → codeAny (model prog w) A (.call (.ref f) ⟨vals, []⟩) R s
end

section
variable {prog : Program} {w : World} {B : Heap} {α β γ δ : Type} {rel : List Addr → Heap → β → α → Prop} {rel' : List Addr → Heap → δ → γ → Prop} {d : Nat} {ρ : List Addr} {s : Shared} {H : List O}

theorem WT.mono {t : Sem α} {Q Q' : β → List O → Prop} (h : WT prog w B rel d t ρ s Q) (k : ∀ v H, Q v H → Q' v H) : WT prog w B rel d t ρ s Q' :=
  fun A E r => wpAny_mono (h A E r) (fun _ _ ⟨v, H', ρ', a, b, c, q⟩ => ⟨v, H', ρ', a, b, c, k _ _ q⟩) fun _ _ e => e
end

section
variable {prog : Program} {w : World} {B : Heap} {names : Names} {d : Nat} {vals : Vals} {H : List O}
theorem EvE.mono {e : PySem.Expr} {Q Q' : V → List O → Prop} (h : EvE prog w B names d e vals H Q) (k : ∀ v H, Q v H → Q' v H) : EvE prog w B names d e vals H Q' := .mk fun env ρ s sr => (h.go' env ρ s sr).mono k
theorem WS.mono {t : Env → Sem Flow} {Q Q' : Fl → Vals → List O → Prop} (h : WS prog w B names d t vals H Q) (k : ∀ f v H, Q f v H → Q' f v H) : WS prog w B names d t vals H Q' :=
  .mk fun env ρ s sr A E r => wpAny_mono (h.go' env ρ s sr A E r) (fun _ _ ⟨f, v, H', ρ', a, b, c, q⟩ => ⟨f, v, H', ρ', a, b, c, k _ _ _ q⟩) fun _ _ e => e
end
/-- a name of the frame's and what it holds -/
inductive Look : Names → Vals → Str → NameKind → V → Prop
  | here {x : Str} {k : NameKind} {ns : Names} {v : V} {vs : Vals} : Look ((x, k) :: ns) (some v :: vs) x k v
  | there {n : Str × NameKind} {o : Option V} {ns : Names} {vs : Vals} {x : Str} {k : NameKind} {v : V} : Look ns vs x k v → Look (n :: ns) (o :: vs) x k v
inductive Put : Names → Vals → Str → NameKind → V → Vals → Prop
  | here {x : Str} {k : NameKind} {ns : Names} {v : V} {o : Option V} {vs : Vals} : Put ((x, k) :: ns) (o :: vs) x k v (some v :: vs)
  | there {n : Str × NameKind} {o : Option V} {ns : Names} {vs vs' : Vals} {x : Str} {k : NameKind} {v : V} : Put ns vs x k v vs' → Put (n :: ns) (o :: vs) x k v (o :: vs')
inductive Has : Names → Str → NameKind → Prop
  | here {x : Str} {k : NameKind} {ns : Names} : Has ((x, k) :: ns) x k
  | there {n : Str × NameKind} {ns : Names} {x : Str} {k : NameKind} : Has ns x k → Has (n :: ns) x k
theorem Look.get {ns : Names} {vs : Vals} {x : Str} {k : NameKind} {v : V} (h : Look ns vs x k v) : ∃ i : Nat, ns[i]? = some (x, k) ∧ vs[i]? = some (some v) := by
  induction h with
  | here => exact ⟨0, rfl, rfl⟩
  | there _ ih => obtain ⟨i, a, b⟩ := ih; exact ⟨i + 1, by simpa using a, by simpa using b⟩
theorem Put.get {ns : Names} {vs vs' : Vals} {x : Str} {k : NameKind} {v : V} (h : Put ns vs x k v vs') : ∃ i : Nat, ns[i]? = some (x, k) ∧ i < vs.length ∧ vs' = vs.set i (some v) := by
  induction h with
  | here => exact ⟨0, rfl, by simp, rfl⟩
  | there _ ih => obtain ⟨i, a, b, rfl⟩ := ih; exact ⟨i + 1, by simpa using a, by simpa using b, by simp⟩
theorem Has.get {ns : Names} {x : Str} {k : NameKind} (h : Has ns x k) : ∃ i : Nat, ns[i]? = some (x, k) := by
  induction h with
  | here => exact ⟨0, rfl⟩
  | there _ ih => obtain ⟨i, a⟩ := ih; exact ⟨i + 1, by simpa using a⟩

/-- what the top binds -/
noncomputable def GlobIs (B : Heap) (x : Str) (v : Value) : Prop := ∃ mg, B.Ns mainGlobals mg ∧ mg x = some v
noncomputable def BuiltIs (B : Heap) (x : Str) (v : Value) : Prop := ∃ mg mb, B.Ns mainGlobals mg ∧ mg x = none ∧ B.Ns builtinsNs mb ∧ mb x = some v

section
variable {prog : Program} {w : World} {B : Heap} {names : Names} {d : Nat} {vals : Vals} {H : List O}

theorem ev_local {x : Str} {pos : Pos} {k : NameKind} {v : V} {Q : V → List O → Prop} (l : Look names vals x k v) (hk : k = .local ∨ k = .cell ∨ k = .free) (q : Q v H) : EvE prog w B names d (.Name x pos) vals H Q := by
  constructor
  intro env ρ s sr A E r
  obtain ⟨i, h1, h2⟩ := l.get
  have kd := sr.ok.kindOf h1
  have hd := sr.ok.dbg (x, k) (List.mem_of_getElem? h1)
  rcases hk with rfl | hk
  · obtain ⟨m, hn, hm⟩ := sr.fr.ns
    obtain ⟨a, ha, hr⟩ := hm i x v h1 h2
    exact wpAny_Name (wpAny_loadName_local sr.ok.kind kd hn ha ⟨v, H, ρ, hr, sr.hs, Ext.refl _ _, q⟩) hd.1
  · obtain ⟨c, a, hc, hcell, hr⟩ := sr.fr.cl i x k v h1 hk h2
    rcases hk with rfl | rfl
    · exact wpAny_Name (wpAny_loadName_cell sr.ok.kind kd hc hcell ⟨v, H, ρ, hr, sr.hs, Ext.refl _ _, q⟩) hd.1
    · exact wpAny_Name (wpAny_loadName_free sr.ok.kind kd hc hcell ⟨v, H, ρ, hr, sr.hs, Ext.refl _ _, q⟩ hd.2) hd.1
theorem ev_glob {x : Str} {pos : Pos} {v : Value} {Q : V → List O → Prop} (l : Has names x .globalImplicit) (g : GlobIs B x v) (q : Q (.val v) H) : EvE prog w B names d (.Name x pos) vals H Q := by
  constructor
  intro env ρ s sr A E r
  obtain ⟨i, h1⟩ := l.get
  obtain ⟨mg, hg, hv⟩ := g
  have hd := sr.ok.dbg (x, _) (List.mem_of_getElem? h1)
  exact Name_function_global sr.ok.kind (sr.ok.kindOf h1) (loadGlobal_global (sr.ok.glob ▸ hg.keeps sr.hs.base) hv ⟨_, H, ρ, .val v, sr.hs, Ext.refl _ _, q⟩) hd.1
theorem ev_built {x : Str} {pos : Pos} {v : Value} {Q : V → List O → Prop} (l : Has names x .globalImplicit) (g : BuiltIs B x v) (q : Q (.val v) H) : EvE prog w B names d (.Name x pos) vals H Q := by
  constructor
  intro env ρ s sr A E r
  obtain ⟨i, h1⟩ := l.get
  obtain ⟨mg, mb, hg, hn, hb, hv⟩ := g
  have hd := sr.ok.dbg (x, _) (List.mem_of_getElem? h1)
  exact Name_function_global sr.ok.kind (sr.ok.kindOf h1) (loadGlobal_builtin (sr.ok.glob ▸ hg.keeps sr.hs.base) hn (sr.ok.bi ▸ hb.keeps sr.hs.base) hv ⟨_, H, ρ, .val v, sr.hs, Ext.refl _ _, q⟩) hd.1

theorem ev_globInt {x : Str} {pos : Pos} {i : Int} {t : Tok} {Q : V → List O → Prop} (l : Has names x .globalImplicit) (g : GlobIs B x (.int i t)) (q : Q (.int i) H) : EvE prog w B names d (.Name x pos) vals H Q := by
  constructor
  intro env ρ s sr A E r
  obtain ⟨j, h1⟩ := l.get
  obtain ⟨mg, hg, hv⟩ := g
  have hd := sr.ok.dbg (x, _) (List.mem_of_getElem? h1)
  exact Name_function_global sr.ok.kind (sr.ok.kindOf h1) (loadGlobal_global (sr.ok.glob ▸ hg.keeps sr.hs.base) hv ⟨_, H, ρ, .int i t, sr.hs, Ext.refl _ _, q⟩) hd.1

theorem HS.toks {P : Params} {ρ : List Addr} {s : Shared} (x : HS P B ρ H s) (t : Nat) : HS P B ρ H { s with toks := t } := ⟨x.hr, x.base, x.above, x.sysm, x.big⟩

theorem ev_int {i : Int} {k : Nat} {pos : Pos} {Q : V → List O → Prop} (q : Q (.int i) H) : EvE prog w B names d (.Constant (.int i) k pos) vals H Q :=
  .mk fun _ ρ s sr _ _ _ => wpAny_Constant_int ⟨_, H, ρ, .int i _, sr.hs.toks _, Ext.toks _, q⟩
theorem ev_none {k : Nat} {pos : Pos} {Q : V → List O → Prop} (q : Q .none H) : EvE prog w B names d (.Constant .none k pos) vals H Q :=
  .mk fun _ ρ s sr _ _ _ => wpAny_Constant_none ⟨_, H, ρ, .none, sr.hs, Ext.refl _ _, q⟩
theorem ev_bool {b : Bool} {k : Nat} {pos : Pos} {Q : V → List O → Prop} (q : Q (.bool b) H) : EvE prog w B names d (.Constant (.bool b) k pos) vals H Q :=
  .mk fun _ ρ s sr _ _ _ => wpAny_Constant_bool ⟨_, H, ρ, .bool b, sr.hs, Ext.refl _ _, q⟩
theorem ev_str {x : Str} {k : Nat} {pos : Pos} {Q : V → List O → Prop} (q : Q (.str x) H) : EvE prog w B names d (.Constant (.str x) k pos) vals H Q :=
  .mk fun _ ρ s sr _ _ _ => wpAny_Constant_str ⟨_, H, ρ, .str x _, sr.hs.toks _, Ext.toks _, q⟩

/-- a step upon one, two, three values -/
noncomputable def W1 (prog : Program) (w : World) (B : Heap) (d : Nat) (t : Value → Sem Value) (a : V) (H : List O) (Q : V → List O → Prop) : Prop :=
  ∀ ρ s x, HS w.params B ρ H s → VR ρ s.heap a x → WT prog w B VR d (t x) ρ s Q
noncomputable def W2 (prog : Program) (w : World) (B : Heap) (d : Nat) (t : Value → Value → Sem Value) (a b : V) (H : List O) (Q : V → List O → Prop) : Prop :=
  ∀ ρ s x y, HS w.params B ρ H s → VR ρ s.heap a x → VR ρ s.heap b y → WT prog w B VR d (t x y) ρ s Q
noncomputable def WTr (prog : Program) (w : World) (B : Heap) (d : Nat) (a : V) (H : List O) (Q : Bool → List O → Prop) : Prop :=
  ∀ ρ s x, HS w.params B ρ H s → VR ρ s.heap a x → WT prog w B relB d (truthy x) ρ s Q

theorem EvE.go {e : PySem.Expr} {Q₁ : V → List O → Prop} {env : Env} {ρ : List Addr} {s : Shared} {A : Around} {E : Value → Shared → Prop}
    (h : EvE prog w B names d e vals H Q₁) (sr : SR w.params B env names vals ρ H s) (r : Room A d) {t : Value → Shared → Prop}
    (k : ∀ v x H₁ ρ₁ s₁, VR ρ₁ s₁.heap v x → SR w.params B env names vals ρ₁ H₁ s₁ → Ext ρ s ρ₁ s₁ → Q₁ v H₁ → t x s₁) : wpAny (model prog w) A (eval e env) t E s :=
  wpAny_mono (h.go' env ρ s sr A E r) (fun _ _ ⟨v, H₁, ρ₁, a, b, c, q⟩ => k v _ H₁ ρ₁ _ a (sr.ext c b) c q) fun _ _ e => e
/-- a step whose end is known up to what stood before -/
theorem WT.at {α β : Type} {rel : List Addr → Heap → β → α → Prop} {t : Sem α} {Q Q' : β → List O → Prop} {ρ ρ₀ : List Addr} {s s₀ : Shared} {A : Around} {E : Value → Shared → Prop} (h : WT prog w B rel d t ρ s Q) (e : Ext ρ₀ s₀ ρ s) (r : Room A d) (k : ∀ v H, Q v H → Q' v H) :
    wpAny (model prog w) A t (fun val s' => ∃ v H' ρ', rel ρ' s'.heap v val ∧ HS w.params B ρ' H' s' ∧ Ext ρ₀ s₀ ρ' s' ∧ Q' v H') E s :=
  wpAny_mono (h A E r) (fun _ _ ⟨v, H', ρ', a, b, c, q⟩ => ⟨v, H', ρ', a, b, e.trans c, k _ _ q⟩) fun _ _ e => e

theorem ev_BinOp {l r' : PySem.Expr} {op : Operator} {pos : Pos} {Q : V → List O → Prop} (h : EvE prog w B names d l vals H fun a H₁ => EvE prog w B names d r' vals H₁ fun b H₂ => W2 prog w B d (binaryOp op) a b H₂ Q) :
    EvE prog w B names d (.BinOp l op r' pos) vals H Q := by
  constructor
  intro env ρ s sr A E r
  refine wpAny_BinOp (h.go sr r fun a x H₁ ρ₁ s₁ va sr₁ e₁ h₁ => h₁.go sr₁ r fun b y H₂ ρ₂ s₂ vb sr₂ e₂ h₂ => ?_)
  exact (h₂ ρ₂ s₂ x y sr₂.hs (e₂.vr va) vb).at (e₁.trans e₂) r fun _ _ q => q
theorem ev_Cmp {l r' : PySem.Expr} {op : CmpOp} {pos : Pos} {Q : V → List O → Prop} (hm : behindInMarks op r' = false) (h : EvE prog w B names d l vals H fun a H₁ => EvE prog w B names d r' vals H₁ fun b H₂ => W2 prog w B d (compareOp op) a b H₂ Q) :
    EvE prog w B names d (.Compare l [op] [r'] pos) vals H Q := by
  constructor
  intro env ρ s sr A E r
  refine wpAny_Compare1 (h.go sr r fun a x H₁ ρ₁ s₁ va sr₁ e₁ h₁ => h₁.go sr₁ r fun b y H₂ ρ₂ s₂ vb sr₂ e₂ h₂ => ?_) hm
  exact (h₂ ρ₂ s₂ x y sr₂.hs (e₂.vr va) vb).at (e₁.trans e₂) r fun _ _ q => q
/-- tests -/
theorem EvT.go {e : PySem.Expr} {Q₁ : Bool → List O → Prop} {env : Env} {ρ : List Addr} {s : Shared} {A : Around} {E : Value → Shared → Prop}
    (h : EvT prog w B names d e vals H Q₁) (sr : SR w.params B env names vals ρ H s) (r : Room A d) {t : Bool → Shared → Prop}
    (k : ∀ b H₁ ρ₁ s₁, SR w.params B env names vals ρ₁ H₁ s₁ → Ext ρ s ρ₁ s₁ → Q₁ b H₁ → t b s₁) : wpAny (model prog w) A (isTrue e env (eval e env)) t E s :=
  wpAny_mono (h.go' env ρ s sr A E r) (fun _ _ ⟨v, H₁, ρ₁, a, b, c, q⟩ => by cases a; exact k _ H₁ ρ₁ _ (sr.ext c b) c q) fun _ _ e => e
theorem evT_plain {e : PySem.Expr} {Q : Bool → List O → Prop} (he : ∀ env whole, isTrue e env whole = (do let v ← whole; standAt e.pos; holding [v] (truthy v))) (h : EvE prog w B names d e vals H fun a H₁ => WTr prog w B d a H₁ Q) : EvT prog w B names d e vals H Q := by
  constructor
  intro env ρ s sr A E r
  refine wpAny_isTrue_value (h.go sr r fun a x H₁ ρ₁ s₁ va sr₁ e₁ h₁ => ?_) (he _ _)
  exact (h₁ ρ₁ s₁ x sr₁.hs va).at e₁ r fun _ _ q => q
theorem evT_Not {x' : PySem.Expr} {pos : Pos} {Q : Bool → List O → Prop} (h : EvT prog w B names d x' vals H fun b H₁ => Q (!b) H₁) : EvT prog w B names d (.UnaryOp .Not x' pos) vals H Q := by
  constructor
  intro env ρ s sr A E r
  exact wpAny_isTrue_Not (h.go sr r fun b H₁ ρ₁ s₁ sr₁ e₁ h₁ => ⟨_, H₁, ρ₁, rfl, sr₁.hs, e₁, h₁⟩)
theorem evT_Cmp {l r' : PySem.Expr} {op : CmpOp} {pos : Pos} {Q : Bool → List O → Prop} (hm : behindInMarks op r' = false)
    (h : EvE prog w B names d l vals H fun a H₁ => EvE prog w B names d r' vals H₁ fun b H₂ => W2 prog w B d (compareOp op) a b H₂ fun c H₃ => ∃ t, c = .bool t ∧ Q t H₃) : EvT prog w B names d (.Compare l [op] [r'] pos) vals H Q := by
  constructor
  intro env ρ s sr A E r
  refine wpAny_isTrue_Compare1 (h.go sr r fun a x H₁ ρ₁ s₁ va sr₁ e₁ h₁ => h₁.go sr₁ r fun b y H₂ ρ₂ s₂ vb sr₂ e₂ h₂ => ?_) hm
  refine wpAny_mono (h₂ ρ₂ s₂ x y sr₂.hs (e₂.vr va) vb A E r) (fun c s₃ ⟨v, H₃, ρ₃, a1, a2, a3, t, e, q⟩ => ?_) fun _ _ e => e
  subst e
  cases a1
  exact wpAny_truthy_bool ⟨_, H₃, ρ₃, rfl, a2, (e₁.trans e₂).trans a3, q⟩
theorem evT_Cmp2 {l r₁ r₂ : PySem.Expr} {op₁ op₂ : CmpOp} {pos : Pos} {Q : Bool → List O → Prop} (hm : lastMarks [op₁, op₂] [r₁, r₂] = false)
    (h : EvE prog w B names d l vals H fun a H₁ => EvE prog w B names d r₁ vals H₁ fun b H₂ => W2 prog w B d (compareOp op₁) a b H₂ fun c H₃ => ∃ t, c = .bool t ∧ (t = false → Q false H₃) ∧
      (t = true → EvE prog w B names d r₂ vals H₃ fun c H₄ => W2 prog w B d (compareOp op₂) b c H₄ fun c H₅ => ∃ t, c = .bool t ∧ Q t H₅)) : EvT prog w B names d (.Compare l [op₁, op₂] [r₁, r₂] pos) vals H Q := by
  constructor
  intro env ρ s sr A E r
  refine isTrue_chain (h.go sr r fun a x H₁ ρ₁ s₁ va sr₁ e₁ h₁ => ?_) hm
  show wpAny _ _ (do
    let rv ← holding [x] (eval r₁ env)
    standAt pos
    let c ← holding [x, rv] (compareOp op₁ x rv)
    release [x, rv] [c]
    if ← holding [c, rv] (truthy c) then testChain pos rv [op₂] [eval r₂ env] else pure false) _ _ _
  refine wpAny_bind (wpAny_holding (h₁.go sr₁ r fun b y H₂ ρ₂ s₂ vb sr₂ e₂ h₂ => wpAny_bind (wpAny_standAt (wpAny_bind (wpAny_holding ?_)))))
  refine wpAny_mono (h₂ ρ₂ s₂ x y sr₂.hs (e₂.vr va) vb A E r) (fun c s₃ ⟨v, H₃, ρ₃, a1, a2, a3, t, e, q⟩ => ?_) fun _ _ e => e
  subst e
  cases a1
  refine wpAny_bind (PyProof.Rows.wpAny_release' (wpAny_bind (wpAny_holding (wpAny_truthy_bool ?_))))
  cases t with
  | false => exact wpAny_pure ⟨_, H₃, ρ₃, rfl, a2, (e₁.trans e₂).trans a3, q.1 rfl⟩
  | true =>
    show wpAny _ _ (do
      let rv ← holding [y] (eval r₂ env)
      standAt pos
      let c ← operate [y, rv] (compareOp op₂ y rv)
      holding [c] (truthy c)) _ _ _
    refine wpAny_bind (wpAny_holding ((q.2 rfl).go (sr₂.ext a3 a2) r fun b' z H₄ ρ₄ s₄ vc sr₄ e₄ h₄ => wpAny_bind (wpAny_standAt (wpAny_bind (PyProof.Rows.wpAny_operate' ?_)))))
    refine wpAny_mono (h₄ ρ₄ s₄ y z sr₄.hs (e₄.vr (a3.vr vb)) vc A E r) (fun c s₅ ⟨v, H₅, ρ₅, c1, c2, c3, t, e, q⟩ => ?_) fun _ _ e => e
    subst e
    cases c1
    exact wpAny_holding (wpAny_truthy_bool ⟨_, H₅, ρ₅, rfl, c2, (((e₁.trans e₂).trans a3).trans e₄).trans c3, q⟩)
noncomputable def EvAnd (prog : Program) (w : World) (B : Heap) (names : Names) (d : Nat) : List PySem.Expr → Vals → List O → (Bool → List O → Prop) → Prop
  | [], _, H, Q => Q true H
  | e :: r, vals, H, Q => EvT prog w B names d e vals H fun b H₁ => (b = true → EvAnd prog w B names d r vals H₁ Q) ∧ (b = false → Q false H₁)
noncomputable def EvOr (prog : Program) (w : World) (B : Heap) (names : Names) (d : Nat) : List PySem.Expr → Vals → List O → (Bool → List O → Prop) → Prop
  | [], _, H, Q => Q false H
  | e :: r, vals, H, Q => EvT prog w B names d e vals H fun b H₁ => (b = true → Q true H₁) ∧ (b = false → EvOr prog w B names d r vals H₁ Q)
theorem evAnd_all {env : Env} {A : Around} (r : Room A d) {Q : Bool → List O → Prop} : ∀ {es : List PySem.Expr} {H : List O} {ρ : List Addr} {s : Shared} {E : Value → Shared → Prop}, EvAnd prog w B names d es vals H Q → SR w.params B env names vals ρ H s →
    wpAny (model prog w) A (allTrue .And es env) (fun val s' => ∃ v H' ρ', relB ρ' s'.heap v val ∧ HS w.params B ρ' H' s' ∧ Ext ρ s ρ' s' ∧ Q v H') E s
  | [], H, ρ, s, E, h, sr => wpAny_allTrue_And_nil ⟨_, H, ρ, rfl, sr.hs, Ext.refl _ _, h⟩
  | e :: es, H, ρ, s, E, h, sr => by
    refine wpAny_allTrue_And_cons (EvT.go h sr r fun b H₁ ρ₁ s₁ sr₁ e₁ h₁ => ?_)
    cases b with
    | false => exact ⟨_, H₁, ρ₁, rfl, sr₁.hs, e₁, h₁.2 rfl⟩
    | true => exact wpAny_mono (evAnd_all r (h₁.1 rfl) sr₁) (fun _ _ ⟨v, H', ρ', a, b, c, q⟩ => ⟨v, H', ρ', a, b, e₁.trans c, q⟩) fun _ _ e => e
theorem evT_And {es : List PySem.Expr} {pos : Pos} {Q : Bool → List O → Prop} (h : EvAnd prog w B names d es vals H Q) : EvT prog w B names d (.BoolOp .And es pos) vals H Q :=
  .mk fun _ _ _ sr _ _ r => wpAny_isTrue_BoolOp (evAnd_all r h sr)
theorem ev_IfExp {t b o : PySem.Expr} {pos : Pos} {Q : V → List O → Prop} (h : EvT prog w B names d t vals H fun c H₁ => (c = true → EvE prog w B names d b vals H₁ Q) ∧ (c = false → EvE prog w B names d o vals H₁ Q)) : EvE prog w B names d (.IfExp t b o pos) vals H Q := by
  constructor
  intro env ρ s sr A E r
  refine wpAny_IfExp (h.go sr r fun c H₁ ρ₁ s₁ sr₁ e₁ h₁ => ?_)
  cases c with
  | true => exact ((h₁.1 rfl).go' env ρ₁ s₁ sr₁).at e₁ r fun _ _ q => q
  | false => exact ((h₁.2 rfl).go' env ρ₁ s₁ sr₁).at e₁ r fun _ _ q => q
end
theorem not_imm_dict {o : Obj} {es ep} (h : o.data = .dict es ep) : ¬ Imm o := fun q => by
  rcases q with ⟨_, xs, n, e⟩ | ⟨_, xs, e⟩ <;> rw [h] at e <;> cases e
theorem not_imm_cell {o : Obj} {v} (h : o.data = .cell v) : ¬ Imm o := fun q => by
  rcases q with ⟨_, xs, n, e⟩ | ⟨_, xs, e⟩ <;> rw [h] at e <;> cases e
theorem sameBut_tup {h h' : Heap} {a : Addr} {o : Obj} (hs : Heap.SameBut a h h') (ho : h.get? a = some o) (hn : ¬ Imm o) : TupKeep h h' := fun t x im e => by
  rw [hs.2 t fun q => ?_]; exact e
  subst q; rw [ho] at e; cases e; exact hn im

section
variable {prog : Program} {w : World} {B : Heap} {names : Names} {d : Nat} {vals vals' : Vals} {H : List O} {env : Env} {ρ : List Addr} {s : Shared} {A : Around} {E : Value → Shared → Prop}

theorem FR.vals_local {s' : Shared} {i : Nat} {x : Str} {v : V} {a : Value} (ok : EnvOk env names) (fr : FR B env names vals ρ s.heap) (hi : names[i]? = some (x, .local)) (hv : VR ρ s'.heap v a) {m : Str → Option Value} (hm : s.heap.Ns env.locals m)
    (hmm : ∀ (i : Nat) (x : Str) (v : V), names[i]? = some (x, .local) → vals[i]? = some (some v) → ∃ a, m x = some a ∧ VR ρ s.heap v a)
    (hn : s'.heap.Ns env.locals fun y => if y = x then some a else m y) (hs : Heap.SameBut env.locals s.heap s'.heap) (tk : TupKeep s.heap s'.heap) : FR B env names (vals.set i (some v)) ρ s'.heap := by
  have hp : ∃ t, ρ = ρ ++ t := ⟨[], by simp⟩
  have cellK : ∀ (y : Str) (c : Addr), env.cells.lookup y = some c → ∀ v, s.heap.IsCell c v → s'.heap.IsCell c v := fun y c hp v ⟨o, ho, hd⟩ => ⟨o, (hs.2 _ (fr.sepC y c hp).2).trans ho, hd⟩
  refine ⟨by simpa using fr.len, ⟨_, hn, fun j y v' h1 h2 => ?_⟩, fun j y k v' h1 h2 h3 => ?_, fun j y h1 => ?_, fr.capart, fr.sepL, fr.sepC, fun z cz hp => ?_, fr.above⟩
  · by_cases hij : i = j
    · subst hij
      have hl := (List.getElem?_eq_some_iff.mp h2).1
      simp only [List.length_set] at hl
      rw [List.getElem?_set_self hl] at h2
      cases h2
      rw [hi] at h1; cases h1
      exact ⟨a, if_pos rfl, hv⟩
    · rw [List.getElem?_set_ne hij] at h2
      obtain ⟨b, e, r⟩ := hmm j y v' h1 h2
      have hy : y ≠ x := fun q => hij (by subst q; exact ok.inj hi h1)
      exact ⟨b, by show (if y = x then some a else m y) = _; rw [if_neg hy]; exact e, r.mono hp tk⟩
  · have hij : i ≠ j := fun q => by subst q; rw [hi] at h1; cases h1; rcases h2 with h2 | h2 <;> cases h2
    rw [List.getElem?_set_ne hij] at h3
    obtain ⟨c, b, e1, e2, r⟩ := fr.cl j y k v' h1 h2 h3
    exact ⟨c, b, e1, cellK y c e1 _ e2, r.mono hp tk⟩
  · obtain ⟨c, v₀, e1, e2, r⟩ := fr.cany j y h1
    exact ⟨c, v₀, e1, cellK y c e1 _ e2, r⟩
  · obtain ⟨o, ho⟩ := fr.cthere z cz hp
    exact ⟨o, (hs.2 _ (fr.sepC z cz hp).2).trans ho⟩

theorem FR.vals_cell {s' : Shared} {i : Nat} {x : Str} {v : V} {a : Value} {c : Addr} (ok : EnvOk env names) (fr : FR B env names vals ρ s.heap) (hi : names[i]? = some (x, .cell)) (hv : VR ρ s'.heap v a)
    (hc : env.cells.lookup x = some c) (hn : s'.heap.IsCell c (some a)) (hs : Heap.SameBut c s.heap s'.heap) (tk : TupKeep s.heap s'.heap) : FR B env names (vals.set i (some v)) ρ s'.heap := by
  have hp : ∃ t, ρ = ρ ++ t := ⟨[], by simp⟩
  have hcm := mem_of_lookup hc
  have cellK : ∀ (c' : Addr), c' ≠ c → ∀ v, s.heap.IsCell c' v → s'.heap.IsCell c' v := fun c' hne v ⟨o, ho, hd⟩ => ⟨o, (hs.2 _ hne).trans ho, hd⟩
  obtain ⟨m, hm, hmm⟩ := fr.ns
  have hLc : env.locals ≠ c := fun q => (fr.sepC _ _ hc).2 q.symm
  have other : ∀ (y : Str) (c' : Addr), env.cells.lookup y = some c' → y ≠ x → c' ≠ c := fun y c' e hne q => hne (name_of_addr fr.capart (q ▸ mem_of_lookup e) hcm)
  refine ⟨by simpa using fr.len, ⟨m, hm.sameBut hs hLc, fun j y v' h1 h2 => ?_⟩, fun j y k v' h1 h2 h3 => ?_, fun j y h1 => ?_, fr.capart, fr.sepL, fr.sepC, fun z cz hp => ?_, fr.above⟩
  · have hij : i ≠ j := fun q => by subst q; rw [hi] at h1; cases h1
    rw [List.getElem?_set_ne hij] at h2
    obtain ⟨b, e, r⟩ := hmm j y v' h1 h2
    exact ⟨b, e, r.mono hp tk⟩
  · by_cases hij : i = j
    · subst hij
      have hl := (List.getElem?_eq_some_iff.mp h3).1
      simp only [List.length_set] at hl
      rw [List.getElem?_set_self hl] at h3
      cases h3
      rw [hi] at h1; cases h1
      exact ⟨c, a, hc, hn, hv⟩
    · rw [List.getElem?_set_ne hij] at h3
      obtain ⟨c', b, e1, e2, r⟩ := fr.cl j y k v' h1 h2 h3
      have hy : y ≠ x := fun q => hij (by subst q; exact ok.inj hi h1)
      exact ⟨c', b, e1, cellK c' (other y c' e1 hy) _ e2, r.mono hp tk⟩
  · by_cases hij : i = j
    · subst hij
      rw [hi] at h1; cases h1
      obtain ⟨c', v₀, e1, e2, r⟩ := fr.cany i x hi
      rw [hc] at e1; cases e1
      exact ⟨c, _, hc, hn, r⟩
    · obtain ⟨c', v₀, e1, e2, r⟩ := fr.cany j y h1
      have hy : y ≠ x := fun q => hij (by subst q; exact ok.inj hi h1)
      exact ⟨c', v₀, e1, cellK c' (other y c' e1 hy) _ e2, r⟩
  · obtain ⟨o, ho⟩ := fr.cthere z cz hp
    by_cases hpc : cz = c
    · obtain ⟨o', ho', _⟩ := hn
      exact ⟨o', hpc ▸ ho'⟩
    · exact ⟨o, (hs.2 _ hpc).trans ho⟩

/-- a name is bound -/
theorem store_ok {x : Str} {k : NameKind} {v : V} {a : Value} {Q : Unit → Shared → Prop} (sr : SR w.params B env names vals ρ H s) (p : Put names vals x k v vals') (hk : k = .local ∨ k = .cell) (hv : VR ρ s.heap v a)
    (q : ∀ s', SR w.params B env names vals' ρ H s' → ExtF env ρ s ρ s' → Q () s') : wpAny (model prog w) A (storeName env x a) Q E s := by
  have hp : ∃ t, ρ = ρ ++ t := ⟨[], by simp⟩
  obtain ⟨i, hi, hl, rfl⟩ := p.get
  obtain ⟨m, hm, hmm⟩ := sr.fr.ns
  rcases hk with rfl | rfl
  · refine wpAny_storeName_local (sr.ok.kindOf hi) hm (fun h' hn hs => ?_) sr.ok.plain
    obtain ⟨o, es, ep, ho, hd, _⟩ := hm
    have tk := sameBut_tup hs ho (not_imm_dict hd)
    have lv : ∀ b ob, s.heap.get? b = some ob → ∃ ob', h'.get? b = some ob' := fun b ob e => by
      by_cases q : b = env.locals
      · subst q; obtain ⟨o', _, _, e', _⟩ := hn; exact ⟨o', e'⟩
      · exact ⟨ob, (hs.2 b q).trans e⟩
    refine q { s with heap := h', toks := s.toks + 1 } ⟨sr.ok, sr.hs.aside (s' := { s with heap := h', toks := s.toks + 1 }) (wr := [env.locals]) (fun b ob hb e => (hs.2 b (by simpa using hb)).trans e) (fun b hb => by simp at hb; subst hb; exact ⟨sr.fr.sepL, sr.fr.above⟩) tk,
      FR.vals_local (s' := { s with heap := h', toks := s.toks + 1 }) sr.ok sr.fr hi (hv.mono hp tk) ⟨o, es, ep, ho, hd, ‹_›⟩ hmm hn hs tk⟩ ⟨⟨[], by simp, by simp⟩, fun b ob e h1 h2 h3 => (hs.2 b h2).trans e, lv, tk, rfl, rfl⟩
  · obtain ⟨c, v₀, hc, hcell, hB⟩ := sr.fr.cany i x hi
    refine wpAny_storeName_cell sr.ok.kind (sr.ok.kindOf hi) hc hcell fun h' hn hs => ?_
    obtain ⟨o, ho, hd⟩ := hcell
    have tk := sameBut_tup hs ho (not_imm_cell hd)
    have lv : ∀ b ob, s.heap.get? b = some ob → ∃ ob', h'.get? b = some ob' := fun b ob e => by
      by_cases q : b = c
      · subst q; obtain ⟨o', e', _⟩ := hn; exact ⟨o', e'⟩
      · exact ⟨ob, (hs.2 b q).trans e⟩
    refine q { s with heap := h' } ⟨sr.ok, sr.hs.aside (s' := { s with heap := h' }) (wr := [c]) (fun b ob hb e => (hs.2 b (by simpa using hb)).trans e) (fun b hb => by simp at hb; subst hb; exact ⟨(sr.fr.sepC _ _ hc).1, hB⟩) tk,
      FR.vals_cell (s' := { s with heap := h' }) sr.ok sr.fr hi (hv.mono hp tk) hc hn hs tk⟩ ⟨⟨[], by simp, by simp⟩, fun b ob e h1 h2 h3 => (hs.2 b (h3 _ _ hc)).trans e, lv, tk, rfl, rfl⟩

/-- many names -/
inductive PutAll (names : Names) : Vals → List (Str × V) → Vals → Prop
  | nil {vs : Vals} : PutAll names vs [] vs
  | cons {vs vs₁ vs₂ : Vals} {x : Str} {k : NameKind} {v : V} {r : List (Str × V)} : Put names vs x k v vs₁ → (k = .local ∨ k = .cell) → PutAll names vs₁ r vs₂ → PutAll names vs ((x, v) :: r) vs₂

theorem SR.extF {ρ' : List Addr} {s' : Shared} (x : SR w.params B env names vals ρ H s) (e : Ext ρ s ρ' s') (h : HS w.params B ρ' H s') : SR w.params B env names vals ρ' H s' := x.ext e h

noncomputable def nameExprs : List (Str × Pos) → List PySem.Expr := List.map fun x => .Name x.1 x.2
theorem assignEach_names : ∀ (xs : List (Str × Pos)) (env : Env), assignEach (nameExprs xs) env = xs.map fun x => (false, assign (.Name x.1 x.2) env)
  | [], _ => rfl
  | x :: r, env => by
    show (false, assign (.Name x.1 x.2) env) :: assignEach (nameExprs r) env = _
    rw [assignEach_names r env]; rfl
theorem assign_all {xs : List (Str × Pos)} {vs : List V} {as : List Value} {Q : Unit → Shared → Prop} (sr : SR w.params B env names vals ρ H s) (p : PutAll names vals ((xs.map (·.1)).zip vs) vals') (hl : xs.length = vs.length) (hv : VRs ρ s.heap vs as)
    (q : ∀ s', SR w.params B env names vals' ρ H s' → ExtF env ρ s ρ s' → Q () s') : wpAny (model prog w) A (assignInOrder (xs.map fun x => assign (.Name x.1 x.2) env) as) Q E s := by
  induction xs generalizing vs as vals s with
  | nil =>
    cases vs with
    | nil => cases hv; cases p; exact wpAny_assignInOrder_none (q s sr (.refl _ _ _))
    | cons => cases hl
  | cons x xs ih =>
    cases vs with
    | nil => cases hl
    | cons v vs =>
      cases hv with
      | cons hv hr =>
        cases p with
        | cons p1 hk p2 =>
          refine wpAny_assignInOrder_more (wpAny_assign_Name (store_ok sr p1 hk hv fun s₁ sr₁ e₁ => ?_))
          exact ih sr₁ p2 (by simpa using hl) (hr.mono ⟨[], by simp⟩ e₁.tup) fun s' sr' e' => q s' sr' (e₁.trans e')
theorem bind_all {xs : List Str} {vs : List V} {as : List Value} {Q : Unit → Shared → Prop} (sr : SR w.params B env names vals ρ H s) (p : PutAll names vals (xs.zip vs) vals') (hl : xs.length = vs.length) (hv : VRs ρ s.heap vs as)
    (q : ∀ s', SR w.params B env names vals' ρ H s' → ExtF env ρ s ρ s' → Q () s') : wpAny (model prog w) A (assignInOrder (xs.map fun x => bindName env x) as) Q E s := by
  induction xs generalizing vs as vals s with
  | nil =>
    cases vs with
    | nil => cases hv; cases p; exact wpAny_assignInOrder_none (q s sr (.refl _ _ _))
    | cons => cases hl
  | cons x xs ih =>
    cases vs with
    | nil => cases hl
    | cons v vs =>
      cases hv with
      | cons hv hr =>
        cases p with
        | cons p1 hk p2 =>
          refine wpAny_assignInOrder_more (wpAny_bindName (store_ok sr p1 hk hv fun s₁ sr₁ e₁ => ?_))
          exact ih sr₁ p2 (by simpa using hl) (hr.mono ⟨[], by simp⟩ e₁.tup) fun s' sr' e' => q s' sr' (e₁.trans e')
end
section
variable {prog : Program} {w : World} {B : Heap} {names : Names} {d : Nat} {vals : Vals} {H : List O}

noncomputable def thenS (prog : Program) (w : World) (B : Heap) (names : Names) (d : Nat) (rest : List Stmt) (Q : Fl → Vals → List O → Prop) : Fl → Vals → List O → Prop
  | .next, vals, H => EvS prog w B names d rest vals H Q
  | f, vals, H => Q f vals H

theorem evS_nil {Q : Fl → Vals → List O → Prop} (q : Q .next vals H) : EvS prog w B names d [] vals H Q :=
  .mk fun env ρ s sr A E r => wpAny_execs_nil ⟨_, vals, H, ρ, .next, sr, .refl _ _ _, q⟩
theorem evS_cons {st : Stmt} {rest : List Stmt} {Q : Fl → Vals → List O → Prop} (h : Ev1 prog w B names d st vals H (thenS prog w B names d rest Q)) : EvS prog w B names d (st :: rest) vals H Q := by
  constructor
  intro env ρ s sr A E r
  refine wpAny_execs_cons (wpAny_mono (h.go' env ρ s sr A E r) (fun fl s₁ ⟨f, vals', H', ρ', a, b, c, q⟩ => ?_) fun _ _ e => e)
  cases a with
  | next => exact wpAny_mono (WS.go' q env ρ' s₁ b A E r) (fun _ _ ⟨f, v2, H2, ρ2, a2, b2, c2, q2⟩ => ⟨f, v2, H2, ρ2, a2, b2, c.trans c2, q2⟩) fun _ _ e => e
  | brk => exact ⟨_, vals', H', ρ', .brk, b, c, q⟩
  | cont => exact ⟨_, vals', H', ρ', .cont, b, c, q⟩
  | ret hv => exact ⟨_, vals', H', ρ', .ret hv, b, c, q⟩

theorem ev1_Assign {x : Str} {px pos : Pos} {value : PySem.Expr} {Q : Fl → Vals → List O → Prop} (hs : ∀ env, swapsWith value (some (.Name x px)) pos.line env = pure false)
    (h : EvE prog w B names d value vals H fun v H₁ => ∃ k vals', Put names vals x k v vals' ∧ (k = .local ∨ k = .cell) ∧ Q .next vals' H₁) : Ev1 prog w B names d (.Assign [.Name x px] value pos) vals H Q := by
  constructor
  intro env ρ s sr A E r
  refine wpAny_Assign_Name (h.go sr r fun v a H₁ ρ₁ s₁ va sr₁ e₁ ⟨k, vals', p, hk, q⟩ => store_ok sr₁ p hk va fun s₂ sr₂ e₂ => ?_) (hs env)
  exact ⟨_, vals', H₁, ρ₁, .next, sr₂, e₁.toF.trans e₂, q⟩

theorem filterMap_names {f : PySem.Expr → Option Str} (hf : ∀ id pos, f (.Name id pos) = some id ∨ f (.Name id pos) = none) : ∀ xs : List (Str × Pos), ((nameExprs xs).filterMap f).length ≤ xs.length ∧ (((nameExprs xs).filterMap f).length = xs.length → (nameExprs xs).filterMap f = xs.map (·.1))
  | [] => ⟨Nat.le_refl _, fun _ => rfl⟩
  | x :: r => by
    have ih := filterMap_names hf r
    have e0 : nameExprs (x :: r) = .Name x.1 x.2 :: nameExprs r := rfl
    rw [e0, List.filterMap_cons]
    rcases hf x.1 x.2 with e | e <;> rw [e]
    · refine ⟨by simpa using ih.1, fun h => ?_⟩
      simp only [List.map_cons]
      rw [ih.2 (by simpa using h)]
    · refine ⟨by have := ih.1; simp; walk_at "om", fun h => ?_⟩
      have := ih.1; simp at h; walk_at "om"

theorem swapped_or {env : Env} {xs : List (Str × Pos)} {vs : List PySem.Expr} {k k' : Nat} {p p' : Pos} (hc : vs.all (constantsAlone 8) = false) :
    swappedStores [.Tuple (nameExprs xs) k p] (.Tuple vs k' p') env = pure none ∨ swappedStores [.Tuple (nameExprs xs) k p] (.Tuple vs k' p') env = pure (some (xs.map (·.1))) := by
  unfold swappedStores
  simp only []
  split
  · exact .inl rfl
  · split
    · exact .inl rfl
    · split
      · exact .inl rfl
      · rename_i hn
        split
        · exact .inl rfl
        · rw [hc]
          simp only [Bool.false_eq_true, if_false]
          refine .inr ?_
          simp only [Bool.or_eq_true, bne_iff_ne, ne_eq, not_or, Decidable.not_not] at hn
          have hl : (nameExprs xs).length = xs.length := by simp [nameExprs]
          have := (filterMap_names (f := fun
            | .Name id pos => if (env.kindOf id == some .local && pos.line == ((nameExprs xs).head?.map (·.pos.line)).getD 0) = true then some id else none
            | _ => none) (fun id pos => by dsimp only; split <;> simp) xs).2 (by rw [← hl]; exact hn.1)
          exact congrArg (fun z => (pure (some z) : Sem (Option (List Str)))) this

theorem assignStores_some (env : Env) (v : Value) (nm : List Str) (stores : List (Value → Sem Unit)) : assignStores env v (some nm) stores = (rule "assign.swapped-stores" >>= fun _ => unpackItems v nm.length none >>= fun items =>
    assignInOrder (nm.reverse.map fun n => bindName env n) items.reverse >>= fun _ => pure Flow.next) := rfl
theorem star_names (xs : List (Str × Pos)) (env : Env) : (assignEach (nameExprs xs) env).findIdx? (·.1) = none := by
  rw [assignEach_names]
  induction xs with
  | nil => rfl
  | cons x r ih => rw [List.map_cons, List.findIdx?_cons]; simp only [Bool.false_eq_true, if_false]; rw [ih]; rfl

theorem VR.tup_inv {ρ : List Addr} {h : Heap} {vs : List V} {a : Value} (x : VR ρ h (.tup vs) a) : ∃ t items, a = .ref t ∧ h.get? t = some (tupObj items) ∧ VRs ρ h vs items := by
  cases x with | tup h1 h2 => exact ⟨_, _, rfl, h1, h2⟩
theorem isTuple_of {h : Heap} {t : Addr} {items : List Value} (e : h.get? t = some (tupObj items)) : h.IsTuple t items.toArray := ⟨_, e, rfl, _, rfl⟩

theorem ext_end {P : Params} {ρ : List Addr} {H : List O} {s : Shared} {h' : Heap} (hs : HS P B ρ H s) (x : Heap.ExtBut s.heap.objs.size s.heap h') : HS P B ρ H { s with heap := h' } ∧ Ext ρ s ρ { s with heap := h' } := by
  have k : ∀ b o, s.heap.get? b = some o → h'.get? b = some o := fun b o e => x b o (Nat.ne_of_lt (Heap.lt_size e)) e
  exact ⟨hs.keeps (s' := { s with heap := h' }) k, .keeps (s' := { s with heap := h' }) k rfl rfl⟩

/-- names of a tuple -/
theorem ev1_AssignTup {xs : List (Str × Pos)} {k : Nat} {tp pos : Pos} {value : PySem.Expr} {Q : Fl → Vals → List O → Prop} (hs : ∀ env, swapsWith value (some (.Tuple (nameExprs xs) k tp)) pos.line env = pure false)
    (hw : ∀ env, swappedStores [.Tuple (nameExprs xs) k tp] value env = pure none ∨ swappedStores [.Tuple (nameExprs xs) k tp] value env = pure (some (xs.map (·.1))))
    (h : EvE prog w B names d value vals H fun v H₁ => ∃ vs, v = .tup vs ∧ xs.length = vs.length ∧ ∃ vals', PutAll names vals ((xs.map (·.1)).zip vs) vals' ∧ PutAll names vals ((xs.map (·.1)).reverse.zip vs.reverse) vals' ∧ Q .next vals' H₁) :
    Ev1 prog w B names d (.Assign [.Tuple (nameExprs xs) k tp] value pos) vals H Q := by
  constructor
  intro env ρ s sr A E r
  rw [exec_Assign_arm]
  refine wpAny_bind (wpAny_standAt ?_)
  rw [show swapsWithSole [.Tuple (nameExprs xs) k tp] value pos.line env = pure false from hs env]
  refine wpAny_bind (wpAny_pure ?_)
  rw [if_neg (by decide)]
  refine wpAny_bind (h.go sr r fun v a H₁ ρ₁ s₁ va sr₁ e₁ ⟨vs, hv, hl, vals', p1, p2, q⟩ => ?_)
  subst hv
  obtain ⟨t, items, rfl, ht, hvs⟩ := va.tup_inv
  have hil := hvs.length
  rcases hw env with e | e <;> rw [e] <;> refine wpAny_bind (wpAny_pure ?_)
  · show wpAny _ _ (do assignAll _ [assign (.Tuple (nameExprs xs) k tp) env]; pure Flow.next) _ _ _
    refine wpAny_bind ?_
    show wpAny _ _ (assign (.Tuple (nameExprs xs) k tp) env (.ref t)) _ _ _
    refine wpAny_assign_Tuple r.hand (isTuple_of ht) (by rw [assignEach_names]; simp [hil, hl]) (star_names xs env) fun h' x' => ?_
    obtain ⟨hs', ex'⟩ := ext_end sr₁.hs x'
    rw [assignEach_names, List.map_map]
    refine assign_all (xs := xs) (sr₁.ext ex' hs') p1 hl (ex'.vrs hvs) fun s₂ sr₂ e₂ => wpAny_pure ?_
    exact ⟨_, vals', H₁, ρ₁, .next, sr₂, (e₁.toF.trans ex'.toF).trans e₂, q⟩
  · rw [assignStores_some]
    refine wpAny_bind (wpAny_rule (wpAny_bind ?_))
    rw [show (xs.map (·.1)).length = items.toArray.size by simp [hil, hl]]
    refine wpAny_unpackItems_tuple r.hand (isTuple_of ht) fun h' x' => ?_
    obtain ⟨hs', ex'⟩ := ext_end sr₁.hs x'
    refine wpAny_bind (bind_all (xs := (xs.map (·.1)).reverse) (sr₁.ext ex' hs') p2 (by simp [hl]) (ex'.vrs hvs).reverse fun s₂ sr₂ e₂ => wpAny_pure ?_)
    exact ⟨_, vals', H₁, ρ₁, .next, sr₂, (e₁.toF.trans ex'.toF).trans e₂, q⟩

theorem ev1_Expr {e : PySem.Expr} {pos : Pos} {Q : Fl → Vals → List O → Prop} (hs : ∀ env, swapsWith e none pos.line env = pure false) (h : EvE prog w B names d e vals H fun _ H₁ => Q .next vals H₁) : Ev1 prog w B names d (.Expr e pos) vals H Q := by
  constructor
  intro env ρ s sr A E r
  exact wpAny_Expr_any (h.go sr r fun v a H₁ ρ₁ s₁ va sr₁ e₁ q => ⟨_, vals, H₁, ρ₁, .next, sr₁, e₁.toF, q⟩) sr.ok.quiet (hs env)
theorem ev1_If {t : PySem.Expr} {body orelse : List Stmt} {pos : Pos} {Q : Fl → Vals → List O → Prop} (h : EvT prog w B names d t vals H fun b H₁ => (b = true → EvS prog w B names d body vals H₁ Q) ∧ (b = false → EvS prog w B names d orelse vals H₁ Q)) :
    Ev1 prog w B names d (.If t body orelse pos) vals H Q := by
  constructor
  intro env ρ s sr A E r
  refine wpAny_If (h.go sr r fun b H₁ ρ₁ s₁ sr₁ e₁ h₁ => ?_)
  cases b with
  | true => exact wpAny_mono (WS.go' (h₁.1 rfl) env ρ₁ s₁ sr₁ A E r) (fun _ _ ⟨f, v2, H2, ρ2, a2, b2, c2, q2⟩ => ⟨f, v2, H2, ρ2, a2, b2, e₁.toF.trans c2, q2⟩) fun _ _ e => e
  | false => exact wpAny_mono (WS.go' (h₁.2 rfl) env ρ₁ s₁ sr₁ A E r) (fun _ _ ⟨f, v2, H2, ρ2, a2, b2, c2, q2⟩ => ⟨f, v2, H2, ρ2, a2, b2, e₁.toF.trans c2, q2⟩) fun _ _ e => e
theorem ev1_Return {e : PySem.Expr} {pos : Pos} {Q : Fl → Vals → List O → Prop} (h : EvE prog w B names d e vals H fun v H₁ => Q (.ret v) vals H₁) : Ev1 prog w B names d (.Return (some e) pos) vals H Q := by
  constructor
  intro env ρ s sr A E r
  exact wpAny_Return_some (h.go sr r fun v a H₁ ρ₁ s₁ va sr₁ e₁ q => ⟨_, vals, H₁, ρ₁, .ret va, sr₁, e₁.toF, q⟩)
/-- a while, by what holds at each turn and what falls -/
theorem ev1_While {t : PySem.Expr} {body : List Stmt} {pos : Pos} {Q : Fl → Vals → List O → Prop} (I : Nat → Vals → List O → Prop)
    (turn : ∀ n vals H, I n vals H → EvT prog w B names d t vals H fun b H₁ => (b = false → Q .next vals H₁) ∧ (b = true → EvS prog w B names d body vals H₁ fun f vals' H' => match f with
      | .next | .cont => ∃ m, m < n ∧ I m vals' H'
      | .brk => Q .next vals' H'
      | .ret v => Q (.ret v) vals' H')) (n : Nat) (h : I n vals H) : Ev1 prog w B names d (.While t body [] pos) vals H Q := by
  constructor
  intro env ρ s sr A E r
  refine wpAny_While (codeAny_whileLoop (fun n s' => ∃ vals' H' ρ', I n vals' H' ∧ SR w.params B env names vals' ρ' H' s' ∧ ExtF env ρ s ρ' s') ?_ n ⟨vals, H, ρ, h, sr, .refl _ _ _⟩)
  rintro n s' ⟨vals', H', ρ', hI, sr', e'⟩
  refine (turn n vals' H' hI).go sr' r fun b H₁ ρ₁ s₁ sr₁ e₁ h₁ => ?_
  cases b with
  | false => exact wpAny_execs_nil ⟨_, vals', H₁, ρ₁, .next, sr₁, e'.trans e₁.toF, h₁.1 rfl⟩
  | true =>
    refine wpAny_mono (WS.go' (h₁.2 rfl) env ρ₁ s₁ sr₁ A _ r) (fun fl s₂ ⟨f, v2, H2, ρ2, a2, b2, c2, q2⟩ => ?_) fun _ _ e => e
    have ee := (e'.trans e₁.toF).trans c2
    cases a2 with
    | next => obtain ⟨m, hm, hi⟩ := q2; exact ⟨m, hm, v2, H2, ρ2, hi, b2, ee⟩
    | cont => obtain ⟨m, hm, hi⟩ := q2; exact ⟨m, hm, v2, H2, ρ2, hi, b2, ee⟩
    | brk => exact ⟨_, v2, H2, ρ2, .next, b2, ee, q2⟩
    | ret hv => exact ⟨_, v2, H2, ρ2, .ret hv, b2, ee, q2⟩

/-- displays -/
noncomputable def plainE : PySem.Expr → Bool
  | .Starred .. => false
  | _ => true
theorem star_plain {e : PySem.Expr} (h : plainE e = true) (r : List PySem.Expr) (env : Env) : starEach (e :: r) env = (false, eval e env) :: starEach r env := by
  cases e <;> first | rfl | cases h
theorem evEs_spliced {env : Env} {pos : Pos} {A : Around} {Q : List V → List O → Prop} (r : Room A d) {es : List PySem.Expr} {H : List O} {ρ : List Addr} {s : Shared} {E : Value → Shared → Prop} (hp : es.all plainE = true) (h : EvEs prog w B names d es vals H Q) (sr : SR w.params B env names vals ρ H s)
    {t : List Value → Shared → Prop} (k : ∀ vs as H₁ ρ₁ s₁, VRs ρ₁ s₁.heap vs as → SR w.params B env names vals ρ₁ H₁ s₁ → Ext ρ s ρ₁ s₁ → Q vs H₁ → t as s₁) : wpAny (model prog w) A (spliced (backTo pos (starEach es env))) t E s := by
  induction es generalizing H ρ s Q t with
  | nil => exact Calls.spliced_nil (k [] [] H ρ s .nil sr (.refl _ _) h)
  | cons e es ih =>
    rw [List.all_cons, Bool.and_eq_true] at hp
    rw [star_plain hp.1]
    refine Calls.spliced_cons (EvE.go h sr r fun v a H₁ ρ₁ s₁ va sr₁ e₁ h₁ => ih hp.2 h₁ sr₁ fun vs as H₂ ρ₂ s₂ vas sr₂ e₂ q => ?_)
    exact k (v :: vs) (a :: as) H₂ ρ₂ s₂ (.cons (e₂.vr va) vas) sr₂ (e₁.trans e₂) q
theorem ev_Tuple {es : List PySem.Expr} {k : Nat} {pos : Pos} {Q : V → List O → Prop} (hp : es.all plainE = true) (hl : es.length ≤ 1000) (h : EvEs prog w B names d es vals H fun vs H₁ => vs.length ≤ 1000 ∧ Q (.tup vs) H₁) : EvE prog w B names d (.Tuple es k pos) vals H Q := by
  constructor
  intro env ρ s sr A E r
  refine wpAny_Tuple_spliced (evEs_spliced r hp h sr fun vs as H₁ ρ₁ s₁ vas sr₁ e₁ q => ⟨?_, ?_⟩)
  · rw [vas.length]; have := q.1; rw [sizeLine_eq]; walk_at "om"
  · have k : ∀ b o, s₁.heap.get? b = some o → (s₁.heap.push (tupObj as)).get? b = some o := fun b o e => Heap.get?_push_of_some _ e
    refine ⟨.tup vs, H₁, ρ₁, .tup (Heap.get?_push_size _ rfl) (vas.mono ⟨[], by simp⟩ (.of k)), sr₁.hs.keeps (s' := { s₁ with heap := s₁.heap.push (tupObj as) }) k, e₁.trans (.keeps (s' := { s₁ with heap := s₁.heap.push (tupObj as) }) k rfl rfl), q.2⟩
theorem new_list {ρ : List Addr} {s : Shared} {vs : List V} {as : List Value} {ep : Nat} (hs : HS w.params B ρ H s) (va : VRs ρ s.heap vs as) :
    HS w.params B (ρ ++ [s.heap.objs.size]) (H ++ [.list vs]) { s with heap := s.heap.push (listObj as ep) } ∧ Ext ρ s (ρ ++ [s.heap.objs.size]) { s with heap := s.heap.push (listObj as ep) } ∧ (ρ ++ [s.heap.objs.size])[H.length]? = some s.heap.objs.size := by
  have k : ∀ b o, s.heap.get? b = some o → (s.heap.push (listObj as ep)).get? b = some o := fun b o e => Heap.get?_push_of_some _ e
  refine ⟨hs.more (s' := { s with heap := s.heap.push (listObj as ep) }) k (get_end _) ⟨as, ep, Heap.get?_push_size _ rfl, va.mono ⟨_, rfl⟩ (.of k)⟩, .more (s' := { s with heap := s.heap.push (listObj as ep) }) k (get_end _) rfl rfl, ?_⟩
  rw [← hs.hr.len, List.getElem?_append_right (Nat.le_refl _), Nat.sub_self]; rfl
theorem ev_List {es : List PySem.Expr} {pos : Pos} {Q : V → List O → Prop} (hp : es.all plainE = true) (h : EvEs prog w B names d es vals H fun vs H₁ => vs.length ≤ 1000 ∧ Q (.ref H₁.length) (H₁ ++ [.list vs])) : EvE prog w B names d (.List es pos) vals H Q := by
  constructor
  intro env ρ s sr A E r
  refine wpAny_List_spliced (evEs_spliced r hp h sr fun vs as H₁ ρ₁ s₁ vas sr₁ e₁ q => ⟨?_, ?_⟩)
  · rw [vas.length]; have := q.1; rw [sizeLine_eq]; walk_at "om"
  · obtain ⟨h1, h2, h3⟩ := new_list (ep := 0) sr₁.hs vas
    exact ⟨.ref H₁.length, _, _, .ref h3, h1, e₁.trans h2, q.2⟩
end
theorem bindL_not {kindOf : Str → Option NameKind} : ∀ {binds : List (Str × Value)} {m : Str → Option Value} {x : Str}, x ∉ binds.map (·.1) → bindL kindOf binds m x = m x
  | [], _, _, _ => rfl
  | (n, v) :: r, m, x, h => by
    rw [List.map_cons, List.mem_cons, not_or] at h
    unfold bindL
    rw [bindL_not h.2]
    split
    · exact if_neg h.1
    · rfl
theorem bindL_get {kindOf : Str → Option NameKind} : ∀ {binds : List (Str × Value)} {m : Str → Option Value} {i : Nat} {x : Str} {a : Value}, binds[i]? = some (x, a) → (binds.map (·.1)).Nodup → kindOf x = some .local → bindL kindOf binds m x = some a
  | [], _, _, _, _, h, _, _ => by simp at h
  | (n, v) :: r, m, i, x, a, h, hn, hk => by
    rw [List.map_cons, List.nodup_cons] at hn
    unfold bindL
    cases i with
    | zero =>
      simp only [List.getElem?_cons_zero, Option.some.injEq, Prod.mk.injEq] at h
      obtain ⟨rfl, rfl⟩ := h
      rw [bindL_not hn.1, if_pos hk, if_pos rfl]
    | succ i => exact bindL_get (by simpa using h) hn.2 hk
theorem bindC_not {kindOf : Str → Option NameKind} : ∀ {binds : List (Str × Value)} {m : Str → Option Value} {x : Str}, x ∉ binds.map (·.1) → bindC kindOf binds m x = m x
  | [], _, _, _ => rfl
  | (n, v) :: r, m, x, h => by
    rw [List.map_cons, List.mem_cons, not_or] at h
    unfold bindC
    rw [bindC_not h.2]
    split
    · rfl
    · exact if_neg h.1
theorem bindC_get {kindOf : Str → Option NameKind} : ∀ {binds : List (Str × Value)} {m : Str → Option Value} {i : Nat} {x : Str} {a : Value}, binds[i]? = some (x, a) → (binds.map (·.1)).Nodup → kindOf x ≠ some .local → bindC kindOf binds m x = some a
  | [], _, _, _, _, h, _, _ => by simp at h
  | (n, v) :: r, m, i, x, a, h, hn, hk => by
    rw [List.map_cons, List.nodup_cons] at hn
    unfold bindC
    cases i with
    | zero =>
      simp only [List.getElem?_cons_zero, Option.some.injEq, Prod.mk.injEq] at h
      obtain ⟨rfl, rfl⟩ := h
      rw [bindC_not hn.1, if_neg hk, if_pos rfl]
    | succ i => exact bindC_get (by simpa using h) hn.2 hk

/-- a def of the top's: its parameters come first among its names; what is not handed has a fixed default -/
structure FnIs (B : Heap) (f : Addr) (ps : List Str) (dv : List V) (names : Names) (body : List Stmt) : Prop where
  there : ∃ fo fd, B.get? f = some fo ∧ fo.data = .func fd ∧ fd.body = .stmts body ∧ fd.closure = [] ∧ fd.globals = mainGlobals ∧ fd.builtins = builtinsNs ∧ fd.scope.names = names ∧ fd.scope.kind = .function ∧ fd.scope.isCoroutine = false ∧
    fd.scope.isGenerator = false ∧ B.CodeRec fd.code fd.qualname ∧
    ∃ dfl : List Value, (∀ ρ h, VRs ρ h dv dfl) ∧ ∀ (s : Shared) (xs : List Value), (∀ b o, B.get? b = some o → s.heap.get? b = some o) → xs.length + dv.length = ps.length → BindsTo s fd ⟨xs, []⟩ (ps.zip (xs ++ dfl))
  lim : B.NoLimit
  first : (names.map (·.1)).take ps.length = ps
  kinds : ∀ x ∈ names.take ps.length, x.2 = .local ∨ x.2 = .cell
  nod : (names.map (·.1)).Nodup
  dbg : ∀ x ∈ names, (x.1 == ("__debug__" : Str)) = false ∧ (x.1 == ("__classdict__" : Str)) = false

noncomputable def vals0 (names : Names) (args : List V) : Vals := args.map some ++ List.replicate (names.length - args.length) none

section
variable {prog : Program} {w : World} {B : Heap} {names : Names} {d : Nat}

theorem call_def {f : Addr} {ps : List Str} {dv args : List V} {body : List Stmt} {H : List O} {Q : V → List O → Prop} (F : FnIs B f ps dv names body) (hl : args.length + dv.length = ps.length)
    (h : EvS prog w B names d body (vals0 names (args ++ dv)) H fun fl _ H' => match fl with | .ret v => Q v H' | .next => Q .none H' | _ => False) : CallC prog w B (d + 1) f args H Q := by
  constructor
  intro ρ s xs A R hs hv r hR
  obtain ⟨⟨fo, fd, hf, hd, hb, hclo, hg, hbi, hnm, hk, hco, hgen, hcd, dfl, hdv, hbind⟩, lim, first, kinds, nod, dbg⟩ := F
  have hxl := hv.length
  have hlim : s.heap.NoLimit := lim.keeps hs.base
  refine codeAny_call_function r.depth (hs.base _ _ hf) hd hco hgen hb (hcd.keeps hs.base) (hbind s xs hs.base (by rw [hxl]; exact hl) _ _ _ _ ?_)
  rw [hclo]
  have hal := VRs.append hv (hdv ρ s.heap)
  have hpl : ps.length = (xs ++ dfl).length := by rw [hal.length]; simp [hl]
  have bget : ∀ (i : Nat) (x : Str) (a : Value), (ps.zip (xs ++ dfl))[i]? = some (x, a) → ps[i]? = some x ∧ (xs ++ dfl)[i]? = some a := fun i x a e => by
    rw [List.getElem?_zip_eq_some] at e; exact e
  have pget : ∀ (i : Nat) (x : Str), ps[i]? = some x → ∃ k, names[i]? = some (x, k) ∧ (k = .local ∨ k = .cell) := fun i x e => by
    rw [← first, List.getElem?_take] at e
    split at e
    · rename_i hi
      rw [List.getElem?_map] at e
      obtain ⟨⟨y, k⟩, e1, e2⟩ := Option.map_eq_some_iff.mp e
      obtain rfl : y = x := e2
      exact ⟨k, e1, kinds (y, k) (List.mem_of_getElem? (i := i) (by rw [List.getElem?_take, if_pos hi]; exact e1))⟩
    · cases e
  have pnod : ps.Nodup := by rw [← first]; exact List.Sublist.nodup (List.take_sublist _ _) nod
  have bnod : ((ps.zip (xs ++ dfl)).map (·.1)).Nodup := by
    rw [List.map_fst_zip (Nat.le_of_eq hpl)]; exact pnod
  refine wpAny_newFunctionEnv_cells hk (fun y hy => ?_) fun env he s' x => ?_
  · obtain ⟨i, hi⟩ := List.mem_iff_getElem?.mp hy
    obtain ⟨e1, -⟩ := bget i y.1 y.2 hi
    obtain ⟨k, e2, hk'⟩ := pget i _ e1
    have := lookup_of_get nod e2
    rw [hnm]
    rcases hk' with rfl | rfl
    · exact .inl this
    · exact .inr ⟨this, cellsFrom_some _ _ _ (.inl this)⟩
  · have hle : env.scope.names = names := by rw [he]; exact hnm
    have ok : EnvOk env names := ⟨hle, by rw [he]; exact hk, by rw [he]; exact hg, by rw [he]; exact hbi, nod, dbg⟩
    have hL : env.locals = s.heap.objs.size := by rw [he]; rfl
    have hcells : env.cells = cellsFrom (s.heap.objs.size + 1) names [] := by rw [he]; show cellsFrom _ fd.scope.names [] = _; rw [hnm]
    have kp := x.toInCall.keep
    obtain ⟨h', tk, rfl⟩ := x.toInCall.same
    have hp : ∃ t, ρ = ρ ++ t := ⟨[], by simp⟩
    have tkp : TupKeep s.heap h' := .of kp
    refine ⟨hlim.keeps kp, codeAny_func ?_⟩
    have lowL : ∀ a ∈ ρ, a < s.heap.objs.size := fun a ha => by obtain ⟨o, e, _⟩ := hs.hr.own ha; exact Heap.lt_size e
    have cab : ∀ (y : Str) (c : Addr), env.cells.lookup y = some c → s.heap.objs.size < c := fun y c e => by rw [← hL]; exact x.above y c (mem_of_lookup e)
    have noB : ∀ c, s.heap.objs.size ≤ c → B.get? c = none := fun c hc => by
      cases e : B.get? c with
      | none => rfl
      | some o => exact absurd (Heap.lt_size (hs.base _ _ e)) (Nat.not_lt.mpr hc)
    have sr : SR w.params B env names (vals0 names (args ++ dv)) ρ H { s with heap := h', toks := tk } := by
      have vget : ∀ (i : Nat) (v : V), (vals0 names (args ++ dv))[i]? = some (some v) → (args ++ dv)[i]? = some v := fun i v e => by
        unfold vals0 at e
        by_cases hi : i < (args ++ dv).length
        · rw [List.getElem?_append_left (by simpa using hi), List.getElem?_map] at e
          obtain ⟨v', e1, e2⟩ := Option.map_eq_some_iff.mp e
          cases e2; exact e1
        · rw [List.getElem?_append_right (by simpa using hi)] at e
          rw [List.getElem?_replicate] at e
          split at e <;> cases e
      have bval : ∀ (i : Nat) (y : Str) (k : NameKind) (v : V), names[i]? = some (y, k) → (vals0 names (args ++ dv))[i]? = some (some v) → ∃ a, (ps.zip (xs ++ dfl))[i]? = some (y, a) ∧ VR ρ s.heap v a := fun i y k v e1 e2 => by
        have e3 := vget i v e2
        obtain ⟨a, e4, hr⟩ := hal.get e3
        have hi : i < ps.length := by rw [hpl]; exact (List.getElem?_eq_some_iff.mp e4).1
        have e5 : ps[i]? = some y := by
          rw [← first, List.getElem?_take, if_pos hi, List.getElem?_map, e1]; rfl
        exact ⟨a, by rw [List.getElem?_zip_eq_some]; exact ⟨e5, e4⟩, hr⟩
      refine ⟨ok, hs.keeps (s' := { s with heap := h', toks := tk }) kp, ⟨?_, ⟨_, x.toInCall.ns, fun i y v e1 e2 => ?_⟩, fun i y k v e1 e2 e3 => ?_, fun i y e1 => ?_, x.apart, ?_, fun y c e => ⟨?_, ?_⟩, fun y c e => ?_, ?_⟩⟩
      · unfold vals0
        have : (args ++ dv).length ≤ names.length := by
          have h1 : ps.length ≤ (names.map (·.1)).length := by rw [← first]; simp; walk_at "om"
          simp only [List.length_append, hl]; simpa using h1
        simp only [List.length_append, List.length_map, List.length_replicate] at this ⊢; walk_at "om"
      · obtain ⟨a, e3, hr⟩ := bval i y _ v e1 e2
        exact ⟨a, bindL_get e3 bnod (ok.kindOf e1), hr.mono hp tkp⟩
      · obtain ⟨a, e4, hr⟩ := bval i y k v e1 e3
        have hkd := ok.kindOf e1
        have hkl : k = .cell := by
          obtain ⟨e5, -⟩ := bget i y a e4
          obtain ⟨k', e6, hk'⟩ := pget i y e5
          rw [e1] at e6; cases e6
          rcases e2 with e2 | e2 <;> rcases hk' with hk' | hk' <;> subst e2 <;> first | rfl | cases hk'
        subst hkl
        obtain ⟨c, hc⟩ := Option.isSome_iff_exists.mp (cellsFrom_some (x := y) names (s.heap.objs.size + 1) [] (.inl (lookup_of_get nod e1)))
        rw [← hcells] at hc
        refine ⟨c, a, hc, ?_, hr.mono hp tkp⟩
        have := x.cell y c hc
        rw [bindC_get e4 bnod (by rw [hkd]; decide)] at this
        exact this
      · obtain ⟨c, hc⟩ := Option.isSome_iff_exists.mp (cellsFrom_some (x := y) names (s.heap.objs.size + 1) [] (.inl (lookup_of_get nod e1)))
        rw [← hcells] at hc
        exact ⟨c, _, hc, x.cell y c hc, noB _ (Nat.le_of_lt (cab y c hc))⟩
      · rw [hL]; exact fun q => Nat.lt_irrefl _ (lowL _ q)
      · exact fun q => Nat.lt_irrefl _ (Nat.lt_trans (lowL _ q) (cab y c e))
      · rw [hL]; exact Nat.ne_of_gt (cab y c e)
      · obtain ⟨o, ho, _⟩ := x.cell y c e; exact ⟨o, ho⟩
      · rw [hL]; exact noB _ (Nat.le_refl _)
    refine wpAny_mono (h.go' env ρ _ sr (A.deeper env) _ r.deeper) (fun fl s₂ ⟨f', vals', H', ρ', a1, a2, a3, q⟩ => ?_) fun _ _ e => e
    have ex : Ext ρ s ρ' s₂ := by
      refine ⟨?_, fun b o e hb => a3.keep b o (kp b o e) hb ?_ ?_, fun b hb o e => a3.live b o (kp b o e), tkp.trans a3.tup, a3.gens, a3.os⟩
      · obtain ⟨t, e, ht⟩ := a3.pre
        refine ⟨t, e, fun a ha => ?_⟩
        cases e' : s.heap.get? a with
        | none => rfl
        | some o => have := kp a o e'; rw [ht a ha] at this; cases this
      · rw [hL]; exact Nat.ne_of_lt (Heap.lt_size e)
      · intro y c e'; exact Nat.ne_of_lt (Nat.lt_trans (Heap.lt_size e) (cab y c e'))
    cases a1 with
    | ret hv' => exact hR _ _ H' ρ' s₂ hv' a2.hs ex q
    | next => exact hR .none .none H' ρ' s₂ .none a2.hs ex q
    | brk => exact q.elim
    | cont => exact q.elim
end
noncomputable def KeepOk (prog : Program) (w : World) (h : Heap) (f : Value) : Prop := ∃ k, (k = Keeper.frame ∨ k = Keeper.machine ∨ k = Keeper.boundFrame) ∧ Looks (model prog w) h (keeperOf f) k

section
variable (prog : Program) (w : World) (B : Heap)
/-- a value is called -/
noncomputable def CalV (d : Nat) (f : V) (vs : List V) (H : List O) (Q : V → List O → Prop) : Prop :=
  ∃ fv, f = .val fv ∧ (∀ h : Heap, (∀ b o, B.get? b = some o → h.get? b = some o) → KeepOk prog w h fv) ∧ ∀ ρ s xs, HS w.params B ρ H s → VRs ρ s.heap vs xs → WT prog w B VR d (call fv xs) ρ s Q
/-- a method is looked up -/
noncomputable def MethV (d : Nat) (name : Str) (ov : V) (H : List O) (f : Value) (first : List V) : Prop :=
  ∀ ρ s x pl A E (Q : Value × List Value → Shared → Prop), HS w.params B ρ H s → VR ρ s.heap ov x → Room A d → (∀ fs, VRs ρ s.heap first fs → Q (f, fs) s) → wpAny (model prog w) A (getMethod x name pl) Q E s
end

noncomputable def plainBase : PySem.Expr → Bool
  | .Call (.Name _ _) [] [] _ => false
  | _ => true
theorem base_plain {o : PySem.Expr} (h : plainBase o = true) (attr : Str) (env : Env) (whole : Sem Value) : attributeBase o attr env whole = whole := by
  unfold attributeBase
  split
  · cases h
  · rfl
theorem backToKw_nil (pos : Pos) (env : Env) : backToKw pos (keywordEach [] env) = [] := rfl
theorem few_of {args : List PySem.Expr} (hp : args.all plainE = true) (hl : args.length < 29) (pos : Pos) (env : Env) : methodCallForm (args.length + 0) (backTo pos (starEach args env)) (backToKw pos (keywordEach [] env)) = true := by
  have : ∀ (args : List PySem.Expr), args.all plainE = true → (backTo pos (starEach args env)).all (fun x => !x.1) = true := by
    intro args
    induction args with
    | nil => intro _; rfl
    | cons e r ih =>
      intro h
      rw [List.all_cons, Bool.and_eq_true] at h
      rw [star_plain h.1]
      show ((!false) && (backTo pos (starEach r env)).all (fun x => !x.1)) = true
      rw [ih h.2]; rfl
  unfold methodCallForm
  rw [this args hp]
  show (true && true && decide (args.length + 0 + 0 < 30)) = true
  rw [decide_eq_true (by walk_at "om")]; rfl
theorem nostar_of {args : List PySem.Expr} (hp : args.all plainE = true) (pos : Pos) (env : Env) : (backTo pos (starEach args env)).any (·.1) = false := by
  induction args with
  | nil => rfl
  | cons e r ih =>
    rw [List.all_cons, Bool.and_eq_true] at hp
    rw [star_plain hp.1]
    show (false || (backTo pos (starEach r env)).any (·.1)) = false
    rw [ih hp.2]; rfl

section
variable {prog : Program} {w : World} {B : Heap} {names : Names} {d : Nat} {vals : Vals} {H : List O} {K : Frag}

theorem evalArgs_of {M : Model} {A : Around} {E : Value → Shared → Prop} {s : Shared} {f : Value} {args : List PySem.Expr} {pos : Pos} {env : Env} {Q : Args → Shared → Prop} (hp : args.all plainE = true)
    (h : wpAny M A (spliced (backTo pos (starEach args env))) (fun vs s' => Q ⟨vs, []⟩ s') E s) : wpAny M A (evalArgs f true (backTo pos (starEach args env)) []) Q E s := by
  cases args with
  | nil =>
    unfold evalArgs
    show wpAny M A (spliced [] >>= _) Q E s
    refine wpAny_bind (wpAny_mono h (fun vs s' h' => ?_) fun _ _ x => x)
    refine wpAny_bind (wpAny_pure ?_)
    refine wpAny_holding ?_
    exact wpAny_bind (wpAny_pure (wpAny_bind (wpAny_pure (wpAny_pure h'))))
  | cons e r =>
    rw [List.all_cons, Bool.and_eq_true] at hp
    rw [star_plain hp.1] at h ⊢
    exact Calls.evalArgs_plain h

theorem callV_go {f : V} {first : List V} {args : List PySem.Expr} {pos : Pos} {env : Env} {A : Around} {E : Value → Shared → Prop} {ρ : List Addr} {s : Shared} {Q : V → List O → Prop} {fv : Value} {fs : List Value} (hp : args.all plainE = true) (r : Room A d)
    (sr : SR w.params B env names vals ρ H s) (hf : f = .val fv) (hfs : VRs ρ s.heap first fs) (h : EvEs prog w B names d args vals H fun vs H₂ => CalV prog w B d f (first ++ vs) H₂ Q) :
    wpAny (model prog w) A (callWith pos fv fs (backTo pos (starEach args env)) []) (fun val s' => ∃ v H' ρ', VR ρ' s'.heap v val ∧ HS w.params B ρ' H' s' ∧ Ext ρ s ρ' s' ∧ Q v H') E s := by
  subst hf
  refine callWith_of (P := fun h => KeepOk prog w h fv) (by rw [nostar_of hp]; rfl) (fun h k => k) (evalArgs_of hp (evEs_spliced r hp h sr fun vs as H₂ ρ₂ s₂ vas sr₂ e₂ q => ?_))
  obtain ⟨fv', e, k, c⟩ := q
  cases e
  exact ⟨k s₂.heap sr₂.hs.base, (c ρ₂ s₂ (fs ++ as) sr₂.hs (.append (e₂.vrs hfs) vas)).at e₂ r fun _ _ q => q⟩

theorem ev_CallName {x : Str} {np pos : Pos} {args : List PySem.Expr} {Q : V → List O → Prop} (hp : args.all plainE = true)
    (h : EvE prog w B names d (.Name x np) vals H fun f H₁ => (∃ fv, f = .val fv) ∧ EvEs prog w B names d args vals H₁ fun vs H₂ => CalV prog w B d f vs H₂ Q) : EvE prog w B names d (.Call (.Name x np) args [] pos) vals H Q := by
  constructor
  intro env ρ s sr A E r
  refine wpAny_Call_Name_kw (h.go sr r fun f a H₁ ρ₁ s₁ va sr₁ e₁ ⟨⟨fv, hf⟩, h₁⟩ => ?_)
  subst hf
  cases va
  exact wpAny_mono (callV_go (first := []) hp r sr₁ rfl .nil h₁) (fun _ _ ⟨v, H', ρ', a, b, c, q⟩ => ⟨v, H', ρ', a, b, e₁.trans c, q⟩) fun _ _ e => e

theorem ev_CallMeth {o : PySem.Expr} {name : Str} {apos pos : Pos} {args : List PySem.Expr} {Q : V → List O → Prop} (hb : plainBase o = true) (hp : args.all plainE = true) (hl : args.length < 29) (hline : (apos.endLine == pos.line) = true)
    (h : EvE prog w B names d o vals H fun ov H₁ => ∃ fv first, MethV prog w B d name ov H₁ fv first ∧ EvEs prog w B names d args vals H₁ fun vs H₂ => CalV prog w B d (.val fv) (first ++ vs) H₂ Q) : EvE prog w B names d (.Call (.Attribute o name apos) args [] pos) vals H Q := by
  constructor
  intro env ρ s sr A E r
  have hpos : ∀ few, methodCallPos few o env apos pos = pure pos := fun few => by unfold methodCallPos; rw [hline, Bool.or_true]; rfl
  have he : eval (.Call (.Attribute o name apos) args [] pos) env = (attributeBase o name env (eval o env) >>= fun ov => standAt apos.atName >>= fun _ => methodCall o name apos pos env ov (args.length + 0) (backTo pos (starEach args env)) (backToKw pos (keywordEach [] env))) := rfl
  rw [he, base_plain hb]
  refine wpAny_bind (h.go sr r fun ov a H₁ ρ₁ s₁ va sr₁ e₁ ⟨fv, first, hm, h₁⟩ => wpAny_bind (wpAny_standAt ?_))
  unfold methodCall
  rw [few_of hp hl]
  refine wpAny_bind (wpAny_holding ?_)
  show wpAny _ _ (getMethod a name _) _ _ _
  refine hm ρ₁ s₁ a _ A E _ sr₁.hs va r fun fs hfs => ?_
  show wpAny _ _ (methodCallPos _ _ _ _ _ >>= _) _ _ _
  rw [hpos]
  refine wpAny_bind (wpAny_pure ?_)
  exact wpAny_mono (callV_go (first := first) hp r sr₁ rfl hfs h₁) (fun _ _ ⟨v, H', ρ', a, b, c, q⟩ => ⟨v, H', ρ', a, b, e₁.trans c, q⟩) fun _ _ e => e

/-- calls of the top's defs -/
theorem keep_fn {f : Addr} {ps : List Str} {dv : List V} {names' : Names} {body : List Stmt} (F : FnIs B f ps dv names' body) (h : Heap) (k : ∀ b o, B.get? b = some o → h.get? b = some o) : KeepOk prog w h (.ref f) := by
  obtain ⟨⟨fo, fd, hf, hd, _⟩, _⟩ := F
  obtain ⟨oc, od, dt, sl⟩ := fo
  dsimp only at hd; subst hd
  exact ⟨.frame, .inl rfl, (Looks.ld (part := none) (k _ _ hf)).andThen .now⟩
theorem calV_fn {f : Addr} {ps : List Str} {dv : List V} {names' : Names} {body : List Stmt} {d' : Nat} {vs : List V} {Q : V → List O → Prop} (F : FnIs B f ps dv names' body) (h : CallC prog w B d' f vs H Q) (hd : d' ≤ d) : CalV prog w B d (.val (.ref f)) vs H Q := by
  refine ⟨_, rfl, fun h k => keep_fn F h k, fun ρ s xs hs hv A E r => wpAny_call (h.go' ρ s xs A _ hs hv (r.mono hd) fun v val H' ρ' s' a b c q => ⟨v, H', ρ', a, b, c, q⟩)⟩
theorem keep_builtin {id : String} (h : Heap) : KeepOk prog w h (.builtin id) := ⟨.machine, .inr (.inl rfl), .now⟩
theorem keep_type {T : String} (h : Heap) : KeepOk prog w h (.type T) := ⟨.machine, .inr (.inl rfl), .now⟩

/-- classes of the top's -/
structure ClsIs (K : Frag) (C : Addr) : Prop where
  ga : findIn K (.ref C) "__getattribute__" = some (some (.builtin "object.__getattribute__"))
  gh : findIn K (.ref C) "__getattr__" = some none
  dict : hasDictIn K C = true
structure AttrIs (K : Frag) (C : Addr) (name : Str) : Prop where
  no : findIn K (.ref C) name = some none
structure MethIs (K : Frag) (C : Addr) (name : Str) (f : Addr) : Prop where
  at_ : findIn K (.ref C) name = some (some (.ref f))
  fn : typeIn K (.ref f) = some (.type "function")

inductive FLook : List (Str × V) → Str → V → Prop
  | here {x : Str} {v : V} {r : List (Str × V)} : FLook ((x, v) :: r) x v
  | there {p : Str × V} {x : Str} {v : V} {r : List (Str × V)} : FLook r x v → FLook (p :: r) x v
theorem FLook.mem {fs : List (Str × V)} {x : Str} {v : V} (h : FLook fs x v) : (x, v) ∈ fs := by
  induction h with
  | here => exact .head _
  | there _ ih => exact .tail _ ih

theorem isStr_str (y x : Str) (t : Tok) : (Value.str y t).isStr x = decide (y = x) := by
  show (y == x) = _
  by_cases h : y = x
  · subst h; simp
  · rw [decide_eq_false h]; exact beq_eq_false_iff_ne.mpr h
theorem nrs_get {ρ : List Addr} {h : Heap} : ∀ {fs : List (Str × V)} {ds : List DictEntry} {x : Str} {v : V}, NRs ρ h fs ds → (fs.map (·.1)).Nodup → (x, v) ∈ fs → ∃ e, ds.find? (·.key.isStr x) = some e ∧ VR ρ h v e.val
  | _, _, _, _, .nil, _, hm => nomatch hm
  | _, _, x, v, .cons (x := y) (t := t) hk hv hr, hn, hm => by
    rw [List.map_cons, List.nodup_cons] at hn
    rw [List.find?_cons, hk, isStr_str]
    rcases List.mem_cons.mp hm with e | hm
    · cases e; exact ⟨_, by simp, hv⟩
    · have hne : ¬ y = x := fun q => hn.1 (List.mem_map.mpr ⟨(x, v), hm, q.symm⟩)
      simp only [hne, decide_false, Bool.false_eq_true, if_false]
      exact nrs_get hr hn.2 hm
theorem nrs_none {ρ : List Addr} {h : Heap} : ∀ {fs : List (Str × V)} {ds : List DictEntry} {x : Str}, NRs ρ h fs ds → x ∉ fs.map (·.1) → ds.find? (·.key.isStr x) = none ∧ ds.any (·.refKey) = false
  | _, _, _, .nil, _ => ⟨rfl, rfl⟩
  | _, _, x, .cons (x := y) (t := t) hk hv hr, hn => by
    rw [List.map_cons, List.mem_cons, not_or] at hn
    have ih := nrs_none hr hn.2
    rw [List.find?_cons, List.any_cons, hk, isStr_str, decide_eq_false (fun q => hn.1 q.symm), ih.1, ih.2]
    exact ⟨rfl, by simp [DictEntry.refKey, hk]⟩

theorem inst_at {ρ : List Addr} {s : Shared} {n dn : Nat} {C : Addr} {fs : List (Str × V)} {x : Value} (hs : HS w.params B ρ H s) (hx : VR ρ s.heap (.ref n) x) (hi : H[n]? = some (.inst C dn)) (hd : H[dn]? = some (.ns fs)) :
    ∃ a dx ds ep, x = .ref a ∧ ρ[n]? = some a ∧ ρ[dn]? = some dx ∧ s.heap.get? dx = some (dictObj ds ep) ∧ NRs ρ s.heap fs ds ∧ (fs.map (·.1)).Nodup ∧ InstAt s.heap a (instObj C dx) C (some (dictObj ds ep)) := by
  cases hx with
  | ref hr =>
    rename_i a
    obtain ⟨dx, e1, e2⟩ := hs.hr.obj n _ a hi hr
    obtain ⟨ds, ep, e3, e4, e5⟩ := hs.hr.obj dn _ dx hd e1
    exact ⟨a, dx, ds, ep, rfl, hr, e1, e3, e4, e5, ⟨e2, rfl, rfl, e3⟩⟩

theorem methV_inst {n dn : Nat} {C f : Addr} {fs : List (Str × V)} {name : Str} (X : K.In B) (c : ClsIs K C) (hi : H[n]? = some (.inst C dn)) (hd : H[dn]? = some (.ns fs)) (m : MethIs K C name f) (ha : name ∉ fs.map (·.1)) :
    MethV prog w B d name (.ref n) H (.ref f) [.ref n] := by
  intro ρ s x pl A E Q hs hx r q
  obtain ⟨a, dx, ds, ep, rfl, e1, e2, e3, e4, e5, I⟩ := inst_at hs hx hi hd
  refine method_fn (fun b o e => hs.base b o (X b o e)) I c.ga c.gh m.at_ m.fn ?_ (q [.ref a] (.cons (.ref e1) .nil))
  obtain ⟨z1, z2⟩ := nrs_none e4 ha
  show (lookIn name (dictObj ds ep)).map _ = _
  unfold lookIn
  dsimp only
  rw [z1, z2]; rfl

noncomputable def plainV : V → Bool
  | .val _ => false
  | _ => true
theorem handed_plain {ρ : List Addr} {h : Heap} {v : V} {x : Value} (hv : VR ρ h v x) (hp : plainV v = true) : handedIn x = true := by
  cases hv <;> first | rfl | cases hp

theorem ev_Attr {o : PySem.Expr} {attr : Str} {pos : Pos} {Q : V → List O → Prop} (X : K.In B) (hb : plainBase o = true)
    (h : EvE prog w B names d o vals H fun ov H₁ => ∃ n C dn fs u, ov = .ref n ∧ ClsIs K C ∧ H₁[n]? = some (.inst C dn) ∧ H₁[dn]? = some (.ns fs) ∧ AttrIs K C attr ∧ FLook fs attr u ∧ plainV u = true ∧ Q u H₁) : EvE prog w B names d (.Attribute o attr pos) vals H Q := by
  constructor
  intro env ρ s sr A E r
  refine Attribute_any_ (h.go sr r fun ov a H₁ ρ₁ s₁ va sr₁ e₁ ⟨n, C, dn, fs, u, hov, c, hi, hd, ha, hl, hu, q⟩ => ?_) (by
    show (attributeBase o attr env (eval o env) >>= _) = _
    rw [base_plain hb])
  subst hov
  obtain ⟨a, dx, ds, ep, rfl, z1, z2, z3, z4, z5, I⟩ := inst_at sr₁.hs va hi hd
  obtain ⟨e, he, hv⟩ := nrs_get z4 z5 hl.mem
  refine get_value (fun b o e => sr₁.hs.base b o (X b o e)) I c.ga (findObj_own c.dict ha.no rfl (v := e.val) ?_) (handed_plain hv hu) ⟨u, H₁, ρ₁, hv, sr₁.hs.toks _, e₁.trans (.toks _), q⟩
  show lookIn attr (dictObj ds ep) = _
  unfold lookIn
  dsimp only
  rw [he]
end
section
variable {prog : Program} {w : World} {B : Heap} {d : Nat} {H : List O}

/-- the end of a step that changes nothing that stood -/
theorem fin {α β : Type} {rel : List Addr → Heap → β → α → Prop} {ρ : List Addr} {s s' : Shared} {v : β} {x : α} {Q : β → List O → Prop} (hs : HS w.params B ρ H s) (k : ∀ b o, s.heap.get? b = some o → s'.heap.get? b = some o) (hv : rel ρ s'.heap v x) (q : Q v H)
    (hg : s'.gens = s.gens := by rfl) (ho : s'.os = s.os := by rfl) : ∃ v H' ρ', rel ρ' s'.heap v x ∧ HS w.params B ρ' H' s' ∧ Ext ρ s ρ' s' ∧ Q v H' :=
  ⟨v, H, ρ, hv, hs.keeps k, .keeps k hg ho, q⟩

theorem w2_int {t : Value → Value → Sem Value} {a b c : Int} {Q : V → List O → Prop} (h : ∀ (A : Around) (E : Value → Shared → Prop) (s : Shared) (t1 t2 : Tok) (Q' : Value → Shared → Prop), Q' (.int c s.toks) { s with toks := s.toks + 1 } → wpAny (model prog w) A (t (.int a t1) (.int b t2)) Q' E s) (q : Q (.int c) H) :
    W2 prog w B d t (.int a) (.int b) H Q := by
  intro ρ s x y hs hx hy A E r
  cases hx; cases hy
  exact h A E s _ _ _ (fin hs (fun _ _ e => e) (.int _ _) q)
theorem w2_intb {t : Value → Value → Sem Value} {a b : Int} {c : Bool} {Q : V → List O → Prop} (h : ∀ (A : Around) (E : Value → Shared → Prop) (s : Shared) (t1 t2 : Tok) (Q' : Value → Shared → Prop), Q' (.bool c) s → wpAny (model prog w) A (t (.int a t1) (.int b t2)) Q' E s) (q : Q (.bool c) H) :
    W2 prog w B d t (.int a) (.int b) H Q := by
  intro ρ s x y hs hx hy A E r
  cases hx; cases hy
  exact h A E s _ _ _ (fin hs (fun _ _ e => e) (.bool _) q)
theorem w2_strb {t : Value → Value → Sem Value} {a b : Str} {c : Bool} {Q : V → List O → Prop} (h : ∀ (A : Around) (E : Value → Shared → Prop) (s : Shared) (t1 t2 : Tok) (Q' : Value → Shared → Prop), Q' (.bool c) s → wpAny (model prog w) A (t (.str a t1) (.str b t2)) Q' E s) (q : Q (.bool c) H) :
    W2 prog w B d t (.str a) (.str b) H Q := by
  intro ρ s x y hs hx hy A E r
  cases hx; cases hy
  exact h A E s _ _ _ (fin hs (fun _ _ e => e) (.bool _) q)
variable {a b : Int} {x y : Str} {Q : V → List O → Prop}
theorem w_add (q : Q (.int (a + b)) H) : W2 prog w B d (binaryOp .Add) (.int a) (.int b) H Q := w2_int (fun _ _ _ _ _ _ h => add_int h) q
theorem w_sub (q : Q (.int (a - b)) H) : W2 prog w B d (binaryOp .Sub) (.int a) (.int b) H Q := w2_int (fun _ _ _ _ _ _ h => sub_int h) q
theorem w_mul (h0 : IntMulOk a b) (q : Q (.int (a * b)) H) : W2 prog w B d (binaryOp .Mult) (.int a) (.int b) H Q := w2_int (fun _ _ _ _ _ _ h => mul_int h h0) q
theorem w_div (h0 : b ≠ 0) (h1 : Builtin.divisionGoesByPylong a b = false) (q : Q (.int (a.fdiv b)) H) : W2 prog w B d (binaryOp .FloorDiv) (.int a) (.int b) H Q := w2_int (fun _ _ _ _ _ _ h => floordiv_int h0 h (.inl h1)) q
theorem w_mod (h0 : b ≠ 0) (q : Q (.int (a.fmod b)) H) : W2 prog w B d (binaryOp .Mod) (.int a) (.int b) H Q := w2_int (fun _ _ _ _ _ _ h => mod_int' h0 h) q
theorem w_pow (h0 : 0 ≤ b) (h1 : (Builtin.Int.intBits a : Int) * b ≤ 2 ^ 27) (q : Q (.int (a ^ b.toNat)) H) : W2 prog w B d (binaryOp .Pow) (.int a) (.int b) H Q := w2_int (fun _ _ _ _ _ _ h => pow_int h0 h1 h) q
theorem w_shl (h0 : 0 ≤ b) (h1 : (Builtin.Int.intBits a : Int) + b ≤ 2 ^ 27) (q : Q (.int (a * 2 ^ b.toNat)) H) : W2 prog w B d (binaryOp .LShift) (.int a) (.int b) H Q := w2_int (fun _ _ _ _ _ _ h => lshift_int h0 h1 h) q
theorem w_shr (h0 : 0 ≤ b) (q : Q (.int (a.fdiv (2 ^ b.toNat))) H) : W2 prog w B d (binaryOp .RShift) (.int a) (.int b) H Q := w2_int (fun _ _ _ _ _ _ h => rshift_int h0 h) q
theorem w_band (q : Q (.int (Builtin.bitAnd a b)) H) : W2 prog w B d (binaryOp .BitAnd) (.int a) (.int b) H Q := w2_int (fun _ _ _ _ _ _ h => and_int h) q
theorem w_eq (q : Q (.bool (a == b)) H) : W2 prog w B d (compareOp .Eq) (.int a) (.int b) H Q := w2_intb (fun _ _ _ _ _ _ h => eq_int h) q
theorem w_ne (q : Q (.bool (a != b)) H) : W2 prog w B d (compareOp .NotEq) (.int a) (.int b) H Q := w2_intb (fun _ _ _ _ _ _ h => ne_int h) q
theorem w_lt (q : Q (.bool (decide (a < b))) H) : W2 prog w B d (compareOp .Lt) (.int a) (.int b) H Q := w2_intb (fun _ _ _ _ _ _ h => lt_int h) q
theorem w_le (q : Q (.bool (decide (a ≤ b))) H) : W2 prog w B d (compareOp .LtE) (.int a) (.int b) H Q := w2_intb (fun _ _ _ _ _ _ h => le_int h) q
theorem w_gt (q : Q (.bool (decide (a > b))) H) : W2 prog w B d (compareOp .Gt) (.int a) (.int b) H Q := w2_intb (fun _ _ _ _ _ _ h => gt_int h) q
theorem w_eqs (q : Q (.bool (x == y)) H) : W2 prog w B d (compareOp .Eq) (.str x) (.str y) H Q := w2_strb (fun _ _ _ _ _ _ h => eq_str h) q
noncomputable def notVal : V → Bool
  | .val _ => false
  | _ => true
noncomputable def isNoneV : V → Bool
  | .none => true
  | _ => false
theorem none_plain {v : V} {ρ : List Addr} {h : Heap} {x : Value} (hv : VR ρ h v x) (n : notVal v = true) : plainIs x .none = true ∧ (x == Value.none) = isNoneV v := by
  cases hv <;> first | exact ⟨rfl, rfl⟩ | cases n
theorem w_isnot_none {v : V} (n : notVal v = true) (q : Q (.bool (!isNoneV v)) H) : W2 prog w B d (compareOp .IsNot) v .none H Q := by
  intro ρ s x y hs hx hy A E r
  obtain ⟨h1, h2⟩ := none_plain hx n
  cases hy
  refine wpAny_isNot_plain h1 (fin hs (fun _ _ e => e) (v := .bool _) (.bool _) ?_)
  rw [h2]; exact q

theorem wtr_bool {b : Bool} {Q : Bool → List O → Prop} (q : Q b H) : WTr prog w B d (.bool b) H Q := by
  intro ρ s x hs hx A E r
  cases hx
  exact wpAny_truthy_bool (fin hs (fun _ _ e => e) rfl q)
/-- an own list, in the heap -/
theorem list_at {ρ : List Addr} {s : Shared} {n : Nat} {vs : List V} {x : Value} (hs : HS w.params B ρ H s) (hx : VR ρ s.heap (.ref n) x) (hn : H[n]? = some (.list vs)) :
    ∃ a items ep, x = .ref a ∧ ρ[n]? = some a ∧ s.heap.get? a = some (listObj items ep) ∧ VRs ρ s.heap vs items := by
  cases hx with
  | ref hr =>
    obtain ⟨items, ep, h1, h2⟩ := hs.hr.obj n _ _ hn hr
    exact ⟨_, items, ep, rfl, hr, h1, h2⟩
theorem isList_of {h : Heap} {a : Addr} {items : List Value} {ep : Nat} (e : h.get? a = some (listObj items ep)) : h.IsList a items.toArray := ⟨_, e, rfl, ep, rfl⟩

theorem w_list_add {n m : Nat} {vs us : List V} (h1 : H[n]? = some (.list vs)) (h2 : H[m]? = some (.list us)) (hl : vs.length + us.length ≤ 1000000) (q : Q (.ref H.length) (H ++ [.list (vs ++ us)])) : W2 prog w B d (binaryOp .Add) (.ref n) (.ref m) H Q := by
  intro ρ s x y hs hx hy A E r
  obtain ⟨a, items, ep, rfl, ha, g1, g2⟩ := list_at hs hx h1
  obtain ⟨a', items', ep', rfl, ha', g1', g2'⟩ := list_at hs hy h2
  have e : items.toArray ++ items'.toArray = (items ++ items').toArray := by simp
  have l1 := g2.length
  have l2 := g2'.length
  refine concat_meets ⟨_, g1, rfl⟩ ⟨_, g1', rfl⟩ noFill_list_add seq_list_add PySem.F.slot_list_add PySem.F.entry_list_add (PySem.F.args_list_add_2 _ _) (list_addW a a' items.toArray items'.toArray ep ep' none none #[] #[] (by rw [List.size_toArray, List.size_toArray, sizeLine_eq]; walk_at "om")) ⟨g1, g1', ?_⟩
  rw [e]
  obtain ⟨z1, z2, z3⟩ := new_list (ep := 0) hs (g2.append g2')
  exact ⟨_, _, _, .ref z3, z1, z2, q⟩

theorem w_tup_add {vs us : List V} (hl : vs.length + us.length ≤ 1000000) (q : Q (.tup (vs ++ us)) H) : W2 prog w B d (binaryOp .Add) (.tup vs) (.tup us) H Q := by
  intro ρ s x y hs hx hy A E r
  obtain ⟨t, xs, rfl, ho, hv⟩ := hx.tup_inv
  obtain ⟨t', ys, rfl, ho', hv'⟩ := hy.tup_inv
  have e : xs.toArray ++ ys.toArray = (xs ++ ys).toArray := by simp
  have l1 := hv.length
  have l2 := hv'.length
  by_cases hx : xs = []
  · subst hx
    obtain rfl : vs = [] := List.eq_nil_of_length_eq_zero (by simpa using l1.symm)
    exact concat_meets ⟨_, ho, rfl⟩ ⟨_, ho', rfl⟩ noFill_tuple_add seq_tuple_add PySem.F.slot_tuple_add PySem.F.entry_tuple_add (PySem.F.args_tuple_add_2 _ _)
      (tuple_addW0 t t' #[] ys.toArray 0 0 none none #[] #[] (by simp)) ⟨ho, ho', fin hs (fun _ _ e => e) (v := .tup us) (.tup ho' hv') q⟩
  · by_cases hy : ys = []
    · subst hy
      obtain rfl : us = [] := List.eq_nil_of_length_eq_zero (by simpa using l2.symm)
      exact concat_meets ⟨_, ho, rfl⟩ ⟨_, ho', rfl⟩ noFill_tuple_add seq_tuple_add PySem.F.slot_tuple_add PySem.F.entry_tuple_add (PySem.F.args_tuple_add_2 _ _)
        (tuple_addW1 t t' xs.toArray #[] 0 0 none none #[] #[] (by simpa using hx) (by simp)) ⟨ho, ho', fin hs (fun _ _ e => e) (v := .tup vs) (.tup ho hv) (by simpa using q)⟩
    · refine concat_meets ⟨_, ho, rfl⟩ ⟨_, ho', rfl⟩ noFill_tuple_add seq_tuple_add PySem.F.slot_tuple_add PySem.F.entry_tuple_add (PySem.F.args_tuple_add_2 _ _)
        (tuple_addW2 t t' xs.toArray ys.toArray 0 0 none none #[] #[] (by simpa using hx) (by simpa using hy) (by rw [List.size_toArray, List.size_toArray, sizeLine_eq]; walk_at "om")) ⟨ho, ho', ?_⟩
      rw [e]
      have k : ∀ b o, s.heap.get? b = some o → (s.heap.push (tupObj (xs ++ ys))).get? b = some o := fun b o e => Heap.get?_push_of_some _ e
      exact fin hs (s' := { s with heap := s.heap.push (tupObj (xs ++ ys)) }) k (v := .tup (vs ++ us)) (.tup (Heap.get?_push_size _ rfl) ((hv.append hv').mono ⟨[], by simp⟩ (.of k))) q

theorem rep_one {α : Type} (x : α) : ∀ n : Nat, List.foldl (fun x1 x2 => x1 ++ x2) #[] (List.replicate n #[x]) = (List.replicate n x).toArray := by
  have : ∀ (n : Nat) (acc : Array α), List.foldl (fun x1 x2 => x1 ++ x2) acc (List.replicate n #[x]) = acc ++ (List.replicate n x).toArray := by
    intro n
    induction n with
    | zero => intro acc; simp
    | succ n ih =>
      intro acc
      rw [List.replicate_succ, List.foldl_cons, ih, List.replicate_succ]
      apply Array.toList_inj.mp
      simp
  intro n
  rw [this]; simp
theorem VRs.rep {ρ : List Addr} {h : Heap} {v : V} {x : Value} (hv : VR ρ h v x) : ∀ n : Nat, VRs ρ h (List.replicate n v) (List.replicate n x)
  | 0 => .nil
  | n + 1 => .cons hv (VRs.rep hv n)
theorem w_list_mul {n : Nat} {v : V} {k : Int} (h1 : H[n]? = some (.list [v])) (h0 : 0 ≤ k) (hk : k ≤ 1000000) (q : Q (.ref H.length) (H ++ [.list (List.replicate k.toNat v)])) : W2 prog w B d (binaryOp .Mult) (.ref n) (.int k) H Q := by
  intro ρ s x y hs hx hy A E r
  obtain ⟨a, items, ep, rfl, ha, g1, g2⟩ := list_at hs hx h1
  cases hy with
  | int _ u =>
    cases g2 with
    | cons g3 g4 =>
      cases g4
      rename_i x
      refine wpAny_binaryOp_repeat_ref (T := "list") (U := "int") (by decide) ⟨_, g1, rfl⟩ (fun s' => typeIs_int s' k u) noFill_list_mul F.fills_int_mul F.slot_int_rmul repeat_list F.slot_int_index.lookup
        (call_meets F.slot_int_rmul (typeIs_int s k u) F.entry_int_rmul (F.args_int_rmul_2 _ _) (int___rmul___int_list k u a #[x] ep)
          ⟨g1, rfl, ⟨_, g1, rfl⟩, call_meets F.slot_list_mul ⟨_, g1, rfl⟩ F.entry_list_mul (F.args_list_mul_2 _ _)
            (AutoListH.list___mul___list_int_3 a #[x] ep k u (by simp [Builtin.List.listFitsIndex]; walk_at "om") (by simp; walk_at "om") (by simp [Builtin.List.listTooLong, sizeLine]; walk_at "om"))
            ⟨g1, ?_⟩⟩)
      obtain ⟨z1, z2, z3⟩ := new_list (ep := 0) hs (VRs.rep g3 k.toNat)
      have e : s.heap.push { cls := .type "list", data := Data.seq (List.foldl (fun x1 x2 => x1 ++ x2) #[] (List.replicate (if (#[x] : Array Value).isEmpty = true then 0 else k.toNat) #[x])) } = s.heap.push (listObj (List.replicate k.toNat x) 0) := by
        rw [show (#[x] : Array Value).isEmpty = false from rfl]
        simp only [Bool.false_eq_true, if_false]
        rw [rep_one]
      refine (show (fun h' => ∃ v H' ρ', VR ρ' h' v (.ref s.heap.objs.size) ∧ HS w.params B ρ' H' { s with heap := h' } ∧ Ext ρ s ρ' { s with heap := h' } ∧ Q v H') (s.heap.push { cls := .type "list", data := Data.seq (List.foldl (fun x1 x2 => x1 ++ x2) #[] (List.replicate (if (#[x] : Array Value).isEmpty = true then 0 else k.toNat) #[x])) }) from ?_)
      rw [e]
      exact ⟨.ref H.length, _, _, .ref z3, z1, z2, q⟩
end
theorem mapSeq_at {h : Heap} {a : Addr} {items items' : List Value} {ep : Nat} {f : Array Value → Array Value} (e : h.get? a = some (listObj items ep)) (hf : f items.toArray = items'.toArray) :
    ∃ ep', (h.update a (Obj.mapSeq f)).get? a = some (listObj items' ep') := by
  have q : IsL h a items.toArray ep := e
  have := PySem.IsL.update q f
  rw [hf] at this
  exact ⟨_, this⟩

section
variable {prog : Program} {w : World} {B : Heap} {names : Names} {vals : Vals} {d : Nat} {H : List O} {Q : V → List O → Prop}

theorem put_list {ρ : List Addr} {s : Shared} {n : Nat} {a : Addr} {items items' : List Value} {ep : Nat} {vs' : List V} {f : Array Value → Array Value} {tk : Nat} (hs : HS w.params B ρ H s) (ha : ρ[n]? = some a) (e : s.heap.get? a = some (listObj items ep)) (hf : f items.toArray = items'.toArray) (hv : VRs ρ s.heap vs' items') :
    HS w.params B ρ (H.set n (.list vs')) { s with heap := s.heap.update a (Obj.mapSeq f), toks := tk } ∧ Ext ρ s ρ { s with heap := s.heap.update a (Obj.mapSeq f), toks := tk } := by
  obtain ⟨ep', e'⟩ := mapSeq_at e hf
  have k : ∀ b, b ≠ a → (s.heap.update a (Obj.mapSeq f)).get? b = s.heap.get? b := fun b hb => Heap.get?_update_other _ _ (fun q => hb q.symm)
  have x : Ext ρ s ρ { s with heap := s.heap.update a (Obj.mapSeq f), toks := tk } := .put (s' := { s with heap := s.heap.update a (Obj.mapSeq f), toks := tk }) hs.hr ha k e' rfl rfl
  exact ⟨hs.put (s' := { s with heap := s.heap.update a (Obj.mapSeq f), toks := tk }) ha k ⟨items', ep', e', x.vrs hv⟩, x⟩

theorem methV_list {n : Nat} {vs : List V} {name : Str} {id : String} (slot : Slot "list" name id) (ty : typeOf (.builtin id) = pure (.type "method_descriptor")) (hn : H[n]? = some (.list vs)) : MethV prog w B d name (.ref n) H (.builtin id) [.ref n] := by
  intro ρ s x pl A E Q hs hx r q
  obtain ⟨a, items, ep, rfl, ha, g1, g2⟩ := list_at hs hx hn
  exact getMethod_builtin (T := "list") ⟨_, g1, rfl⟩ PySem.F.plainAttrs_list slot ty (fun b e => by cases e; exact ⟨_, g1, rfl⟩) (q [.ref a] (.cons hx .nil))

theorem c_append {n : Nat} {vs : List V} {v : V} (hn : H[n]? = some (.list vs)) (hl : vs.length ≤ 1000000) (q : Q .none (H.set n (.list (vs ++ [v])))) : CalV prog w B d (.val (.builtin "list.append")) [.ref n, v] H Q := by
  refine ⟨_, rfl, fun h _ => keep_builtin h, fun ρ s xs hs hv A E r => ?_⟩
  cases hv with
  | cons h1 h2 =>
    cases h2 with
    | cons h2 h3 =>
      cases h3
      obtain ⟨a, items, ep, rfl, ha, g1, g2⟩ := list_at hs h1 hn
      rename_i x
      have l1 := g2.length
      refine call_meets slot_list_append (T := "list") ⟨_, g1, rfl⟩ entry_list_append (args_list_append _ _) (AutoListH.list_append_list_val_0 a items.toArray ep x (by rw [List.size_toArray, sizeLine_eq]; walk_at "om")) ⟨g1, ?_⟩
      obtain ⟨z1, z2⟩ := put_list (f := fun y => y.push x) (items' := items ++ [x]) (tk := s.toks) hs ha g1 (by simp) (g2.append (.cons h2 .nil))
      exact ⟨.none, _, ρ, .none, z1, z2, q⟩
theorem c_extend {n m : Nat} {vs us : List V} (hn : H[n]? = some (.list vs)) (hm : H[m]? = some (.list us)) (hl : vs.length + us.length ≤ 1000000) (q : Q .none (H.set n (.list (vs ++ us)))) : CalV prog w B d (.val (.builtin "list.extend")) [.ref n, .ref m] H Q := by
  refine ⟨_, rfl, fun h _ => keep_builtin h, fun ρ s xs hs hv A E r => ?_⟩
  cases hv with
  | cons h1 h2 =>
    cases h2 with
    | cons h2 h3 =>
      cases h3
      obtain ⟨a, items, ep, rfl, ha, g1, g2⟩ := list_at hs h1 hn
      obtain ⟨b, items2, ep2, rfl, hb, g3, g4⟩ := list_at hs h2 hm
      have l1 := g2.length
      have l2 := g4.length
      refine call_meets PySem.F.slot_list_extend (T := "list") ⟨_, g1, rfl⟩ PySem.F.entry_list_extend (PySem.F.args_list_extend_2 _ _) (AutoSeq1.list_extend_list_list_0 a items.toArray ep b items2.toArray ep2 ?_ ?_ ?_) ⟨g1, g3, ?_⟩
      · simp [Builtin.List.listTooLong, sizeLine]; walk_at "om"
      · rw [List.size_toArray, sizeLine_eq]; walk_at "om"
      · rw [List.size_toArray, List.size_toArray, sizeLine_eq]; walk_at "om"
      obtain ⟨z1, z2⟩ := put_list (f := fun y => y ++ items2.toArray) (items' := items ++ items2) (tk := s.toks) hs ha g1 (by simp) (g2.append g4)
      exact ⟨.none, _, ρ, .none, z1, z2, q⟩
theorem erase_arr (items : List Value) (k : Nat) : items.toArray.eraseIdxIfInBounds k = (items.eraseIdx k).toArray := by
  apply Array.toList_inj.mp
  simp
theorem VRs.erase {ρ : List Addr} {h : Heap} : ∀ {vs : List V} {xs : List Value} (i : Nat), VRs ρ h vs xs → VRs ρ h (vs.eraseIdx i) (xs.eraseIdx i)
  | _, _, _, .nil => .nil
  | _, _, 0, .cons _ r => r
  | _, _, i + 1, .cons a r => .cons a (VRs.erase i r)
theorem c_pop_at {n : Nat} {vs : List V} {v : V} {k : Int} (hn : H[n]? = some (.list vs)) (h0 : 0 ≤ k) (hv : vs[k.toNat]? = some v) (hl : vs.length ≤ 1000000) (q : Q v (H.set n (.list (vs.eraseIdx k.toNat)))) : CalV prog w B d (.val (.builtin "list.pop")) [.ref n, .int k] H Q := by
  refine ⟨_, rfl, fun h _ => keep_builtin h, fun ρ s xs hs hv' A E r => ?_⟩
  cases hv' with
  | cons h1 h2 =>
    cases h2 with
    | cons h2 h3 =>
      cases h3
      obtain ⟨a, items, ep, rfl, ha, g1, g2⟩ := list_at hs h1 hn
      cases h2 with
      | int _ u =>
        have l1 := g2.length
        obtain ⟨x, hx, vx⟩ := g2.get hv
        have hlt := (List.getElem?_eq_some_iff.mp hv).1
        refine call_meets PySem.F.slot_list_pop (T := "list") ⟨_, g1, rfl⟩ PySem.F.entry_list_pop (PySem.F.args_list_pop_2 _ _) (MeetsSeq.list_pop_at a items.toArray ep k u k.toNat x ?_ ?_ (by simpa using hx) (by rw [List.size_toArray, sizeLine_eq]; walk_at "om")) ⟨g1, ?_⟩
        · simp [Builtin.List.listFitsIndex]; walk_at "om"
        · simp only [seqIndex?, List.size_toArray, l1]
          rw [if_neg (by walk_at "om" : ¬ k < 0), if_pos (by simp only [Bool.and_eq_true, decide_eq_true_eq]; walk_at "om")]
        · obtain ⟨z1, z2⟩ := put_list (f := fun xs => xs.eraseIdxIfInBounds k.toNat) (items' := items.eraseIdx k.toNat) (vs' := vs.eraseIdx k.toNat) (tk := s.toks) hs ha g1 (by rw [erase_arr]) (g2.erase _)
          exact ⟨v, _, ρ, z2.vr vx, z1, z2, q⟩

/-- items -/
noncomputable def WItem (prog : Program) (w : World) (B : Heap) (d : Nat) (a b : V) (H : List O) (Q : V → List O → Prop) : Prop :=
  ∀ ρ s x y, HS w.params B ρ H s → VR ρ s.heap a x → VR ρ s.heap b y → (∃ T id, s.TypeIs x T ∧ typeLookup (.type T) "__getitem__" = pure (some (.builtin id))) ∧ WT prog w B VR d (getItem x y) ρ s Q
theorem subscripted_ops (slice : PySem.Expr) (o i : Value) : ∃ ops, subscripted slice false o i = operate ops (getItem o i) := by
  cases slice with
  | Slice lo hi st _ => cases st <;> exact ⟨_, rfl⟩
  | _ => exact ⟨_, rfl⟩
theorem ev_Sub {value slice : PySem.Expr} {pos : Pos} (h : EvE prog w B names d value vals H fun a H₁ => EvE prog w B names d slice vals H₁ fun b H₂ => WItem prog w B d a b H₂ Q) : EvE prog w B names d (.Subscript value slice pos) vals H Q := by
  constructor
  intro env ρ s sr A E r
  refine Subscript_ (h.go sr r fun a x H₁ ρ₁ s₁ va sr₁ e₁ h₁ => h₁.go sr₁ r fun b y H₂ ρ₂ s₂ vb sr₂ e₂ h₂ => ?_)
  obtain ⟨⟨T, id, hT, hl⟩, ht⟩ := h₂ ρ₂ s₂ x y sr₂.hs (e₂.vr va) vb
  obtain ⟨ops, ho⟩ := subscripted_ops slice x y
  exact tail_any hT hl (ht.at (e₁.trans e₂) r fun _ _ q => q) ho
theorem i_list {n : Nat} {vs : List V} {v : V} {k : Int} (hn : H[n]? = some (.list vs)) (h0 : 0 ≤ k) (hk : k < 2 ^ 63) (hv : vs[k.toNat]? = some v) (q : Q v H) : WItem prog w B d (.ref n) (.int k) H Q := by
  intro ρ s x y hs hx hy
  obtain ⟨a, items, ep, rfl, ha, g1, g2⟩ := list_at hs hx hn
  obtain ⟨x, hx, vx⟩ := g2.get hv
  refine ⟨⟨"list", _, ⟨_, g1, rfl⟩, slot_list_getitem.lookup⟩, fun A E r => ?_⟩
  cases hy
  exact wpAny_getItem_list (isList_of g1) h0 hk (by simpa using hx) (fin hs (fun _ _ e => e) vx q)
theorem i_tup {vs : List V} {v : V} {k : Int} (h0 : 0 ≤ k) (hk : k < 2 ^ 63) (hv : vs[k.toNat]? = some v) (q : Q v H) : WItem prog w B d (.tup vs) (.int k) H Q := by
  intro ρ s x y hs hx hy
  obtain ⟨t, items, rfl, g1, g2⟩ := hx.tup_inv
  obtain ⟨x, hx, vx⟩ := g2.get hv
  have l1 := g2.length
  have hlt := (List.getElem?_eq_some_iff.mp hv).1
  refine ⟨⟨"tuple", _, ⟨_, g1, rfl⟩, PySem.F.slot_tuple_getitem.lookup⟩, fun A E r => ?_⟩
  cases hy
  refine PySem.P.getItem_tuple (items := items.toArray) (n := 0) (k := k.toNat) g1 (by walk_at "om") hk ?_ (by simpa using hx) (fin hs (fun _ _ e => e) vx q)
  simp only [seqIndex?, List.size_toArray, l1]
  rw [if_neg (by walk_at "om" : ¬ k < 0), if_pos (by simp only [Bool.and_eq_true, decide_eq_true_eq]; walk_at "om")]

/-- length, range, min, int, tuple, list -/
theorem c_len_list {n : Nat} {vs : List V} (hn : H[n]? = some (.list vs)) (hl : vs.length ≤ 1000000) (q : Q (.int vs.length) H) : CalV prog w B d (.val (.builtin "len")) [.ref n] H Q := by
  refine ⟨_, rfl, fun h _ => keep_builtin h, fun ρ s xs hs hv A E r => ?_⟩
  cases hv with
  | cons h1 h2 =>
    cases h2
    obtain ⟨a, items, ep, rfl, ha, g1, g2⟩ := list_at hs h1 hn
    have l1 := g2.length
    refine call_len_list (isList_of g1) (by rw [List.size_toArray]; walk_at "om") ?_
    rw [List.size_toArray, l1]
    exact fin hs (fun _ _ e => e) (v := .int _) (.int _ _) q
theorem c_range {n : Int} (q : Q (.rng n) H) : CalV prog w B d (.val (.type "range")) [.int n] H Q := by
  refine ⟨_, rfl, fun h _ => keep_type h, fun ρ s xs hs hv A E r => ?_⟩
  cases hv with
  | cons h1 h2 =>
    cases h2
    cases h1
    exact call_range_1 (fin hs (fun b o e => Heap.get?_push_of_some _ e) (v := .rng n) (.rng (Heap.get?_push_size _ rfl)) q)
theorem c_min {a b : Int} (q : Q (.int (if b < a then b else a)) H) : CalV prog w B d (.val (.builtin "min")) [.int a, .int b] H Q := by
  refine ⟨_, rfl, fun h _ => keep_builtin h, fun ρ s xs hs hv A E r => ?_⟩
  cases hv with
  | cons h1 h2 =>
    cases h2 with
    | cons h2 h3 =>
      cases h3; cases h1; cases h2
      refine min_two_ints r.hand fun h' tk k => fin hs k (v := .int _) ?_ q
      split <;> exact .int _ _
theorem c_tup_list {n : Nat} {vs : List V} (hn : H[n]? = some (.list vs)) (hl : vs.length ≤ 1000000) (q : Q (.tup vs) H) : CalV prog w B d (.val (.type "tuple")) [.ref n] H Q := by
  refine ⟨_, rfl, fun h _ => keep_type h, fun ρ s xs hs hv A E r => ?_⟩
  cases hv with
  | cons h1 h2 =>
    cases h2
    obtain ⟨a, items, ep, rfl, ha, g1, g2⟩ := list_at hs h1 hn
    have l1 := g2.length
    refine call_tuple_list (isList_of g1) (fun h' k => ?_) (by rw [List.size_toArray, sizeLine_eq]; walk_at "om")
    have k' : ∀ b o, s.heap.get? b = some o → (h'.push (tupObj items)).get? b = some o := fun b o e => Heap.get?_push_of_some _ (k b o e)
    exact fin hs (s' := { s with heap := h'.push (tupObj items) }) k' (v := .tup vs) (.tup (Heap.get?_push_size _ rfl) (g2.mono ⟨[], by simp⟩ (.of k'))) q
theorem c_tup_tup {vs : List V} (q : Q (.tup vs) H) : CalV prog w B d (.val (.type "tuple")) [.tup vs] H Q := by
  refine ⟨_, rfl, fun h _ => keep_type h, fun ρ s xs hs hv A E r => ?_⟩
  cases hv with
  | cons h1 h2 =>
    cases h2
    obtain ⟨t, items, rfl, g1, g2⟩ := h1.tup_inv
    exact call_tuple_same (isTuple_of g1) (fin hs (fun _ _ e => e) (v := .tup vs) (.tup g1 g2) q)
end
noncomputable def KI.draws : KI → Nat
  | .t l => l.length + 1
  | _ => 1
noncomputable def drawsOf (k : List KI) : Nat := (k.map KI.draws).sum
noncomputable def KI.enc : KI → PyData
  | .i n => .int n
  | .s x => .str x
  | .t l => .tuple (l.map .int)
noncomputable def encK (k : List KI) : PyData := .tuple (k.map KI.enc)

section
variable {ρ : List Addr} {h : Heap}
theorem ints_inj : ∀ {l m : List Int} {xs : List Value}, VRs ρ h (l.map .int) xs → VRs ρ h (m.map .int) xs → l = m
  | [], [], _, _, _ => rfl
  | [], _ :: _, _, a, b => by cases a; cases b
  | _ :: _, [], _, a, b => by cases a; cases b
  | x :: l, y :: m, _, a, b => by
    cases a with
    | cons a1 a2 =>
      cases b with
      | cons b1 b2 => cases a1; cases b1; rw [ints_inj a2 b2]
theorem ki_inj {k k' : KI} {x : Value} (a : VR ρ h k.v x) (b : VR ρ h k'.v x) : k = k' := by
  cases k with
  | i n =>
    cases k' with
    | i m => cases a; cases b; rfl
    | s y => cases a; cases b
    | t l => cases a; cases b
  | s y =>
    cases k' with
    | i m => cases a; cases b
    | s z => cases a; cases b; rfl
    | t l => cases a; cases b
  | t l =>
    cases k' with
    | i m => cases a; cases b
    | s z => cases a; cases b
    | t m =>
      obtain ⟨t, xs, rfl, h1, h2⟩ := VR.tup_inv a
      obtain ⟨t', xs', e, h1', h2'⟩ := VR.tup_inv b
      cases e
      rw [h1] at h1'
      simp only [tupObj, Option.some.injEq, Obj.mk.injEq, Data.seq.injEq, true_and, and_true, Array.mk.injEq] at h1'
      obtain rfl : xs = xs' := by simpa using h1'
      rw [ints_inj h2 h2']
theorem kis_inj : ∀ {k k' : List KI} {xs : List Value}, VRs ρ h (k.map KI.v) xs → VRs ρ h (k'.map KI.v) xs → k = k'
  | [], [], _, _, _ => rfl
  | [], _ :: _, _, a, b => by cases a; cases b
  | _ :: _, [], _, a, b => by cases a; cases b
  | x :: l, y :: m, _, a, b => by
    cases a with
    | cons a1 a2 =>
      cases b with
      | cons b1 b2 => rw [ki_inj a1 b1, kis_inj a2 b2]
theorem keyV_inj {k k' : List KI} {x : Value} (a : VR ρ h (keyV k) x) (b : VR ρ h (keyV k') x) : k = k' := by
  obtain ⟨t, xs, rfl, h1, h2⟩ := VR.tup_inv a
  obtain ⟨t', xs', e, h1', h2'⟩ := VR.tup_inv b
  cases e
  rw [h1] at h1'
  simp only [tupObj, Option.some.injEq, Obj.mk.injEq, Data.seq.injEq, true_and, and_true, Array.mk.injEq] at h1'
  obtain rfl : xs = xs' := by simpa using h1'
  exact kis_inj h2 h2'
theorem ints_nil : ∀ {l : List Int} {xs : List Value}, VRs ρ h (l.map .int) xs → VRs [] h (l.map .int) xs
  | [], _, a => by cases a; exact .nil
  | x :: l, _, a => by
    cases a with
    | cons a1 a2 => cases a1; exact .cons (.int _ _) (ints_nil a2)
theorem ki_nil {k : KI} {x : Value} (a : VR ρ h k.v x) : VR [] h k.v x := by
  cases k with
  | i n => cases a; exact .int _ _
  | s y => cases a; exact .str _ _
  | t l => obtain ⟨t, xs, rfl, h1, h2⟩ := VR.tup_inv a; exact .tup h1 (ints_nil h2)
theorem kis_nil : ∀ {k : List KI} {xs : List Value}, VRs ρ h (k.map KI.v) xs → VRs [] h (k.map KI.v) xs
  | [], _, a => by cases a; exact .nil
  | x :: l, _, a => by
    cases a with
    | cons a1 a2 => exact .cons (ki_nil a1) (kis_nil a2)
theorem keyV_nil {k : List KI} {x : Value} (a : VR ρ h (keyV k) x) : VR [] h (keyV k) x := by
  obtain ⟨t, xs, rfl, h1, h2⟩ := VR.tup_inv a
  exact .tup h1 (kis_nil h2)
theorem VR.up {v : V} {x : Value} (a : VR [] h v x) : VR ρ h v x := a.mono ⟨ρ, rfl⟩ (.of fun _ _ e => e)

theorem ints_items (prog : Program) (w : World) : ∀ {l : List Int} {xs : List Value}, VRs ρ h (l.map .int) xs → ItemsAre (intKind prog w) l xs
  | [], _, a => by cases a; exact .nil
  | x :: l, _, a => by
    cases a with
    | cons a1 a2 => cases a1; exact .cons (intKind_is prog w _ _) (ints_items prog w a2)
theorem tup_key (prog : Program) (w : World) {l : List Int} {a : Addr} (x : VR ρ h (.tup (l.map .int)) (.ref a)) : IsTupleKey (intKind prog w) h l a := by
  obtain ⟨t, xs, e, h1, h2⟩ := VR.tup_inv x
  cases e
  exact ⟨_, _, _, h1, rfl, rfl, ints_items prog w h2⟩
theorem ints_reads : ∀ {l : List Int} {xs : List Value}, VRs ρ h (l.map .int) xs → ReadsAll h xs (l.map .int) []
  | [], _, a => by cases a; exact .nil
  | x :: l, _, a => by
    cases a with
    | cons a1 a2 => cases a1; exact .cons (as := []) (.int _ _) (ints_reads a2)
theorem ki_reads {k : KI} {x : Value} (a : VR ρ h k.v x) : Reads h x k.enc [] := by
  cases k with
  | i n => cases a; exact .int _ _
  | s y => cases a; exact .str _ _
  | t l => obtain ⟨t, xs, rfl, h1, h2⟩ := VR.tup_inv a; exact .tuple h1 rfl rfl (ints_reads h2)
theorem kis_reads : ∀ {k : List KI} {xs : List Value}, VRs ρ h (k.map KI.v) xs → ReadsAll h xs (k.map KI.enc) []
  | [], _, a => by cases a; exact .nil
  | x :: l, _, a => by
    cases a with
    | cons a1 a2 => exact .cons (as := []) (ki_reads a1) (kis_reads a2)
theorem keyV_reads {k : List KI} {x : Value} (a : VR ρ h (keyV k) x) : Reads h x (encK k) [] := by
  obtain ⟨t, xs, rfl, h1, h2⟩ := VR.tup_inv a
  exact .tuple h1 rfl rfl (kis_reads h2)
end

theorem eqv_ints : ∀ l m : List Int, PyData.eqvAll (l.map .int) (m.map .int) = decide (l = m)
  | [], [] => by simp [PyData.eqvAll]
  | [], _ :: _ => by simp [PyData.eqvAll]
  | _ :: _, [] => by simp [PyData.eqvAll]
  | x :: l, y :: m => by
    rw [List.map_cons, List.map_cons, PyData.eqvAll, eqv_ints l m, PyData.eqv]
    by_cases h1 : x = y <;> by_cases h2 : l = m <;> simp [h1, h2]
theorem eqv_ki (a b : KI) : PyData.eqv a.enc b.enc = decide (a = b) := by
  cases a <;> cases b <;> simp only [KI.enc, PyData.eqv, eqv_ints] <;> simp <;> (try exact Bool.eq_iff_iff.mpr (by simp))
theorem eqv_kis : ∀ l m : List KI, PyData.eqvAll (l.map KI.enc) (m.map KI.enc) = decide (l = m)
  | [], [] => by simp [PyData.eqvAll]
  | [], _ :: _ => by simp [PyData.eqvAll]
  | _ :: _, [] => by simp [PyData.eqvAll]
  | x :: l, y :: m => by
    rw [List.map_cons, List.map_cons, PyData.eqvAll, eqv_kis l m, eqv_ki]
    by_cases h1 : x = y <;> by_cases h2 : l = m <;> simp [h1, h2]
theorem eqv_key (a b : List KI) : PyData.eqv (encK a) (encK b) = decide (a = b) := by rw [encK, encK, PyData.eqv]; exact eqv_kis a b
theorem lay_ints : ∀ l : List Int, PyData.canLayAll0 (l.map .int) = true
  | [] => rfl
  | x :: l => by rw [List.map_cons, PyData.canLayAll0, lay_ints l]; rfl
theorem lay_kis : ∀ l : List KI, keyOk l = true → PyData.canLayAll0 (l.map KI.enc) = true
  | [], _ => rfl
  | x :: l, h => by
    rw [keyOk, List.all_cons, Bool.and_eq_true] at h
    rw [List.map_cons, PyData.canLayAll0, lay_kis l h.2]
    cases x with
    | i n => rfl
    | s y => show (PyData.strOk y && true) = true; rw [show PyData.strOk y = true from h.1]; rfl
    | t m => show (PyData.canLayAll0 (m.map .int) && true) = true; rw [lay_ints]; rfl
theorem lay_key (k : List KI) (h : keyOk k = true) : PyData.canLay0 (encK k) = true := lay_kis k h
theorem depth_ints : ∀ l : List Int, PyData.depthAll (l.map .int) ≤ 1
  | [] => by simp [PyData.depthAll]
  | x :: l => by rw [List.map_cons, PyData.depthAll]; have := depth_ints l; simp only [PyData.depth]; walk_at "om"
theorem depth_kis : ∀ l : List KI, PyData.depthAll (l.map KI.enc) ≤ 2
  | [] => by simp [PyData.depthAll]
  | x :: l => by
    rw [List.map_cons, PyData.depthAll]
    have := depth_kis l
    cases x with
    | i n => simp only [KI.enc, PyData.depth]; walk_at "om"
    | s y => simp only [KI.enc, PyData.depth]; walk_at "om"
    | t m => have := depth_ints m; simp only [KI.enc, PyData.depth]; walk_at "om"
theorem depth_key (k : List KI) : (encK k).depth ≤ 3 := by have := depth_kis k; show PyData.depthAll (k.map KI.enc) + 1 ≤ 3; walk_at "om"

noncomputable def isKey (h : Heap) (k : List KI) (a : Addr) : Prop := keyOk k = true ∧ VR [] h (keyV k) (.ref a)
theorem isKey.typeIs {s : Shared} {k : List KI} {a : Addr} (x : isKey s.heap k a) : s.TypeIs (.ref a) "tuple" := by
  obtain ⟨t, xs, e, h1, h2⟩ := VR.tup_inv x.2
  cases e
  exact ⟨_, h1, rfl⟩

section
variable {prog : Program} {w : World} {A : Around} {E : Value → Shared → Prop} {s : Shared}
theorem ki_hash {k : KI} {x : Value} {Q : Int → Shared → Prop} (hu : A.units < cLine) (a : VR [] s.heap k.v x) (h : Q (k.hash w.params) { s with toks := s.toks + k.draws }) : wpAny (model prog w) A (pyHash x) Q E s := by
  cases k with
  | i n => cases a; exact wpAny_pyHash_int h
  | s y => cases a; exact wpAny_pyHash_str h
  | t l =>
    obtain ⟨t, xs, rfl, h1, h2⟩ := VR.tup_inv a
    exact wpAny_pyHash_tuple (knd := intKind prog w) hu (tup_key prog w a) h
theorem key_hash {ks : List KI} {a : Addr} {Q : Int → Shared → Prop} (hu : A.units + 8 < cLine) (hk : isKey s.heap ks a) (h : Q (hashK w.params ks) { s with toks := s.toks + (drawsOf ks + 1) }) :
    wpAny (model prog w) A (pyHash (.ref a)) Q E s := by
  have hT := hk.typeIs
  obtain ⟨t, items, e, ho, hi⟩ := VR.tup_inv hk.2
  cases e
  unfold pyHash
  first | unfold pyHashByItsType | skip
  first | refine wpAny_bind (wpAny_cRoomFor_or (.inr (by walk_at "om")) ?_) | skip
  refine wpAny_bind (wpAny_specialOf hT F.slot_tuple_hash.lookup ?_)
  show wpAny _ _ (if (some (Value.builtin "tuple.__hash__") == some Value.none) = true then _ else _) Q E s
  rw [if_neg (by rw [beq_builtin_none]; exact Bool.false_ne_true)]
  refine wpAny_bind (wpAny_specialOf hT F.slot_tuple_hash.lookup ?_)
  show wpAny _ _ (callSpecialIfBoundUnlessNone? (.ref a) "__hash__" _ >>= _) Q E s
  refine wpAny_bind (wpAny_callSpecialIfBoundUnlessNone?_slot hT F.slot_tuple_hash (wpAny_call_entry F.slot_tuple_hash hT F.entry_tuple_hash ?_ (F.args_tuple_hash_1 _)))
  show wpAny _ _ (Builtin.Tuple.tupleItemsOf (.ref a) >>= _) _ _ s
  refine wpAny_bind (wpAny_tupleItemsOf ho rfl ?_)
  refine wpAny_bind ?_
  rw [← Array.forIn_toList]
  refine wpAny_forIn_list _
    (fun rest (b : Array Int) s' => ∃ done left, ks = done ++ left ∧ VRs [] s.heap (left.map KI.v) rest ∧ b.toList = done.map (KI.hash w.params) ∧ s' = { s with toks := s.toks + drawsOf done })
    _ ?_ ?_ _ _ ⟨[], ks, rfl, hi, rfl, rfl⟩
  · rintro x rest b s' ⟨done, left, rfl, hl, hb, rfl⟩
    cases left with
    | nil => cases hl
    | cons k left =>
      cases hl with
      | cons h1 hl' =>
        refine wpAny_bind (ki_hash (k := k) (by show A.units + 1 < _; walk_at "om") h1 ?_)
        have ed : drawsOf (done ++ [k]) = drawsOf done + k.draws := by simp [drawsOf]
        first
          | exact wpAny_pure ⟨done ++ [k], left, by simp, hl', by simp [hb], by rw [ed, Nat.add_assoc]⟩
          | exact wpAny_bind (wpAny_pure (wpAny_pure ⟨done ++ [k], left, by simp, hl', by simp [hb], by rw [ed, Nat.add_assoc]⟩))
  · rintro b s' ⟨done, left, rfl, hl, hb, rfl⟩
    cases left with
    | cons => cases hl
    | nil =>
      rw [List.append_nil] at h
      show wpAny _ _ (retInt (Builtin.Tuple.tupleHashOf b.toList)) _ _ _
      rw [hb]
      refine wpAny_ret_mkInt ?_
      show wpAny _ _ (if (decide (-(2 : Int) ^ 63 ≤ Builtin.Tuple.tupleHashOf (done.map (KI.hash w.params))) && decide (Builtin.Tuple.tupleHashOf (done.map (KI.hash w.params)) < 2 ^ 63)) = true then _ else _) Q E _
      unfold hashK reduceHash at h
      by_cases hr : (decide (-(2 : Int) ^ 63 ≤ Builtin.Tuple.tupleHashOf (done.map (KI.hash w.params))) && decide (Builtin.Tuple.tupleHashOf (done.map (KI.hash w.params)) < 2 ^ 63)) = true
      · rw [if_pos hr]
        rw [if_pos hr] at h
        exact wpAny_pure (by simpa [Nat.add_assoc] using h)
      · rw [if_neg hr]
        rw [if_neg hr] at h
        exact wpAny_bind (wpAny_rule (wpAny_pure (by simpa [Nat.add_assoc] using h)))
theorem key_eq {x y : List KI} {a b : Addr} {Q : Bool → Shared → Prop} (hu : A.units + 8 < cLine) (hx : isKey s.heap x a) (hy : isKey s.heap y b) (h : Q (decide (x = y)) s) :
    wpAny (model prog w) A (eqBool (.ref a) (.ref b)) Q E s := by
  have d1 := depth_key x
  refine PySem.SeqAt.eqBoolOverData prog w A E s _ _ (encK x) (encK y) [] [] Q (keyV_reads hx.2) (keyV_reads hy.2) (lay_key _ hx.1) (lay_key _ hy.1) (by walk_at "om") ?_
  rw [eqv_key]; exact h
theorem quiet_ints (n : Nat) {l : List Int} {a : Addr} {Q : Bool → Shared → Prop} (hk : IsTupleKey (intKind prog w) s.heap l a) (h : Q true s) : wpAny (model prog w) A (eqIsQuiet (n + 1) (.ref a)) Q E s := by
  have hT := hk.typeIs
  obtain ⟨o, items, n, ho, _, hd, hi⟩ := hk
  unfold eqIsQuiet
  refine wpAny_bind (wpAny_specialOf hT F.slot_tuple_eq.lookup ?_)
  show wpAny _ _ (isInstance (.ref a) (.type "tuple") >>= _) _ _ s
  refine wpAny_bind (wpAny_isInstance hT isSubtype_tuple_tuple ?_)
  simp only [Bool.not_true, Bool.false_eq_true, if_false]
  refine wpAny_bind (wpAny_seqItems ho hd ?_)
  refine wpAny_bind ?_
  show wpAny _ _ (forIn items _ _) _ _ s
  rw [← Array.forIn_toList]
  refine wpAny_forIn_list _ (fun rest r s' => r.1 = none ∧ s' = s ∧ ∀ v ∈ rest, carriedByValue v = true) _ ?_ ?_ _ _ ⟨rfl, rfl, hi.byValue⟩
  · rintro v rest r s' ⟨hr, rfl, hall⟩
    rw [eqIsQuiet_byValue _ (hall v List.mem_cons_self)]
    refine wpAny_bind (wpAny_pure ?_)
    simp only [Bool.not_true, Bool.false_eq_true, if_false]
    exact wpAny_pure ⟨rfl, rfl, fun u hu' => hall u (List.mem_cons_of_mem _ hu')⟩
  · rintro ⟨r1, r2⟩ s' ⟨hr, rfl, _⟩
    simp only at hr
    subst hr
    exact wpAny_pure h
theorem quiet_ki (n : Nat) {k : KI} {x : Value} {Q : Bool → Shared → Prop} (a : VR [] s.heap k.v x) (h : Q true s) : wpAny (model prog w) A (eqIsQuiet (n + 1) x) Q E s := by
  cases k with
  | i m => cases a; rw [eqIsQuiet_byValue _ rfl]; exact wpAny_pure h
  | s y => cases a; rw [eqIsQuiet_byValue _ rfl]; exact wpAny_pure h
  | t l =>
    obtain ⟨t, xs, rfl, h1, h2⟩ := VR.tup_inv a
    exact quiet_ints n (tup_key prog w a) h
theorem key_quiet {ks : List KI} {a : Addr} {Q : Bool → Shared → Prop} (hk : isKey s.heap ks a) (h : Q true s) : wpAny (model prog w) A (eqIsQuiet 8 (.ref a)) Q E s := by
  have hT := hk.typeIs
  obtain ⟨t, items, e, ho, hi⟩ := VR.tup_inv hk.2
  cases e
  unfold eqIsQuiet
  refine wpAny_bind (wpAny_specialOf hT F.slot_tuple_eq.lookup ?_)
  show wpAny _ _ (isInstance (.ref a) (.type "tuple") >>= _) _ _ s
  refine wpAny_bind (wpAny_isInstance hT isSubtype_tuple_tuple ?_)
  simp only [Bool.not_true, Bool.false_eq_true, if_false]
  refine wpAny_bind (wpAny_seqItems ho rfl ?_)
  refine wpAny_bind ?_
  show wpAny _ _ (forIn items.toArray _ _) _ _ s
  rw [← Array.forIn_toList]
  refine wpAny_forIn_list _ (fun rest r s' => r.1 = none ∧ s' = s ∧ ∃ left : List KI, VRs [] s.heap (left.map KI.v) rest) _ ?_ ?_ _ _ ⟨rfl, rfl, ks, hi⟩
  · rintro v rest r s' ⟨hr, rfl, left, hl⟩
    cases left with
    | nil => cases hl
    | cons k left =>
      cases hl with
      | cons h1 hl' =>
        refine wpAny_bind (quiet_ki 6 h1 ?_)
        simp only [Bool.not_true, Bool.false_eq_true, if_false]
        exact wpAny_pure ⟨rfl, rfl, left, hl'⟩
  · rintro ⟨r1, r2⟩ s' ⟨hr, rfl, _⟩
    simp only at hr
    subst hr
    exact wpAny_pure h
end

noncomputable def keyKind (prog : Program) (w : World) : HeapKind prog w (List KI) where
  is := isKey
  hash := hashK w.params
  draws := fun k => drawsOf k + 1
  room := fun A => A.units + 8 < cLine
  inj := fun hx hy => keyV_inj hx.2 hy.2
  keeps := fun x ho hd hs => ⟨x.1, x.2.mono ⟨[], rfl⟩ (sameBut_tup hs ho (not_imm_dict hd))⟩
  pyHash := fun hu hk h => key_hash hu hk h
  eqBool := fun hu hx hy h => key_eq hu hx hy h
  quiet := fun hk h => key_quiet hk h
section
variable {K : Type} [DecidableEq K]
noncomputable def dget (es : List (K × V)) (k : K) : Option V := (es.find? fun kv => kv.1 = k).map (·.2)
noncomputable def dput (es : List (K × V)) (k : K) (v : V) : List (K × V) :=
  if es.any (fun kv => kv.1 = k) then es.map (fun kv => if kv.1 = k then (kv.1, v) else kv) else es ++ [(k, v)]
inductive PRs (ρ : List Addr) (h : Heap) : List (K × V) → List (K × Value) → Prop
  | nil : PRs ρ h [] []
  | cons {k : K} {v : V} {x : Value} {es : List (K × V)} {kvs : List (K × Value)} : VR ρ h v x → PRs ρ h es kvs → PRs ρ h ((k, v) :: es) ((k, x) :: kvs)
variable {ρ : List Addr} {h : Heap}
theorem PRs.keys {es : List (K × V)} {kvs : List (K × Value)} (r : PRs ρ h es kvs) : kvs.map (·.1) = es.map (·.1) := by
  induction r with
  | nil => rfl
  | cons _ _ ih => rw [List.map_cons, List.map_cons, ih]
theorem PRs.length {es : List (K × V)} {kvs : List (K × Value)} (r : PRs ρ h es kvs) : kvs.length = es.length := by
  have := congrArg List.length r.keys
  simpa using this
theorem PRs.mono {ρ' : List Addr} {h' : Heap} (hp : ∃ t, ρ' = ρ ++ t) (ht : TupKeep h h') {es : List (K × V)} {kvs : List (K × Value)} (r : PRs ρ h es kvs) : PRs ρ' h' es kvs := by
  induction r with
  | nil => exact .nil
  | cons a _ ih => exact .cons (a.mono hp ht) ih
theorem PRs.get {es : List (K × V)} {kvs : List (K × Value)} (r : PRs ρ h es kvs) (k : K) : (dget es k = none ∧ valueAt kvs k = none) ∨ ∃ v x, dget es k = some v ∧ valueAt kvs k = some x ∧ VR ρ h v x := by
  induction r with
  | nil => exact .inl ⟨rfl, rfl⟩
  | @cons k' v x es kvs a b ih =>
    by_cases e : k' = k
    · refine .inr ⟨v, x, ?_, ?_, a⟩ <;> simp [dget, valueAt, e]
    · have e1 : dget ((k', v) :: es) k = dget es k := by simp [dget, e]
      have e2 : valueAt ((k', x) :: kvs) k = valueAt kvs k := by simp [valueAt, e]
      rw [e1, e2]; exact ih
theorem PRs.any {es : List (K × V)} {kvs : List (K × Value)} (r : PRs ρ h es kvs) (k : K) : (kvs.any fun kv => decide (kv.1 = k)) = es.any fun kv => decide (kv.1 = k) := by
  induction r with
  | nil => rfl
  | cons a b ih => rw [List.any_cons, List.any_cons, ih]
theorem PRs.map {es : List (K × V)} {kvs : List (K × Value)} (r : PRs ρ h es kvs) {k : K} {v : V} {x : Value} (hv : VR ρ h v x) : PRs ρ h (es.map fun kv => if kv.1 = k then (kv.1, v) else kv) (kvs.map fun kv => if kv.1 = k then (kv.1, x) else kv) := by
  induction r with
  | nil => exact .nil
  | @cons k' v' x' es kvs a b ih =>
    rw [List.map_cons, List.map_cons]
    by_cases e : k' = k
    · simp only [e, if_true]; exact .cons hv (by subst e; exact ih)
    · simp only [e, if_false]; exact .cons a ih
theorem PRs.append {es es' : List (K × V)} {kvs kvs' : List (K × Value)} (r : PRs ρ h es kvs) (r' : PRs ρ h es' kvs') : PRs ρ h (es ++ es') (kvs ++ kvs') := by
  induction r with
  | nil => exact r'
  | cons a b ih => exact .cons a ih
theorem PRs.put {es : List (K × V)} {kvs : List (K × Value)} (r : PRs ρ h es kvs) {k : K} {v : V} {x : Value} (hv : VR ρ h v x) : PRs ρ h (dput es k v) (stored kvs k x) := by
  unfold dput stored
  rw [r.any]
  split
  · exact r.map hv
  · exact r.append (.cons hv .nil)
end

theorem of_exact {o : Obj} {es : Array DictEntry} {ep : Nat} (x : o.ExactDict) (hd : o.data = .dict es ep) : o = dictObj es.toList ep := by
  obtain ⟨c, d, dt, sl⟩ := o
  obtain ⟨h1, h2, h3⟩ := x
  simp only at h1 h2 h3 hd
  subst h1 h2 h3 hd
  simp [dictObj]

section
variable {ρ : List Addr} {h : Heap} (prog : Program) (w : World)
theorem irs_split : ∀ {es : List (Int × V)} {ds : List DictEntry}, IRs ρ h es ds → ∃ kvs : List (Int × Value), PRs ρ h es kvs ∧ Pairs (intKind prog w) ds kvs ∧ ∀ e ∈ ds, ∃ k, (intKind prog w).is k e.key = true ∧ e.hash = (intKind prog w).hash k
  | _, _, .nil => ⟨[], .nil, .nil, fun e he => nomatch he⟩
  | _, _, .cons (k := k) (e := e) a b c r => by
    obtain ⟨kvs, r1, r2, r3⟩ := irs_split r
    have z : (intKind prog w).is k e.key = true := by rw [b]; exact intKind_is prog w _ _
    refine ⟨(k, e.val) :: kvs, .cons c r1, .cons z rfl r2, fun e' he => ?_⟩
    rcases List.mem_cons.mp he with rfl | he
    · exact ⟨k, z, a⟩
    · exact r3 e' he
theorem irs_join : ∀ {es : List (Int × V)} {kvs : List (Int × Value)} {ds : List DictEntry}, PRs ρ h es kvs → Pairs (intKind prog w) ds kvs → (∀ e ∈ ds, ∃ k, (intKind prog w).is k e.key = true ∧ e.hash = (intKind prog w).hash k) → IRs ρ h es ds
  | _, _, _, .nil, .nil, _ => .nil
  | _, _, _, .cons a r, .cons (e := e) b c r', hk => by
    obtain ⟨k', z1, z2⟩ := hk _ (.head _)
    obtain rfl := (intKind prog w).inj _ _ _ z1 b
    obtain ⟨t, ht⟩ := Value.isInt_shape b
    exact .cons z2 ht (by rw [c]; exact a) (irs_join r r' fun e he => hk e (.tail _ he))
theorem krs_split : ∀ {es : List (List KI × V)} {ds : List DictEntry}, KRs w.params ρ h es ds → ∃ xs : List (List KI × Addr × Value), PRs ρ h es (kvsOf xs) ∧ ds = xs.map (entryOfKey (keyKind prog w)) ∧ ∀ x ∈ xs, isKey h x.1 x.2.1
  | _, _, .nil => ⟨[], .nil, rfl, fun e he => nomatch he⟩
  | _, _, .cons (k := k) (e := e) o a b c r => by
    obtain ⟨xs, r1, r2, r3⟩ := krs_split r
    obtain ⟨t, items, e1, h1, h2⟩ := VR.tup_inv b
    have z : isKey h k t := ⟨o, keyV_nil (e1 ▸ b)⟩
    refine ⟨(k, t, e.val) :: xs, .cons c r1, ?_, fun e' he => ?_⟩
    · rw [List.map_cons, r2]
      congr 1
      obtain ⟨eh, ek, ev⟩ := e
      simp only at e1 a
      subst e1 a
      rfl
    · rcases List.mem_cons.mp he with rfl | he
      · exact z
      · exact r3 e' he
theorem krs_join : ∀ {es : List (List KI × V)} {xs : List (List KI × Addr × Value)}, PRs ρ h es (kvsOf xs) → (∀ x ∈ xs, isKey h x.1 x.2.1) → KRs w.params ρ h es (xs.map (entryOfKey (keyKind prog w)))
  | _, [], r, _ => by cases r; exact .nil
  | _, (k, t, v) :: xs, r, hk => by
    cases r with
    | cons a r =>
      have z := hk (k, t, v) (.head _)
      exact .cons z.1 rfl (VR.up z.2) a (krs_join r fun x hx => hk x (.tail _ hx))
end

section
variable {prog : Program} {w : World} {B : Heap} {names : Names} {vals : Vals} {d : Nat} {H : List O} {Q : V → List O → Prop}

theorem idict_at {ρ : List Addr} {s : Shared} {n : Nat} {es : List (Int × V)} {x : Value} (hs : HS w.params B ρ H s) (hx : VR ρ s.heap (.ref n) x) (hn : H[n]? = some (.idict es)) :
    ∃ a kvs, x = .ref a ∧ ρ[n]? = some a ∧ s.heap.DictOf (intKind prog w) a kvs ∧ PRs ρ s.heap es kvs ∧ (a == sysModules) = false := by
  cases hx with
  | ref hr =>
    obtain ⟨ds, ep, h1, h2, h3⟩ := hs.hr.obj n _ _ hn hr
    obtain ⟨kvs, r1, r2, r3⟩ := irs_split prog w h2
    exact ⟨_, kvs, rfl, hr, ⟨_, ds.toArray, ep, h1, ⟨rfl, rfl, rfl⟩, rfl, fun e he => r3 e (by simpa using he), by simpa using r2, by rw [r1.keys]; exact h3⟩, r1, hs.notSys (List.mem_of_getElem? hr)⟩
theorem kdict_at {ρ : List Addr} {s : Shared} {n : Nat} {es : List (List KI × V)} {x : Value} (hs : HS w.params B ρ H s) (hx : VR ρ s.heap (.ref n) x) (hn : H[n]? = some (.kdict es)) :
    ∃ a xs, x = .ref a ∧ ρ[n]? = some a ∧ s.heap.DictOfH (keyKind prog w) a xs ∧ PRs ρ s.heap es (kvsOf xs) ∧ (a == sysModules) = false := by
  cases hx with
  | ref hr =>
    obtain ⟨ds, ep, h1, h2, h3⟩ := hs.hr.obj n _ _ hn hr
    obtain ⟨xs, r1, r2, r3⟩ := krs_split prog w h2
    have ek : xs.map (·.1) = es.map (·.1) := by rw [← r1.keys]; simp [kvsOf]
    exact ⟨_, xs, rfl, hr, ⟨_, ds.toArray, ep, h1, ⟨rfl, rfl, rfl⟩, rfl, by simpa using r2, r3, by rw [ek]; exact h3⟩, r1, hs.notSys (List.mem_of_getElem? hr)⟩

theorem put_idict {ρ : List Addr} {s : Shared} {n : Nat} {a : Addr} {es' : List (Int × V)} {kvs' : List (Int × Value)} {h' : Heap} {tk : Nat} (hs : HS w.params B ρ H s) (ha : ρ[n]? = some a) (hd : h'.DictOf (intKind prog w) a kvs') (hb : Heap.SameBut a s.heap h') (hv : PRs ρ s.heap es' kvs') :
    HS w.params B ρ (H.set n (.idict es')) { s with heap := h', toks := tk } ∧ Ext ρ s ρ { s with heap := h', toks := tk } := by
  obtain ⟨o, es, ep, h1, h2, h3, h4, h5, h6⟩ := hd
  have x : Ext ρ s ρ { s with heap := h', toks := tk } := .put (s' := { s with heap := h', toks := tk }) hs.hr ha (fun b hne => hb.2 b hne) h1 rfl rfl
  refine ⟨hs.put (s' := { s with heap := h', toks := tk }) ha (fun b hne => hb.2 b hne) ⟨es.toList, ep, ?_, irs_join prog w (hv.mono ⟨[], by simp⟩ x.tup) h5 fun e he => h4 e (by simpa using he), by rw [← hv.keys]; exact h6⟩, x⟩
  rw [h1, of_exact h2 h3]
theorem put_kdict {ρ : List Addr} {s : Shared} {n : Nat} {a : Addr} {es' : List (List KI × V)} {xs' : List (List KI × Addr × Value)} {h' : Heap} {tk : Nat} (hs : HS w.params B ρ H s) (ha : ρ[n]? = some a) (hd : h'.DictOfH (keyKind prog w) a xs') (hb : Heap.SameBut a s.heap h') (hv : PRs ρ s.heap es' (kvsOf xs')) :
    HS w.params B ρ (H.set n (.kdict es')) { s with heap := h', toks := tk } ∧ Ext ρ s ρ { s with heap := h', toks := tk } := by
  obtain ⟨o, es, ep, h1, h2, h3, h4, h5, h6⟩ := hd
  have x : Ext ρ s ρ { s with heap := h', toks := tk } := .put (s' := { s with heap := h', toks := tk }) hs.hr ha (fun b hne => hb.2 b hne) h1 rfl rfl
  have ek : xs'.map (·.1) = es'.map (·.1) := by rw [← hv.keys]; simp [kvsOf]
  refine ⟨hs.put (s' := { s with heap := h', toks := tk }) ha (fun b hne => hb.2 b hne) ⟨es.toList, ep, ?_, ?_, by rw [← ek]; exact h6⟩, x⟩
  · show h'.get? a = _; rw [h1, of_exact h2 h3]
  · rw [h4]; exact krs_join prog w (hv.mono ⟨[], by simp⟩ x.tup) h5

theorem i_idict {n : Nat} {es : List (Int × V)} {k : Int} {v : V} (hn : H[n]? = some (.idict es)) (hk : dget es k = some v) (q : Q v H) : WItem prog w B d (.ref n) (.int k) H Q := by
  intro ρ s x y hs hx hy
  obtain ⟨a, kvs, rfl, ha, D, P, ns⟩ := idict_at (prog := prog) hs hx hn
  refine ⟨⟨"dict", _, D.mapOf.typeIs, slot_dict_getitem.lookup⟩, fun A E r => ?_⟩
  cases hy with
  | int _ t =>
    rcases P.get k with ⟨e1, e2⟩ | ⟨v', x, e1, e2, vx⟩
    · rw [e1] at hk; cases hk
    · rw [e1] at hk; cases hk
      exact wpAny_getItem_of (knd := intKind prog w) (intKind_is prog w k t) D.mapOf e2 (fin hs (fun _ _ e => e) vx q)
/-- item stores -/
noncomputable def WSet (prog : Program) (w : World) (B : Heap) (d : Nat) (a b c : V) (H : List O) (Q : List O → Prop) : Prop :=
  ∀ ρ s x y z, HS w.params B ρ H s → VR ρ s.heap a x → VR ρ s.heap b y → VR ρ s.heap c z → WT prog w B relU d (setItem x y z) ρ s fun (_ : Unit) H' => Q H'
theorem s_idict {n : Nat} {es : List (Int × V)} {k : Int} {v : V} {Q : List O → Prop} (hn : H[n]? = some (.idict es)) (hl : es.length ≤ 1000000) (q : Q (H.set n (.idict (dput es k v)))) : WSet prog w B d (.ref n) (.int k) v H Q := by
  intro ρ s x y z hs hx hy hz A E r
  obtain ⟨a, kvs, rfl, ha, D, P, ns⟩ := idict_at (prog := prog) hs hx hn
  cases hy with
  | int _ t =>
    have l1 := P.length
    refine wpAny_setItem_pairs (knd := intKind prog w) (k := k) (intKind_is prog w k t) D (fun h' D' hb => ?_) (by rw [sizeLine_eq]; walk_at "om")
    obtain ⟨z1, z2⟩ := put_idict (tk := s.toks + 1) hs ha D' hb (P.put hz)
    exact ⟨(), _, ρ, trivial, z1, z2, q⟩
theorem s_kdict {n : Nat} {es : List (List KI × V)} {k : List KI} {v : V} {Q : List O → Prop} (hk : keyOk k = true) (hn : H[n]? = some (.kdict es)) (hl : es.length ≤ 1000000) (q : Q (H.set n (.kdict (dput es k v)))) : WSet prog w B d (.ref n) (keyV k) v H Q := by
  intro ρ s x y z hs hx hy hz A E r
  obtain ⟨a, xs, rfl, ha, D, P, ns⟩ := kdict_at (prog := prog) hs hx hn
  obtain ⟨t, items, rfl, h1, h2⟩ := VR.tup_inv hy
  have l1 := P.length
  have hkey : isKey s.heap k t := ⟨hk, keyV_nil hy⟩
  have ru := r.uni
  refine wpAny_setItem_heap (knd := keyKind prog w) (k := k) (by show A.units + 1 + 8 < _; walk_at "om") hkey D (fun h' D' hb => ?_) (by simp only [kvsOf, List.length_map] at l1; rw [sizeLine_eq]; walk_at "om")
  obtain ⟨z1, z2⟩ := put_kdict (tk := s.toks + (keyKind prog w).draws k) hs ha D' hb (by rw [kvsOf_storedH]; exact P.put hz)
  exact ⟨(), _, ρ, trivial, z1, z2, q⟩
theorem s_list {n : Nat} {vs : List V} {k : Int} {v : V} {Q : List O → Prop} (hn : H[n]? = some (.list vs)) (h0 : 0 ≤ k) (hk : k < vs.length) (hl : vs.length ≤ 1000000) (q : Q (H.set n (.list (vs.set k.toNat v)))) : WSet prog w B d (.ref n) (.int k) v H Q := by
  intro ρ s x y z hs hx hy hz A E r
  obtain ⟨a, items, ep, rfl, ha, g1, g2⟩ := list_at hs hx hn
  have l1 := g2.length
  cases hy with
  | int _ t =>
    refine ki_setAt (items := items.toArray) (n := ep) g1 h0 (by walk_at "om") (by rw [List.size_toArray]; walk_at "om") ?_
    obtain ⟨z1, z2⟩ := put_list (f := fun y => y.setIfInBounds k.toNat z) (items' := items.set k.toNat z) (tk := s.toks) hs ha g1 (by apply Array.toList_inj.mp; simp) (g2.set _ hz)
    exact ⟨(), _, ρ, trivial, z1, z2, q⟩
theorem ev1_AssignSub {o i value : PySem.Expr} {p' pos : Pos} {Q : Fl → Vals → List O → Prop} (hs : ∀ env, swapsWith value (some (.Subscript o i p')) pos.line env = pure false)
    (h : EvE prog w B names d value vals H fun v H₁ => EvE prog w B names d o vals H₁ fun ov H₂ => EvE prog w B names d i vals H₂ fun iv H₃ => WSet prog w B d ov iv v H₃ fun H₄ => Q .next vals H₄) :
    Ev1 prog w B names d (.Assign [.Subscript o i p'] value pos) vals H Q := by
  constructor
  intro env ρ s sr A E r
  refine wpAny_Assign_Subscript (h.go sr r fun v x H₁ ρ₁ s₁ va sr₁ e₁ h₁ => h₁.go sr₁ r fun ov y H₂ ρ₂ s₂ vb sr₂ e₂ h₂ => h₂.go sr₂ r fun iv z H₃ ρ₃ s₃ vc sr₃ e₃ h₃ => ?_) (hs env)
  refine wpAny_mono (h₃ ρ₃ s₃ y z x sr₃.hs (e₃.vr vb) vc (e₃.vr (e₂.vr va)) A E r) (fun _ s₄ ⟨_, H₄, ρ₄, _, b1, b2, q⟩ => ?_) fun _ _ e => e
  exact ⟨_, vals, H₄, ρ₄, .next, sr₃.ext b2 b1, (((e₁.trans e₂).trans e₃).trans b2).toF, q⟩

/-- d.get(k, v) -/
theorem methV_dict {n : Nat} {es : List (List KI × V)} {name : Str} {id : String} (slot : Slot "dict" name id) (ty : typeOf (.builtin id) = pure (.type "method_descriptor")) (hn : H[n]? = some (.kdict es)) : MethV prog w B d name (.ref n) H (.builtin id) [.ref n] := by
  intro ρ s x pl A E Q hs hx r q
  cases hx with
  | ref hr =>
    obtain ⟨ds, ep, h1, h2, h3⟩ := hs.hr.obj n _ _ hn hr
    exact getMethod_builtin (T := "dict") ⟨_, h1, rfl⟩ PySem.F.plainAttrs_dict slot ty (fun b e => by cases e; exact ⟨_, h1, rfl⟩) (q [.ref _] (.cons (.ref hr) .nil))
theorem c_get_kdict {n : Nat} {es : List (List KI × V)} {k : List KI} {v : V} (hk : keyOk k = true) (hn : H[n]? = some (.kdict es)) (q : Q ((dget es k).getD v) H) : CalV prog w B d (.val (.builtin "dict.get")) [.ref n, keyV k, v] H Q := by
  refine ⟨_, rfl, fun h _ => keep_builtin h, fun ρ s xs hs hv A E r => ?_⟩
  cases hv with
  | cons h1 h2 =>
    cases h2 with
    | cons h2 h3 =>
      cases h3 with
      | cons h3 h4 =>
        cases h4
        rename_i x
        obtain ⟨a, xs, rfl, ha, D, P, ns⟩ := kdict_at (prog := prog) hs h1 hn
        obtain ⟨t, items, rfl, g1, g2⟩ := VR.tup_inv h2
        have ru := r.uni
        have hkey : isKey s.heap k t := ⟨hk, keyV_nil h2⟩
        refine call_meetsIn PySem.F.slot_dict_get (T := "dict") D.typeIs PySem.F.entry_dict_get (PySem.F.args_dict_get_3 _ _ _) (meetsH_dict_get_default (keyKind prog w) a t ns x) ⟨?_, k, xs, hkey, D, ?_⟩
        · show A.units + 1 + 8 < _; walk_at "om"
        · have eq := valueAt_kvsOf xs k
          rw [← eq]
          rcases P.get k with ⟨e1, e2⟩ | ⟨v', x', e1, e2, vx⟩
          · rw [e1] at q; rw [e2]
            exact fin hs (fun _ _ e => e) h3 q
          · rw [e1] at q; rw [e2]
            exact fin hs (fun _ _ e => e) vx q

/-- new dicts -/
theorem ev_Dict0 {pos : Pos} (o : O) (ho : ∀ P ρ h a, h.get? a = some (dictObj [] 0) → OR P ρ h o a) (q : Q (.ref H.length) (H ++ [o])) : EvE prog w B names d (.Dict [] [] pos) vals H Q := by
  constructor
  intro env ρ s sr A E r
  refine wpAny_Dict_empty ?_
  have k : ∀ b o, s.heap.get? b = some o → (s.heap.push (dictObj [] 0)).get? b = some o := fun b o e => Heap.get?_push_of_some _ e
  refine ⟨.ref H.length, H ++ [o], ρ ++ [s.heap.objs.size], .ref ?_, sr.hs.more (o := o) (s' := { s with heap := s.heap.push (dictObj [] 0) }) k (get_end _) (ho _ _ _ _ (Heap.get?_push_size _ rfl)), .more (s' := { s with heap := s.heap.push (dictObj [] 0) }) k (get_end _) rfl rfl, q⟩
  rw [← sr.hs.hr.len, List.getElem?_append_right (Nat.le_refl _), Nat.sub_self]; rfl
theorem new_idict (P : Params) (ρ : List Addr) (h : Heap) (a : Addr) (e : h.get? a = some (dictObj [] 0)) : OR P ρ h (.idict []) a := ⟨[], 0, e, .nil, List.nodup_nil⟩
theorem new_kdict (P : Params) (ρ : List Addr) (h : Heap) (a : Addr) (e : h.get? a = some (dictObj [] 0)) : OR P ρ h (.kdict []) a := ⟨[], 0, e, .nil, List.nodup_nil⟩
end
noncomputable def namesOk (fs : List (Str × V)) : Prop := (fs.map (·.1)).Nodup
section
variable {ρ : List Addr} {h : Heap}
theorem nrs_put {a : Value} {v : V} {name : Str} {t : Tok} {hsh : Int} (hv : VR ρ h v a) : ∀ {fs : List (Str × V)} {ds : List DictEntry}, NRs ρ h fs ds → (fs.map (·.1)).Nodup → NRs ρ h (dput fs name v) (putL name hsh (.str name t) a ds)
  | _, _, .nil, _ => by
    show NRs ρ h [(name, v)] [_]
    exact .cons (t := t) rfl hv .nil
  | _, _, .cons (x := y) (t := t') (es := es) (v := v') hk hv' hr, hn => by
    rw [List.map_cons, List.nodup_cons] at hn
    unfold putL
    rw [hk, isStr_str]
    by_cases e : y = name
    · subst e
      rw [decide_eq_true rfl]
      simp only [if_true]
      have : dput ((y, v') :: es) y v = (y, v) :: es := by
        unfold dput
        rw [if_pos (by simp)]
        rw [List.map_cons]
        simp only [if_true]
        congr 1
        refine (List.map_congr_left fun z hz => ?_).trans (List.map_id _)
        rw [if_neg fun q => hn.1 (List.mem_map.mpr ⟨z, hz, q⟩)]; rfl
      rw [this]
      exact NRs.cons (x := y) (t := t') rfl hv hr
    · rw [decide_eq_false e]
      simp only [Bool.false_eq_true, if_false]
      have : dput ((y, v') :: es) name v = (y, v') :: dput es name v := by
        unfold dput
        rw [List.any_cons, decide_eq_false e, Bool.false_or, List.map_cons]
        simp only [e, if_false]
        split <;> rfl
      rw [this]
      exact .cons hk hv' (nrs_put hv hr hn.2)
theorem dput_names {K : Type} [DecidableEq K] (fs : List (K × V)) (x : K) (v : V) (hn : (fs.map (·.1)).Nodup) : ((dput fs x v).map (·.1)).Nodup := by
  unfold dput
  split
  · rw [List.map_map]
    have : ((fun kv : K × V => kv.1) ∘ fun kv => if kv.1 = x then (kv.1, v) else kv) = (·.1) := by
      funext kv; simp only [Function.comp]; split <;> rfl
    rw [this]; exact hn
  · rename_i hc
    rw [List.map_append, List.nodup_append]
    refine ⟨hn, by simp, fun a ha b hb => ?_⟩
    simp at hb; subst hb
    intro e; subst e
    obtain ⟨kv, h1, h2⟩ := List.mem_map.mp ha
    exact hc (List.any_eq_true.mpr ⟨kv, h1, by simp [h2]⟩)
theorem nrs_len : ∀ {fs : List (Str × V)} {ds : List DictEntry}, NRs ρ h fs ds → ds.length = fs.length
  | _, _, .nil => rfl
  | _, _, .cons _ _ r => by rw [List.length_cons, List.length_cons, nrs_len r]
theorem nrs_look {fs : List (Str × V)} {ds : List DictEntry} {ep : Nat} (r : NRs ρ h fs ds) (name : Str) : (lookIn name (dictObj ds ep)).isSome = true := by
  unfold lookIn
  dsimp only
  cases e : ds.find? (fun x => x.key.isStr name) with
  | some _ => rfl
  | none =>
    have : ds.any (·.refKey) = false := by
      clear e
      induction r with
      | nil => rfl
      | cons hk _ _ ih => rw [List.any_cons, ih, DictEntry.refKey, hk]; rfl
    rw [this]; rfl
end

/-- facts of a class for stores and making -/
structure StoreIs (K : Frag) (C : Addr) : Prop where
  sa : findIn K (.ref C) "__setattr__" = some (some (.builtin "object.__setattr__"))
  po : plainOver K C = true
  hd : (clsIn K C).any (·.hasDict) = true
structure TakeIs (K : Frag) (C : Addr) (name : Str) : Prop where
  tk : takerIn K C name = some none

section
variable {prog : Program} {w : World} {B : Heap} {names : Names} {vals : Vals} {d : Nat} {H : List O} {K : Frag}

theorem set_attr {n dn : Nat} {C : Addr} {fs : List (Str × V)} {name : Str} {v : V} {ρ : List Addr} {s : Shared} {x y : Value} {Q : List O → Prop} (X : K.In B) (c : StoreIs K C) (tk : TakeIs K C name) (hs : HS w.params B ρ H s) (hx : VR ρ s.heap (.ref n) x) (hv : VR ρ s.heap v y)
    (hi : H[n]? = some (.inst C dn)) (hd : H[dn]? = some (.ns fs)) (hl : fs.length ≤ 900) (q : Q (H.set dn (.ns (dput fs name v)))) : WT prog w B relU d (setAttr x name y) ρ s fun (_ : Unit) H' => Q H' := by
  intro A E r
  obtain ⟨a, dx, ds, ep, rfl, z1, z2, z3, z4, z5, I⟩ := inst_at hs hx hi hd
  have X' : K.In s.heap := fun b o e => hs.base b o (X b o e)
  refine set_plain X' I c.sa (osa_open (s := { s with toks := s.toks + 1 }) X' I c.po tk.tk fun b => ?_)
  obtain ⟨cd, hc, hd'⟩ := any_some c.hd
  obtain ⟨hx', hcl, hn, -⟩ := I
  have D := z3
  have lds := nrs_len z4
  refine wpAny_bind (wpAny_pure (wpAny_bind (wpAny_bind (wpAny_loadPart (s := { s with toks := s.toks + 1 }) hx' (wpAny_bind (Looks.here (s := { s with toks := s.toks + 1 }) (looks_clsIn X' hc) ?_))))))
  rw [hd']
  refine wpAny_pure (a := some dx) (wpAny_bind (wpAny_pure (wpAny_bind ?_)))
  unfold nsSet
  refine wpAny_bind (wpAny_bind (wpAny_askSetting (wpAny_pure (wpAny_bind (wpAny_mkText (wpAny_bind (wpAny_loadPart D ?_)))))))
  have hlk := nrs_look (ep := ep) z4 name
  dsimp only
  have cc : (!ds.toArray.any (·.key.isStr name) && ds.toArray.any (·.refKey)) = false := by
    rw [← Array.any_toList, ← Array.any_toList]
    unfold lookIn at hlk
    dsimp only at hlk
    split at hlk
    · rename_i en he
      rw [List.any_eq_true.mpr ⟨en, List.mem_of_find?_eq_some he, List.find?_some he⟩]; rfl
    · split at hlk
      · cases hlk
      · rename_i z; rw [Bool.not_eq_true] at z; rw [z, Bool.and_false]
  rw [aRefKeyMayBeTheName_at, cc]
  refine wpAny_updatePart D ?_
  have e1 := putName_dict name (PyData.keyHash w.params name) (.str name (s.toks + 1)) y ds ep
  have lput : (putL name (PyData.keyHash w.params name) (.str name (s.toks + 1)) y ds).length ≤ ds.length + 1 := by
    have : ∀ l : List DictEntry, (putL name (PyData.keyHash w.params name) (.str name (s.toks + 1)) y l).length ≤ l.length + 1 := by
      intro l
      induction l with
      | nil => simp [putL]
      | cons e r ih => unfold putL; split <;> simp at ih ⊢; walk_at "om"
    exact this ds
  have get' : (s.heap.update dx (Obj.putName name (PyData.keyHash w.params name) (.str name (s.toks + 1)) y)).get? dx = some (dictOf (putL name (PyData.keyHash w.params name) (.str name (s.toks + 1)) y ds) (putN name ds ep)) := by
    rw [Heap.get?_update_self _ D (by rw [e1]; rfl), e1]
  have k : ∀ b, b ≠ dx → (s.heap.update dx (Obj.putName name (PyData.keyHash w.params name) (.str name (s.toks + 1)) y)).get? b = s.heap.get? b := fun b hb => Heap.get?_update_other _ _ (fun q => hb q.symm)
  refine wpAny_bind (wpAny_lookBehind get' (pastItsLine_dict (by rw [List.size_toArray, sizeLine_eq]; walk_at "om")) ?_)
  have ex : Ext ρ s ρ { s with heap := s.heap.update dx (Obj.putName name (PyData.keyHash w.params name) (.str name (s.toks + 1)) y), toks := s.toks + 1 + 1 } := .put (s' := { s with heap := s.heap.update dx (Obj.putName name (PyData.keyHash w.params name) (.str name (s.toks + 1)) y), toks := s.toks + 1 + 1 }) hs.hr z2 k get' rfl rfl
  refine wpAny_pure ⟨(), H.set dn (.ns (dput fs name v)), ρ, trivial, hs.put (s' := { s with heap := s.heap.update dx (Obj.putName name (PyData.keyHash w.params name) (.str name (s.toks + 1)) y), toks := s.toks + 1 + 1 }) z2 k ⟨_, _, get', ?_, dput_names fs name v z5⟩, ex, q⟩
  exact nrs_put (hv.mono ex.pre' ex.tup) (z4.mono ex.pre' ex.tup) z5

theorem ev1_AssignAttr {o value : PySem.Expr} {attr : Str} {p' pos : Pos} {Q : Fl → Vals → List O → Prop} (X : K.In B) (hs : ∀ env, swapsWith value (some (.Attribute o attr p')) pos.line env = pure false)
    (h : EvE prog w B names d value vals H fun v H₁ => EvE prog w B names d o vals H₁ fun ov H₂ => ∃ n C dn fs, ov = .ref n ∧ StoreIs K C ∧ TakeIs K C attr ∧ H₂[n]? = some (.inst C dn) ∧ H₂[dn]? = some (.ns fs) ∧ fs.length ≤ 900 ∧ Q .next vals (H₂.set dn (.ns (dput fs attr v)))) :
    Ev1 prog w B names d (.Assign [.Attribute o attr p'] value pos) vals H Q := by
  constructor
  intro env ρ s sr A E r
  refine plainObj_wpAny_Assign_Attribute (h.go sr r fun v x H₁ ρ₁ s₁ va sr₁ e₁ h₁ => h₁.go sr₁ r fun ov y H₂ ρ₂ s₂ vb sr₂ e₂ ⟨n, C, dn, fs, hov, c, tk, hi, hd, hl, q⟩ => ?_) (hs env)
  subst hov
  refine wpAny_mono (set_attr (prog := prog) (d := d) (Q := fun H' => Q .next vals H') X c tk sr₂.hs vb (e₂.vr va) hi hd hl q A E r) (fun _ s₄ ⟨_, H₄, ρ₄, _, b1, b2, q⟩ => ?_) fun _ _ e => e
  exact ⟨_, vals, H₄, ρ₄, .next, sr₂.ext b2 b1, ((e₁.trans e₂).trans b2).toF, q⟩

/-- a class is called -/
structure MakeIs (K : Frag) (C : Addr) (fI : Addr) : Prop where
  mak : makesIn K C = true
  ini : findIn K (.ref C) "__init__" = some (some (.ref fI))
  fn : typeIn K (.ref fI) = some (.type "function")

theorem keep_cls {C fI : Addr} (X : K.In B) (m : MakeIs K C fI) (h : Heap) (k : ∀ b o, B.get? b = some o → h.get? b = some o) : KeepOk prog w h (.ref C) := by
  have Y := m.mak
  unfold makesIn at Y
  split at Y
  · rename_i oc od cd sl ho
    exact ⟨.machine, .inr (.inl rfl), (Looks.ld (part := none) (k _ _ (X _ _ ho))).andThen ((makes_of (fun b o e => k b o (X b o e)) m.mak).call.andThen .now)⟩
  · cases Y

theorem under_weight (C : Addr) (xs : List Value) : (Code.builtin "type.__call__" ⟨.ref C :: xs, []⟩).weight = 1 := by kernel_rfl
theorem under_units (C : Addr) (xs : List Value) : (Code.builtin "type.__call__" ⟨.ref C :: xs, []⟩).cUnits = 1 := by kernel_rfl
theorem size_push1 (h : Heap) (o : Obj) : (h.push o).objs.size = h.objs.size + 1 := by cases h; exact Array.size_push _
theorem calV_make {C fI : Addr} {vs : List V} {Q : V → List O → Prop} {d' : Nat} (X : K.In B) (m : MakeIs K C fI) (hd : d' + 1 ≤ d)
    (h : CallC prog w B d' fI (.ref (H.length + 1) :: vs) (H ++ [.ns []] ++ [.inst C H.length]) fun v H' => v = .none ∧ Q (.ref (H.length + 1)) H') : CalV prog w B d (.val (.ref C)) vs H Q := by
  refine ⟨_, rfl, fun h k => keep_cls X m h k, fun ρ s xs hs hv A E r => wpAny_call ?_⟩
  have X' : K.In s.heap := fun b o e => hs.base b o (X b o e)
  obtain ⟨hh, g, dr, t, os⟩ := s
  have Xh : K.In hh := X'
  refine make_core (makes_of Xh m.mak) (looks_findIn Xh m.ini) (fun self => bind_fn Xh self m.fn) (.inl rfl) ?_
  have k1 : ∀ b o, hh.get? b = some o → (hh.push emptyDict).get? b = some o := fun b o e => Heap.get?_push_of_some _ e
  have e0 : (hh.push emptyDict).get? hh.objs.size = some (dictObj [] 0) := Heap.get?_push_size _ rfl
  have hs1 := hs.more (o := .ns []) (s' := ⟨hh.push emptyDict, g, dr, t, os⟩) k1 (get_end _) ⟨[], 0, e0, .nil, List.nodup_nil⟩
  have ex1 : Ext ρ ⟨hh, g, dr, t, os⟩ (ρ ++ [hh.objs.size]) ⟨hh.push emptyDict, g, dr, t, os⟩ := .more (s' := ⟨hh.push emptyDict, g, dr, t, os⟩) k1 (get_end _) rfl rfl
  have sz : (hh.push emptyDict).objs.size = hh.objs.size + 1 := Heap.size_push ..
  have k2 : ∀ b o, (hh.push emptyDict).get? b = some o → ((hh.push emptyDict).push (instObj C hh.objs.size)).get? b = some o := fun b o e => Heap.get?_push_of_some _ e
  have e2 : ((hh.push emptyDict).push (instObj C hh.objs.size)).get? (hh.objs.size + 1) = some (instObj C hh.objs.size) := by rw [← sz]; exact Heap.get?_push_size _ rfl
  have none2 : (hh.push emptyDict).get? (hh.objs.size + 1) = none := by rw [← sz]; exact get_end _
  have r1 : (ρ ++ [hh.objs.size])[H.length]? = some hh.objs.size := by rw [← hs.hr.len, List.getElem?_append_right (Nat.le_refl _), Nat.sub_self]; rfl
  have r1' : (ρ ++ [hh.objs.size] ++ [hh.objs.size + 1])[H.length]? = some hh.objs.size := by rw [List.getElem?_append_left (List.getElem?_eq_some_iff.mp r1).1]; exact r1
  have r2 : (ρ ++ [hh.objs.size] ++ [hh.objs.size + 1])[H.length + 1]? = some (hh.objs.size + 1) := by
    rw [List.getElem?_append_right (by simp [hs.hr.len])]; simp [hs.hr.len]
  have hs2 := hs1.more (o := .inst C H.length) (s' := ⟨(hh.push emptyDict).push (instObj C hh.objs.size), g, dr, t, os⟩) k2 none2 ⟨hh.objs.size, r1', e2⟩ (by show (hh.push emptyDict).objs.size ≤ _; exact Nat.le_of_eq (size_push1 _ _))
  have ex2 : Ext (ρ ++ [hh.objs.size]) ⟨hh.push emptyDict, g, dr, t, os⟩ (ρ ++ [hh.objs.size] ++ [hh.objs.size + 1]) ⟨(hh.push emptyDict).push (instObj C hh.objs.size), g, dr, t, os⟩ := .more (s' := ⟨(hh.push emptyDict).push (instObj C hh.objs.size), g, dr, t, os⟩) k2 none2 rfl rfl
  have ex := ex1.trans ex2
  refine h.go' (ρ ++ [hh.objs.size] ++ [hh.objs.size + 1]) _ _ _ _ hs2 (.cons (.ref r2) (ex.vrs hv)) ?_ fun v val H' ρ' s' a b c q => ?_
  · refine ⟨?_, ?_, r.hand⟩
    · have := r.dep; show A.depth + (Code.builtin "type.__call__" ⟨.ref C :: xs, []⟩).weight + d' < _; rw [under_weight]; walk_at "om"
    · have := r.uni; show A.units + (Code.builtin "type.__call__" ⟨.ref C :: xs, []⟩).cUnits + 8 * d' + 80 < _; rw [under_units]; walk_at "om"
  · obtain ⟨rfl, q⟩ := q
    cases a
    obtain ⟨tl, et⟩ := c.pre'
    refine ⟨rfl, .ref (H.length + 1), H', ρ', .ref ?_, b, ex.trans c, q⟩
    rw [et, List.getElem?_append_left (List.getElem?_eq_some_iff.mp r2).1]; exact r2
end
inductive ItK where
  | list (n : Nat)
  | tup (vs : List V)
  | rng (n : Int)

noncomputable def ItAt (ρ : List Addr) (h : Heap) (it : Addr) : ItK → Nat → Prop
  | .list n, i => ∃ a, ρ[n]? = some a ∧ h.IsListIter it a i
  | .tup vs, i => ∃ t items, h.get? t = some (tupObj items) ∧ VRs ρ h vs items ∧ h.IsTupleIter it t i
  | .rng n, i => IsRangeIter h it i (n - i) 1 ∨ (n ≤ 0 ∧ i = 0 ∧ IsRangeIter h it 0 0 1)
noncomputable def itemAt : ItK → List O → Nat → Option V
  | .list n, H, i => match H[n]? with
    | some (.list vs) => vs[i]?
    | _ => none
  | .tup vs, _, i => vs[i]?
  | .rng n, _, i => if (i : Int) < n then some (.int i) else none
noncomputable def Live : ItK → List O → Prop
  | .list n, H => ∃ vs, H[n]? = some (.list vs)
  | .tup _, _ => True
  | .rng n, _ => -(2 ^ 40) ≤ n ∧ n < 2 ^ 40
inductive IterOf : V → ItK → Prop
  | list {n : Nat} : IterOf (.ref n) (.list n)
  | tup {vs : List V} : IterOf (.tup vs) (.tup vs)
  | rng {n : Int} : IterOf (.rng n) (.rng n)

/-- only what stands at one address changes -/
structure Moved (it : Addr) (s s' : Shared) : Prop where
  keep : ∀ b o, b ≠ it → s.heap.get? b = some o → s'.heap.get? b = some o
  tup : TupKeep s.heap s'.heap
  gens : s'.gens = s.gens
  os : s'.os = s.os
theorem Ext.moved {ρ ρ' : List Addr} {s₀ s s' : Shared} {it : Addr} (x : Ext ρ s₀ ρ' s) (m : Moved it s s') (h0 : s₀.heap.get? it = none) : Ext ρ s₀ ρ' s' :=
  ⟨x.pre, fun b o e hb => m.keep b o (fun q => by rw [q, h0] at e; cases e) (x.keep b o e hb), fun a ha o e => by obtain ⟨o', e'⟩ := x.live a ha o e; exact ⟨o', m.keep _ _ (fun q => by rw [q, h0] at e; cases e) e'⟩, x.tup.trans m.tup, m.gens.trans x.gens, m.os.trans x.os⟩
theorem ExtF.moved {env : Env} {ρ ρ' : List Addr} {s₀ s s' : Shared} {it : Addr} (x : ExtF env ρ s₀ ρ' s) (m : Moved it s s') (h0 : s₀.heap.get? it = none) : ExtF env ρ s₀ ρ' s' :=
  ⟨x.pre, fun b o e hb h1 h2 => m.keep b o (fun q => by rw [q, h0] at e; cases e) (x.keep b o e hb h1 h2), fun a o e => by obtain ⟨o', e'⟩ := x.live a o e; exact ⟨o', m.keep _ _ (fun q => by rw [q, h0] at e; cases e) e'⟩, x.tup.trans m.tup, m.gens.trans x.gens, m.os.trans x.os⟩
theorem HS.moved {P : Params} {B : Heap} {ρ : List Addr} {H : List O} {s s' : Shared} {it : Addr} (x : HS P B ρ H s) (m : Moved it s s') (h1 : it ∉ ρ) (h2 : B.get? it = none) : HS P B ρ H s' :=
  x.aside (wr := [it]) (fun b o hb e => m.keep b o (by simpa using hb) e) (fun b hb => by simp at hb; subst hb; exact ⟨h1, h2⟩) m.tup
theorem FR.frame {B : Heap} {env : Env} {names : Names} {vals : Vals} {ρ ρ' : List Addr} {h h' : Heap} (x : FR B env names vals ρ h) (pre : ∃ t, ρ' = ρ ++ t) (k : ∀ b o, h.get? b = some o → b = env.locals ∨ (∃ y, env.cells.lookup y = some b) → h'.get? b = some o) (tk : TupKeep h h')
    (n1 : env.locals ∉ ρ') (n2 : ∀ (y : Str) (c : Addr), env.cells.lookup y = some c → c ∉ ρ') : FR B env names vals ρ' h' := by
  obtain ⟨m, hn, hm⟩ := x.ns
  have cellK : ∀ (y : Str) (c : Addr), env.cells.lookup y = some c → ∀ v, h.IsCell c v → h'.IsCell c v := fun y c hp v ⟨o, ho, hd⟩ => ⟨o, k _ _ ho (.inr ⟨y, hp⟩), hd⟩
  refine ⟨x.len, ⟨m, ?_, fun i y v h1 h2 => ?_⟩, fun i y kk v h1 h2 h3 => ?_, fun i y h1 => ?_, x.capart, n1, fun y c hp => ⟨n2 y c hp, (x.sepC y c hp).2⟩, fun y c hp => ?_, x.above⟩
  · obtain ⟨o, es, ep, ho, r⟩ := hn
    exact ⟨o, es, ep, k _ _ ho (.inl rfl), r⟩
  · obtain ⟨a, q, r⟩ := hm i y v h1 h2
    exact ⟨a, q, r.mono pre tk⟩
  · obtain ⟨c, a, q, r, t⟩ := x.cl i y kk v h1 h2 h3
    exact ⟨c, a, q, cellK y c q _ r, t.mono pre tk⟩
  · obtain ⟨c, v₀, q, r, t⟩ := x.cany i y h1
    exact ⟨c, v₀, q, cellK y c q _ r, t⟩
  · obtain ⟨o, ho⟩ := x.cthere y c hp
    exact ⟨o, k _ _ ho (.inr ⟨y, hp⟩)⟩
theorem SR.moved {P : Params} {B : Heap} {env : Env} {names : Names} {vals : Vals} {ρ : List Addr} {H : List O} {s s' : Shared} {it : Addr} (x : SR P B env names vals ρ H s) (m : Moved it s s') (h1 : it ∉ ρ) (h2 : B.get? it = none) (h3 : it ≠ env.locals) (h4 : ∀ (y : Str) (c : Addr), env.cells.lookup y = some c → it ≠ c) :
    SR P B env names vals ρ H s' :=
  ⟨x.ok, x.hs.moved m h1 h2, x.fr.frame ⟨[], by simp⟩ (fun b o e hb => m.keep b o (fun q => by
    subst q
    rcases hb with hb | ⟨y, hb⟩
    · exact h3 hb
    · exact h4 y _ hb rfl) e) m.tup x.fr.sepL fun y c hp => (x.fr.sepC y c hp).1⟩

theorem ItAt.keep {ρ ρ' : List Addr} {h h' : Heap} {it : Addr} {k : ItK} {i : Nat} (x : ItAt ρ h it k i) (hp : ∃ t, ρ' = ρ ++ t) (tk : TupKeep h h') (kp : ∀ o, h.get? it = some o → h'.get? it = some o) : ItAt ρ' h' it k i := by
  cases k with
  | list n =>
    obtain ⟨a, ha, o, ho, r⟩ := x
    obtain ⟨t, rfl⟩ := hp
    exact ⟨a, by rw [List.getElem?_append_left (List.getElem?_eq_some_iff.mp ha).1]; exact ha, o, kp _ ho, r⟩
  | tup vs =>
    obtain ⟨t, items, e, r, o, ho, q⟩ := x
    exact ⟨t, items, tk _ _ (imm_tup _) e, r.mono hp tk, o, kp _ ho, q⟩
  | rng n => exact x.imp (fun e => kp _ e) fun e => ⟨e.1, e.2.1, kp _ e.2.2⟩
theorem ItAt.there {ρ : List Addr} {h : Heap} {it : Addr} {k : ItK} {i : Nat} (x : ItAt ρ h it k i) : ∃ o, h.get? it = some o ∧ ¬ Imm o := by
  cases k with
  | list n =>
    obtain ⟨a, ha, o, ho, hc, hd⟩ := x
    exact ⟨o, ho, fun q => by rcases q with ⟨q, _⟩ | ⟨q, _⟩ <;> rw [hc] at q <;> simp at q⟩
  | tup vs =>
    obtain ⟨t, items, e, r, o, ho, hc, hd⟩ := x
    exact ⟨o, ho, fun q => by rcases q with ⟨q, _⟩ | ⟨q, _⟩ <;> rw [hc] at q <;> simp at q⟩
  | rng n =>
    rcases x with x | ⟨_, _, x⟩ <;> exact ⟨_, x, fun q => by rcases q with ⟨q, _⟩ | ⟨q, _⟩ <;> simp at q⟩
theorem moved_same {s : Shared} {it : Addr} {h' : Heap} {tk : Nat} {o : Obj} (ho : s.heap.get? it = some o) (hn : ¬ Imm o) (b : Heap.SameBut it s.heap h') : Moved it s { s with heap := h', toks := tk } :=
  ⟨fun c ob hc e => (b.2 c hc).trans e, fun t ob im e => (b.2 t fun q => by subst q; rw [ho] at e; cases e; exact hn im).trans e, rfl, rfl⟩

section
variable {prog : Program} {w : World} {B : Heap} {A : Around} {E : Value → Shared → Prop} {ρ : List Addr} {H : List O} {s : Shared} {it : Addr} {k : ItK} {i : Nat}

theorem iter_of {v : V} {x : Value} {Q : Value → Shared → Prop} (hs : HS w.params B ρ H s) (hx : VR ρ s.heap v x) (ik : IterOf v k) (lv : Live k H)
    (q : ∀ it s', HS w.params B ρ H s' → (∀ b o, s.heap.get? b = some o → s'.heap.get? b = some o) → s'.gens = s.gens → s'.os = s.os → ItAt ρ s'.heap it k 0 → s.heap.get? it = none → Q (.ref it) s') : wpAny (model prog w) A (pyIter x) Q E s := by
  cases ik with
  | list =>
    obtain ⟨vs, hn⟩ := lv
    obtain ⟨a, items, ep, rfl, ha, g1, g2⟩ := list_at hs hx hn
    refine wpAny_pyIter_list (isList_of g1) ?_
    have kp : ∀ b o, s.heap.get? b = some o → (s.heap.push { cls := .type "list_iterator", data := .fields #[.ref a, .int 0 0] }).get? b = some o := fun b o e => Heap.get?_push_of_some _ e
    exact q _ { s with heap := s.heap.push { cls := .type "list_iterator", data := .fields #[.ref a, .int 0 0] } } (hs.keeps (s' := { s with heap := s.heap.push { cls := .type "list_iterator", data := .fields #[.ref a, .int 0 0] } }) kp) kp rfl rfl ⟨a, ha, _, Heap.get?_push_size _ rfl, rfl, rfl⟩ (get_end _)
  | tup =>
    obtain ⟨t, items, rfl, g1, g2⟩ := hx.tup_inv
    refine wpAny_pyIter_tuple (isTuple_of g1) ?_
    have kp : ∀ b o, s.heap.get? b = some o → (s.heap.push { cls := .type "tuple_iterator", data := .fields #[.ref t, .int 0 0] }).get? b = some o := fun b o e => Heap.get?_push_of_some _ e
    exact q _ { s with heap := s.heap.push { cls := .type "tuple_iterator", data := .fields #[.ref t, .int 0 0] } } (hs.keeps (s' := { s with heap := s.heap.push { cls := .type "tuple_iterator", data := .fields #[.ref t, .int 0 0] } }) kp) kp rfl rfl
      ⟨t, items, kp _ _ g1, g2.mono ⟨[], by simp⟩ (.of kp), _, Heap.get?_push_size _ rfl, rfl, rfl⟩ (get_end _)
  | rng =>
    cases hx with
    | rng hr =>
      rename_i n r t u v
      obtain ⟨hlo, hn⟩ : -(2 ^ 40) ≤ n ∧ n < 2 ^ 40 := lv
      · refine wpAny_pyIter_range hr (small_one (by decide) (by decide) (by walk_at "om") (by walk_at "om")) ?_
        have kp : ∀ b o, s.heap.get? b = some o → (s.heap.push { cls := .type "range_iterator", data := .fields #[rawInt 0, rawInt (Builtin.Range.rangeSize 0 n 1), rawInt 1] }).get? b = some o := fun b o e => Heap.get?_push_of_some _ e
        refine q _ { s with heap := s.heap.push { cls := .type "range_iterator", data := .fields #[rawInt 0, rawInt (Builtin.Range.rangeSize 0 n 1), rawInt 1] } } (hs.keeps (s' := { s with heap := s.heap.push { cls := .type "range_iterator", data := .fields #[rawInt 0, rawInt (Builtin.Range.rangeSize 0 n 1), rawInt 1] } }) kp) kp rfl rfl ?_ (get_end _)
        have e : (s.heap.push { cls := .type "range_iterator", data := .fields #[rawInt 0, rawInt (Builtin.Range.rangeSize 0 n 1), rawInt 1] }).get? s.heap.objs.size = _ := Heap.get?_push_size _ rfl
        have z := rangeSize_one 0 n
        by_cases h0 : 0 < n
        · rw [if_pos h0] at z
          refine .inl ?_
          rw [z] at e
          rw [z]; simpa using e
        · rw [if_neg h0] at z
          refine .inr ⟨by walk_at "om", rfl, ?_⟩
          rw [z] at e
          rw [z]; exact e
theorem next_it {Q : Option Value → Shared → Prop} (hA : A.handled = none) (hs : HS w.params B ρ H s) (hit : ItAt ρ s.heap it k i) (n1 : it ∉ ρ) (n2 : B.get? it = none) (lv : Live k H)
    (hsome : ∀ v, itemAt k H i = some v → ∀ x s', VR ρ s'.heap v x → HS w.params B ρ H s' → ItAt ρ s'.heap it k (i + 1) → Moved it s s' → Q (some x) s')
    (hnone : itemAt k H i = none → ∀ s', HS w.params B ρ H s' → Moved it s s' → Q none s') : wpAny (model prog w) A (pyNext (.ref it)) Q E s := by
  obtain ⟨oi, hoi, him⟩ := hit.there
  have liveOf : ∀ {h' : Heap}, Heap.ExtBut it s.heap h' → Moved it s { s with heap := h' } := fun {h'} x =>
    ⟨fun b o hb e => x b o hb e, fun t o im e => x t o (fun q => by subst q; rw [hoi] at e; cases e; exact him im) e, rfl, rfl⟩
  cases k with
  | list n =>
    obtain ⟨vs, hn⟩ := lv
    obtain ⟨a, ha, hl⟩ := hit
    obtain ⟨a', items, ep, e, ha', g1, g2⟩ := list_at hs (.ref ha) hn
    cases e
    have ei : itemAt (.list n) H i = vs[i]? := by show (match H[n]? with | some (.list vs) => vs[i]? | _ => none) = _; rw [hn]
    rw [ei] at hsome hnone
    cases hv : vs[i]? with
    | some v =>
      obtain ⟨x, hx, vx⟩ := g2.get hv
      refine wpAny_pyNext_list_item hl (isList_of g1) (by simpa using hx) fun h' hl' sb => ?_
      have m : Moved it s { s with heap := h' } := moved_same hoi him sb
      exact hsome v hv x { s with heap := h' } (vx.mono ⟨[], by simp⟩ m.tup) (hs.moved m n1 n2) ⟨a, ha, hl'⟩ m
    | none =>
      have hx : items.toArray[i]? = none := by
        have := g2.length
        rw [List.getElem?_eq_none_iff] at hv
        rw [List.getElem?_toArray, List.getElem?_eq_none_iff]; walk_at "om"
      refine wpAny_pyNext_list_end hA hl (isList_of g1) hx fun h' x => ?_
      exact hnone hv { s with heap := h' } (hs.moved (liveOf x) n1 n2) (liveOf x)
  | tup vs =>
    obtain ⟨t, items, e, g2, hl⟩ := hit
    have ei : itemAt (.tup vs) H i = vs[i]? := rfl
    rw [ei] at hsome hnone
    cases hv : vs[i]? with
    | some v =>
      obtain ⟨x, hx, vx⟩ := g2.get hv
      refine wpAny_pyNext_tuple_item hl (isTuple_of e) (by simpa using hx) fun h' hl' sb => ?_
      have m : Moved it s { s with heap := h' } := moved_same hoi him sb
      exact hsome v hv x { s with heap := h' } (vx.mono ⟨[], by simp⟩ m.tup) (hs.moved m n1 n2) ⟨t, items, m.tup _ _ (imm_tup _) e, g2.mono ⟨[], by simp⟩ m.tup, hl'⟩ m
    | none =>
      have hx : items.toArray[i]? = none := by
        have := g2.length
        rw [List.getElem?_eq_none_iff] at hv
        rw [List.getElem?_toArray, List.getElem?_eq_none_iff]; walk_at "om"
      refine wpAny_pyNext_tuple_end hA hl (isTuple_of e) hx fun h' x => ?_
      exact hnone hv { s with heap := h' } (hs.moved (liveOf x) n1 n2) (liveOf x)
  | rng n =>
    have ei : itemAt (.rng n) H i = if (i : Int) < n then some (.int i) else none := rfl
    rw [ei] at hsome hnone
    by_cases hlt : (i : Int) < n
    · rw [if_pos hlt] at hsome
      have hr : IsRangeIter s.heap it i (n - i) 1 := by
        rcases hit with h | ⟨h1, h2, h3⟩
        · exact h
        · walk_at "om"
      refine wpAny_pyNext_range_item hr (by walk_at "om") fun h' hr' sb => ?_
      have m : Moved it s { s with heap := h', toks := s.toks + 1 } := moved_same hoi him sb
      refine hsome _ rfl _ { s with heap := h', toks := s.toks + 1 } (.int _ _) (hs.moved m n1 n2) (.inl ?_) m
      have e1 : (i : Int) + 1 = ((i + 1 : Nat) : Int) := by walk_at "om"
      have e2 : n - (i : Int) - 1 = n - ((i + 1 : Nat) : Int) := by walk_at "om"
      rw [e1, e2] at hr'
      exact hr'
    · rw [if_neg hlt] at hnone
      obtain ⟨x, lf, hr, hlf⟩ : ∃ x lf, IsRangeIter s.heap it x lf 1 ∧ lf ≤ 0 := by
        rcases hit with h | ⟨h1, h2, h3⟩
        · exact ⟨_, _, h, by walk_at "om"⟩
        · exact ⟨_, _, h3, by walk_at "om"⟩
      refine wpAny_pyNext_range_end hA hr hlf fun h' x => ?_
      exact hnone rfl { s with heap := h' } (hs.moved (liveOf x) n1 n2) (liveOf x)
end
inductive TgtPut (names : Names) : PySem.Expr → V → Vals → Vals → Prop
  | name {x : Str} {pos : Pos} {k : NameKind} {v : V} {vals vals' : Vals} : Put names vals x k v vals' → (k = .local ∨ k = .cell) → TgtPut names (.Name x pos) v vals vals'
  | tup {xs : List (Str × Pos)} {kk : Nat} {pos : Pos} {vs : List V} {vals vals' : Vals} : xs.length = vs.length → PutAll names vals ((xs.map (·.1)).zip vs) vals' → TgtPut names (.Tuple (nameExprs xs) kk pos) (.tup vs) vals vals'
noncomputable def isTgt : PySem.Expr → Bool
  | .Name .. => true
  | .Tuple .. => true
  | _ => false

section
variable {prog : Program} {w : World} {B : Heap} {A : Around} {E : Value → Shared → Prop} {names : Names} {vals vals' : Vals} {env : Env} {ρ : List Addr} {H : List O} {s : Shared} {it : Addr} {k : ItK} {i d : Nat}

theorem assign_tgt {target : PySem.Expr} {v : V} {x : Value} {Q : Unit → Shared → Prop} (hA : A.handled = none) (p : TgtPut names target v vals vals') (sr : SR w.params B env names vals ρ H s) (hv : VR ρ s.heap v x)
    (q : ∀ s', SR w.params B env names vals' ρ H s' → ExtF env ρ s ρ s' → Q () s') : wpAny (model prog w) A (assign target env x) Q E s := by
  cases p with
  | name p hk => exact wpAny_assign_Name (store_ok sr p hk hv q)
  | tup hl p =>
    rename_i xs kk pos vs
    obtain ⟨t, items, rfl, ht, hvs⟩ := hv.tup_inv
    have hil := hvs.length
    refine wpAny_assign_Tuple hA (isTuple_of ht) (by rw [assignEach_names]; simp [hil, hl]) (star_names xs env) fun h' x' => ?_
    obtain ⟨hs', ex'⟩ := ext_end sr.hs x'
    rw [assignEach_names, List.map_map]
    exact assign_all (xs := xs) (sr.ext ex' hs') p hl (ex'.vrs hvs) fun s₂ sr₂ e₂ => q s₂ sr₂ (ex'.toF.trans e₂)

theorem letgo_it {target : PySem.Expr} {x : Value} {Q : Unit → Shared → Prop} (ht : isTgt target = true) (hit : ItAt ρ s.heap it k i) (q : Q () s) : wpAny (model prog w) A (letOwnedTupleGo target (.ref it) x) Q E s := by
  cases target <;> first | cases ht | skip
  case Name => exact wpAny_pure q
  case Tuple =>
    cases x <;> first | exact wpAny_pure q | skip
    rename_i a
    cases k with
    | list n =>
      obtain ⟨_, _, o, ho, hc, hd⟩ := hit
      unfold letOwnedTupleGo
      refine wpAny_bind (wpAny_load ho ?_)
      rw [hc, hd]
      dsimp only
      rw [if_neg (by simp)]
      exact wpAny_pure q
    | tup vs =>
      obtain ⟨_, _, _, _, o, ho, hc, hd⟩ := hit
      unfold letOwnedTupleGo
      refine wpAny_bind (wpAny_load ho ?_)
      rw [hc, hd]
      dsimp only
      rw [if_neg (by simp)]
      exact wpAny_pure q
    | rng n =>
      rcases hit with hit | ⟨_, _, hit⟩ <;>
      · unfold letOwnedTupleGo
        refine wpAny_bind (wpAny_load hit ?_)
        dsimp only
        rw [if_neg (by simp)]
        exact wpAny_pure q
theorem TgtPut.isTgt {target : PySem.Expr} {v : V} (p : TgtPut names target v vals vals') : isTgt target = true := by cases p <;> rfl

theorem ev1_For {target iter : PySem.Expr} {body : List Stmt} {pos : Pos} {Q : Fl → Vals → List O → Prop} (k : ItK) (N : Nat) (Inv : Nat → Vals → List O → Prop) (hf : ∀ env x, foldedSetIterable iter env x = pure x)
    (h : EvE prog w B names d iter vals H fun v H₁ => IterOf v k ∧ Inv 0 vals H₁)
    (lv : ∀ i vals H, Inv i vals H → Live k H ∧ i ≤ N)
    (done : ∀ i vals H, Inv i vals H → itemAt k H i = none → Q .next vals H)
    (turn : ∀ i vals H v, Inv i vals H → itemAt k H i = some v → ∃ vals', TgtPut names target v vals vals' ∧ EvS prog w B names d body vals' H fun f vals'' H'' => match f with
      | .next | .cont => Inv (i + 1) vals'' H''
      | .brk => Q .next vals'' H''
      | .ret u => Q (.ret u) vals'' H'') : Ev1 prog w B names d (.For target iter body [] pos) vals H Q := by
  constructor
  intro env ρ s sr A E r
  refine wpAny_For (h.go sr r fun v x H₁ ρ₁ s₁ va sr₁ e₁ ⟨ik, hI⟩ => ?_) (hf env)
  refine iter_of (prog := prog) sr₁.hs va ik (lv _ _ _ hI).1 fun it s₂ hs₂ kp hg ho hit hnone => ?_
  have ex₂ : Ext ρ₁ s₁ ρ₁ s₂ := .keeps kp hg ho
  have sr₂ := sr₁.ext ex₂ hs₂
  have n1 : it ∉ ρ₁ := (sr₁.hs.fresh hnone).1
  have n2 : B.get? it = none := (sr₁.hs.fresh hnone).2
  have n0 : s.heap.get? it = none := fresh_back e₁.pre' e₁.keep e₁.live hnone
  have n3 : it ≠ env.locals := fun q => by obtain ⟨o, _, _, e, _⟩ := sr.fr.there; rw [← q, n0] at e; cases e
  have n4 : ∀ (y : Str) (c : Addr), env.cells.lookup y = some c → it ≠ c := fun y c hc q => by obtain ⟨o, e⟩ := sr.fr.cthere y c hc; rw [← q, n0] at e; cases e
  refine codeAny_forLoop_any (fun n s' => ∃ i vals' H' ρ', n = N - i ∧ Inv i vals' H' ∧ SR w.params B env names vals' ρ' H' s' ∧ ExtF env ρ s ρ' s' ∧ ItAt ρ' s'.heap it k i ∧ it ∉ ρ') ?_ N ⟨0, vals, H₁, ρ₁, by simp, hI, sr₂, (e₁.trans ex₂).toF, hit, n1⟩
  rintro n s' ⟨i, vals', H', ρ', rfl, hI', sr', e', hit', n1'⟩
  refine next_it (prog := prog) r.hand sr'.hs hit' n1' n2 (lv _ _ _ hI').1 (fun v hv x s₃ vx hs₃ hit₃ m => ?_) fun hn s₃ hs₃ m => ?_
  · obtain ⟨vals₃, tp, hb⟩ := turn i vals' H' v hI' hv
    have sr₃ := sr'.moved m n1' n2 n3 n4
    have e₃ := e'.moved m n0
    refine letgo_it tp.isTgt hit₃ (assign_tgt r.hand tp sr₃ vx fun s₄ sr₄ e₄ => ?_)
    have hit₄ := hit₃.keep (ρ' := ρ') ⟨[], by simp⟩ e₄.tup fun o ho => e₄.keep _ _ ho n1' n3 n4
    have e₄' := e₃.trans e₄
    refine wpAny_mono (WS.go' hb env ρ' s₄ sr₄ A _ r) (fun fl s₅ ⟨f, v2, H2, ρ2, a2, b2, c2, q2⟩ => ?_) fun _ _ e => e
    have ee := e₄'.trans c2
    have it5 : ItAt ρ2 s₅.heap it k (i + 1) ∧ it ∉ ρ2 := by
      obtain ⟨oi, hoi, _⟩ := hit₄.there
      exact ⟨hit₄.keep c2.pre' c2.tup fun o ho => c2.keep _ _ ho n1' n3 n4, c2.notin hoi n1'⟩
    cases a2 with
    | next => exact ⟨N - (i + 1), by have := (lv _ _ _ q2).2; walk_at "om", i + 1, v2, H2, ρ2, rfl, q2, b2, ee, it5.1, it5.2⟩
    | cont => exact ⟨N - (i + 1), by have := (lv _ _ _ q2).2; walk_at "om", i + 1, v2, H2, ρ2, rfl, q2, b2, ee, it5.1, it5.2⟩
    | brk => exact ⟨_, v2, H2, ρ2, .next, b2, ee, q2⟩
    | ret hv => exact ⟨_, v2, H2, ρ2, .ret hv, b2, ee, q2⟩
  · exact wpAny_execs_nil ⟨_, vals', H', ρ', .next, sr'.moved m n1' n2 n3 n4, e'.moved m n0, done _ _ _ hI' hn⟩
end
/-- the names of a comprehension's own scope, as they stand in its frame -/
inductive Relab (names : Names) : Names → Names → Prop
  | nil : Relab names [] []
  | same {x : Str} {k : NameKind} {ns ns' : Names} : (k = .local ∨ k = .globalImplicit) → Relab names ns ns' → Relab names ((x, k) :: ns) ((x, k) :: ns')
  | cell {x : Str} {ns ns' : Names} : Has names x .cell → Relab names ns ns' → Relab names ((x, .free) :: ns) ((x, .cell) :: ns')
inductive CompV (names : Names) (vals : Vals) : Names → Vals → Prop
  | nil : CompV names vals [] []
  | take {x : Str} {v : V} {ns : Names} {vs : Vals} : Look names vals x .cell v → CompV names vals ns vs → CompV names vals ((x, .cell) :: ns) (some v :: vs)
  | skip {p : Str × NameKind} {ns : Names} {vs : Vals} : CompV names vals ns vs → CompV names vals (p :: ns) (none :: vs)
/-- a name that stands bare gets its first value -/
inductive PutN : Names → Vals → Str → V → Vals → Prop
  | here {x : Str} {ns : Names} {v : V} {vs : Vals} : PutN ((x, .local) :: ns) (none :: vs) x v (some v :: vs)
  | there {n : Str × NameKind} {o : Option V} {ns : Names} {vs vs' : Vals} {x : Str} {v : V} : PutN ns vs x v vs' → PutN (n :: ns) (o :: vs) x v (o :: vs')
inductive PutNs (names : Names) : Vals → List (Str × V) → Vals → Prop
  | nil {vs : Vals} : PutNs names vs [] vs
  | cons {vs vs₁ vs₂ : Vals} {x : Str} {v : V} {r : List (Str × V)} : PutN names vs x v vs₁ → PutNs names vs₁ r vs₂ → PutNs names vs ((x, v) :: r) vs₂
inductive TgtN (names : Names) : PySem.Expr → V → Vals → Vals → Prop
  | name {x : Str} {pos : Pos} {v : V} {vals vals' : Vals} : PutN names vals x v vals' → TgtN names (.Name x pos) v vals vals'
  | tup {xs : List (Str × Pos)} {kk : Nat} {pos : Pos} {vs : List V} {vals vals' : Vals} : xs.length = vs.length → PutNs names vals ((xs.map (·.1)).zip vs) vals' → TgtN names (.Tuple (nameExprs xs) kk pos) (.tup vs) vals vals'
theorem TgtN.isTgt {names : Names} {target : PySem.Expr} {v : V} {vals vals' : Vals} (p : TgtN names target v vals vals') : isTgt target = true := by cases p <;> rfl
noncomputable def Less (a b : Vals) : Prop := a.length = b.length ∧ ∀ (i : Nat) (v : V), a[i]? = some (some v) → b[i]? = some (some v)
theorem Less.refl (a : Vals) : Less a a := ⟨rfl, fun _ _ h => h⟩
theorem Less.trans {a b c : Vals} (x : Less a b) (y : Less b c) : Less a c := ⟨x.1.trans y.1, fun i v h => y.2 i v (x.2 i v h)⟩
theorem PutN.less {names : Names} {vals vals' : Vals} {x : Str} {v : V} (p : PutN names vals x v vals') : Less vals vals' := by
  induction p with
  | here => exact ⟨rfl, fun i v h => by cases i with
    | zero => simp at h
    | succ i => simpa using h⟩
  | there _ ih => exact ⟨by rw [List.length_cons, List.length_cons, ih.1], fun i v h => by cases i with
    | zero => simpa using h
    | succ i => simp only [List.getElem?_cons_succ] at h ⊢; exact ih.2 i v h⟩
theorem PutN.put {names : Names} {vals vals' : Vals} {x : Str} {v : V} (p : PutN names vals x v vals') : Put names vals x .local v vals' := by
  induction p with
  | here => exact .here
  | there _ ih => exact .there ih
theorem PutNs.less {names : Names} {vals vals' : Vals} {l : List (Str × V)} (p : PutNs names vals l vals') : Less vals vals' := by
  induction p with
  | nil => exact .refl _
  | cons a _ ih => exact a.less.trans ih
theorem TgtN.less {names : Names} {target : PySem.Expr} {v : V} {vals vals' : Vals} (p : TgtN names target v vals vals') : Less vals vals' := by
  cases p with
  | name p => exact p.less
  | tup _ p => exact p.less

theorem Relab.kinds {names : Names} {ns ns' : Names} (r : Relab names ns ns') : (∀ y ∈ ns, y.2 ≠ .cell) ∧ (∀ y ∈ ns, y.2 = .free → Has names y.1 .cell) ∧ ns.map (·.1) = ns'.map (·.1) ∧ (∀ y ∈ ns', y.2 = .cell → (y.1, NameKind.free) ∈ ns) ∧ (∀ y ∈ ns', y.2 ≠ .free) := by
  induction r with
  | nil => simp
  | same hk r ih =>
    obtain ⟨a, b, c, d, e⟩ := ih
    refine ⟨fun y hy => ?_, fun y hy => ?_, by simp [c], fun y hy => ?_, fun y hy => ?_⟩ <;> rcases List.mem_cons.mp hy with rfl | hy
    · rcases hk with rfl | rfl <;> simp
    · exact a y hy
    · rcases hk with rfl | rfl <;> simp
    · exact b y hy
    · rcases hk with rfl | rfl <;> simp
    · exact fun h => .tail _ (d y hy h)
    · rcases hk with rfl | rfl <;> simp
    · exact e y hy
  | cell hk r ih =>
    obtain ⟨a, b, c, d, e⟩ := ih
    refine ⟨fun y hy => ?_, fun y hy => ?_, by simp [c], fun y hy => ?_, fun y hy => ?_⟩ <;> rcases List.mem_cons.mp hy with rfl | hy
    · simp
    · exact a y hy
    · exact fun _ => hk
    · exact b y hy
    · exact fun _ => .head _
    · exact fun h => .tail _ (d y hy h)
    · simp
    · exact e y hy
theorem Has.look {names : Names} (hn : (names.map (·.1)).Nodup) {x : Str} {k : NameKind} (h : Has names x k) : names.lookup x = some k := let ⟨_, e⟩ := h.get; lookup_of_get hn e
theorem relab_eq {names : Names} {env : Env} (ok : EnvOk env names) {ns ns' : Names} (r : Relab names ns ns') :
    (ns.map fun (n, k) => if (k == NameKind.free && env.scope.kind == .function && env.kindOf n == some .cell) then (n, NameKind.cell) else (n, k)) = ns' := by
  induction r with
  | nil => rfl
  | same hk r ih =>
    rw [List.map_cons, ih]
    rcases hk with rfl | rfl <;> rfl
  | @cell x _ _ hk r ih =>
    rw [List.map_cons, ih]
    have : env.kindOf x = some .cell := by show env.scope.names.lookup _ = _; rw [ok.nm]; exact hk.look ok.nod
    simp only [this, ok.kind]
    rfl

theorem closure_ok {names : Names} {env : Env} (hc : ∀ (x : Str), Has names x .cell → ∃ c, env.cells.lookup x = some c) : ∀ (ns : Names) (acc : List (Str × Addr)), (∀ y ∈ ns, y.2 = .free → Has names y.1 .cell) →
    ∃ l : List (Str × Addr), (forIn ns acc fun x cs => do
      let (name, kind) := x
      if kind == .free then do
        let a ← cellOf env name
        pure (ForInStep.yield ((name, a) :: cs))
      else pure (ForInStep.yield cs) : Sem (List (Str × Addr))) = pure (l.reverse ++ acc) ∧ l.map (·.1) = (ns.filter fun y => y.2 == .free).map (·.1) ∧ ∀ p ∈ l, env.cells.lookup p.1 = some p.2
  | [], acc, _ => ⟨[], rfl, rfl, fun p hp => nomatch hp⟩
  | (x, k) :: ns, acc, h => by
    by_cases hk : k = .free
    · subst hk
      obtain ⟨c, hx⟩ := hc x (h _ (.head _) rfl)
      obtain ⟨l, e1, e2, e3⟩ := closure_ok hc ns ((x, c) :: acc) fun y hy => h y (.tail _ hy)
      refine ⟨(x, c) :: l, ?_, by simp [e2], fun p hp => ?_⟩
      · rw [List.forIn_cons]
        have hco : cellOf env x = pure c := by unfold cellOf; rw [hx]
        dsimp only
        rw [hco, if_pos (by rfl), pure_bind, pure_bind]
        dsimp only
        exact e1.trans (by simp)
      · rcases List.mem_cons.mp hp with rfl | hp
        · exact hx
        · exact e3 p hp
    · obtain ⟨l, e1, e2, e3⟩ := closure_ok hc ns acc fun y hy => h y (.tail _ hy)
      refine ⟨l, ?_, ?_, e3⟩
      · rw [List.forIn_cons]
        have : (k == NameKind.free) = false := beq_eq_false_iff_ne.mpr hk
        simp only [this, Bool.false_eq_true, if_false, pure_bind]
        exact e1
      · rw [e2, List.filter_cons]
        have : (k == NameKind.free) = false := beq_eq_false_iff_ne.mpr hk
        simp [this]
theorem closure_for {names : Names} {env : Env} {scope : Scope} (hc : ∀ (x : Str), Has names x .cell → ∃ c, env.cells.lookup x = some c) (h : ∀ y ∈ scope.names, y.2 = .free → Has names y.1 .cell) :
    ∃ l : List (Str × Addr), closureFor scope env = pure l ∧ l.map (·.1) = ((scope.names.filter fun y => y.2 == .free).map (·.1)).reverse ∧ ∀ p ∈ l, env.cells.lookup p.1 = some p.2 := by
  obtain ⟨l, e1, e2, e3⟩ := closure_ok hc scope.names [] h
  refine ⟨l.reverse, ?_, by rw [List.map_reverse, e2], fun p hp => e3 p (List.mem_reverse.mp hp)⟩
  unfold closureFor
  rw [show l.reverse = l.reverse ++ [] by simp]
  simpa using e1
theorem lookup_of_mem {l : List (Str × Addr)} (hn : (l.map (·.1)).Nodup) {x : Str} {c : Addr} (h : (x, c) ∈ l) : l.lookup x = some c := by
  induction l with
  | nil => cases h
  | cons p r ih =>
    obtain ⟨y, c'⟩ := p
    rw [List.map_cons, List.nodup_cons] at hn
    rcases List.mem_cons.mp h with e | h
    · cases e; rw [List.lookup_cons]; simp
    · have : (x == y) = false := beq_eq_false_iff_ne.mpr fun q => hn.1 (List.mem_map.mpr ⟨(x, c), h, q⟩)
      rw [List.lookup_cons, this]; exact ih hn.2 h

section
variable {prog : Program} {w : World} {B : Heap} {A : Around} {E : Value → Shared → Prop} {names : Names} {vals vals' : Vals} {env : Env} {ρ : List Addr} {H : List O} {s : Shared} {it : Addr} {k : ItK} {i d : Nat}

theorem SR.less (x : SR w.params B env names vals ρ H s) (l : Less vals' vals) : SR w.params B env names vals' ρ H s :=
  ⟨x.ok, x.hs, ⟨l.1.trans x.fr.len, let ⟨m, a, b⟩ := x.fr.ns; ⟨m, a, fun i y v h1 h2 => b i y v h1 (l.2 i v h2)⟩, fun i y k v h1 h2 h3 => x.fr.cl i y k v h1 h2 (l.2 i v h3), x.fr.cany, x.fr.capart, x.fr.sepL, x.fr.sepC, x.fr.cthere, x.fr.above⟩⟩

/-- a local name is bound: nothing but the frame's dict changes -/
theorem store_loc {x : Str} {v : V} {a : Value} {Q : Unit → Shared → Prop} (sr : SR w.params B env names vals ρ H s) (p : Put names vals x .local v vals') (hv : VR ρ s.heap v a)
    (q : ∀ s', SR w.params B env names vals' ρ H s' → Moved env.locals s s' → Q () s') : wpAny (model prog w) A (storeName env x a) Q E s := by
  have hp : ∃ t, ρ = ρ ++ t := ⟨[], by simp⟩
  obtain ⟨i, hi, hl, rfl⟩ := p.get
  obtain ⟨m, hm, hmm⟩ := sr.fr.ns
  refine wpAny_storeName_local (sr.ok.kindOf hi) hm (fun h' hn hs => ?_) sr.ok.plain
  obtain ⟨o, es, ep, ho, hd, _⟩ := hm
  have tk := sameBut_tup hs ho (not_imm_dict hd)
  refine q { s with heap := h', toks := s.toks + 1 } ⟨sr.ok, sr.hs.aside (s' := { s with heap := h', toks := s.toks + 1 }) (wr := [env.locals]) (fun b ob hb e => (hs.2 b (by simpa using hb)).trans e) (fun b hb => by simp at hb; subst hb; exact ⟨sr.fr.sepL, sr.fr.above⟩) tk,
    FR.vals_local (s' := { s with heap := h', toks := s.toks + 1 }) sr.ok sr.fr hi (hv.mono hp tk) ⟨o, es, ep, ho, hd, ‹_›⟩ hmm hn hs tk⟩ ⟨fun b ob hb e => (hs.2 b hb).trans e, tk, rfl, rfl⟩
theorem Moved.trans {a : Addr} {s s' s'' : Shared} (x : Moved a s s') (y : Moved a s' s'') : Moved a s s'' :=
  ⟨fun b o hb e => y.keep b o hb (x.keep b o hb e), x.tup.trans y.tup, y.gens.trans x.gens, y.os.trans x.os⟩
theorem Moved.refl (a : Addr) (s : Shared) : Moved a s s := ⟨fun _ _ _ e => e, fun _ _ _ e => e, rfl, rfl⟩
theorem assign_locs {xs : List (Str × Pos)} {vs : List V} {as : List Value} {Q : Unit → Shared → Prop} (sr : SR w.params B env names vals ρ H s) (p : PutNs names vals ((xs.map (·.1)).zip vs) vals') (hl : xs.length = vs.length) (hv : VRs ρ s.heap vs as)
    (q : ∀ s', SR w.params B env names vals' ρ H s' → Moved env.locals s s' → Q () s') : wpAny (model prog w) A (assignInOrder (xs.map fun x => assign (.Name x.1 x.2) env) as) Q E s := by
  induction xs generalizing vs as vals s with
  | nil =>
    cases vs with
    | nil => cases hv; cases p; exact wpAny_assignInOrder_none (q s sr (.refl _ _))
    | cons => cases hl
  | cons x xs ih =>
    cases vs with
    | nil => cases hl
    | cons v vs =>
      cases hv with
      | cons hv hr =>
        cases p with
        | cons p1 p2 =>
          refine wpAny_assignInOrder_more (wpAny_assign_Name (store_loc sr p1.put hv fun s₁ sr₁ e₁ => ?_))
          exact ih sr₁ p2 (by simpa using hl) (hr.mono ⟨[], by simp⟩ e₁.tup) fun s' sr' e' => q s' sr' (e₁.trans e')
theorem assign_tgtN {target : PySem.Expr} {v : V} {x : Value} {Q : Unit → Shared → Prop} (hA : A.handled = none) (p : TgtN names target v vals vals') (sr : SR w.params B env names vals ρ H s) (hv : VR ρ s.heap v x)
    (q : ∀ s', SR w.params B env names vals' ρ H s' → Moved env.locals s s' → Q () s') : wpAny (model prog w) A (assign target env x) Q E s := by
  cases p with
  | name p => exact wpAny_assign_Name (store_loc sr p.put hv q)
  | tup hl p =>
    rename_i xs kk pos vs
    obtain ⟨t, items, rfl, ht, hvs⟩ := hv.tup_inv
    have hil := hvs.length
    refine wpAny_assign_Tuple hA (isTuple_of ht) (by rw [assignEach_names]; simp [hil, hl]) (star_names xs env) fun h' x' => ?_
    obtain ⟨hs', ex'⟩ := ext_end sr.hs x'
    rw [assignEach_names, List.map_map]
    refine assign_locs (xs := xs) (sr.ext ex' hs') p hl (ex'.vrs hvs) fun s₂ sr₂ e₂ => q s₂ sr₂ (Moved.trans ⟨fun b o hb e => x' b o (Nat.ne_of_lt (Heap.lt_size e)) e, ex'.tup, rfl, rfl⟩ e₂)

theorem compLoop_tests {elt target iter : PySem.Expr} {ifs : List PySem.Expr} {scope : Scope} {pos : Pos} {it acc : Value} {env : Env} {R : Result → Shared → Prop} (I : Nat → Shared → Prop)
    (turn : ∀ n s, I n s → wpAny (model prog w) A (pyNext it) (fun r s₁ => match r with
      | none => R (.ok .next) s₁
      | some v => wpAny (model prog w) A (letOwnedTupleGo target it v) (fun _ s₁ => wpAny (model prog w) A (assign target env v) (fun _ s₂ =>
          wpAny (model prog w) A (forIn ifs true fun c r => if r = true then do let ok ← isTrue c env (eval c env); pure (ForInStep.yield ok) else pure (ForInStep.yield r)) (fun ok s₃ =>
            if ok = true then wpAny (model prog w) A (eval elt env) (fun x s₄ =>
              wpAny (model prog w) A (call (.builtin "list.append") [acc, x]) (fun _ s₅ => ∃ m, m < n ∧ I m s₅) (notedBy (model prog w) A env fun e s' => R (.error e) s') s₄) (notedBy (model prog w) A env fun e s' => R (.error e) s') s₃
            else ∃ m, m < n ∧ I m s₃) (notedBy (model prog w) A env fun e s' => R (.error e) s') s₂) (notedBy (model prog w) A env fun e s' => R (.error e) s') s₁) (notedBy (model prog w) A env fun e s' => R (.error e) s') s₁) (notedBy (model prog w) A env fun e s' => R (.error e) s') s)
    (n : Nat) (h : I n s) :
    codeAny (model prog w) A (.compLoop (.ListComp elt [⟨target, iter, ifs, 0⟩] scope pos) 0 it acc env) R s := by
  refine codeAny_loop rfl I (fun n s hI => ?_) n h
  show wpAny _ A ((compTurn (.ListComp elt [⟨target, iter, ifs, 0⟩] scope pos) 0 it acc env).onRaise (fun x => do noteFrame x env; theTreesLotGoes x)) _ _ s
  refine wpAny_noted ?_
  rw [compTurn_list]
  refine wpAny_bind (wpAny_standAt (wpAny_bind (wpAny_mono (turn n s hI) (fun r s₁ h₁ => ?_) fun _ _ h' => h')))
  cases r with
  | none => exact wpAny_pure h₁
  | some v =>
    refine wpAny_bind (wpAny_mono h₁ (fun _ s₁' h₁ => ?_) fun _ _ h' => h')
    refine wpAny_bind (wpAny_mono h₁ (fun _ s₂ h₂ => wpAny_bind (wpAny_mono h₂ (fun ok s₃ h₃ => ?_) fun _ _ h' => h')) fun _ _ h' => h')
    cases ok with
    | false => exact wpAny_pure ⟨rfl, h₃⟩
    | true =>
      exact wpAny_bind (wpAny_bind (wpAny_mono h₃ (fun x s₄ h₄ => wpAny_bind (wpAny_mono h₄ (fun _ s₅ h₅ => wpAny_pure (wpAny_pure ⟨rfl, h₅⟩)) fun _ _ h' => h')) fun _ _ h' => h'))
end
noncomputable def EvIfs (prog : Program) (w : World) (B : Heap) (names : Names) (d : Nat) : List PySem.Expr → Vals → List O → (Bool → List O → Prop) → Prop
  | [], _, H, Q => Q true H
  | [c], vals, H, Q => EvT prog w B names d c vals H Q
  | _, _, _, _ => False

section
variable {prog : Program} {w : World} {B : Heap} {A : Around} {E : Value → Shared → Prop} {names names' : Names} {vals vals' : Vals} {env : Env} {ρ : List Addr} {H : List O} {s : Shared} {k : ItK} {d a N : Nat}

theorem ifs_go {ifs : List PySem.Expr} {Q : Bool → List O → Prop} {R : Bool → Shared → Prop} (r : Room A d) (sr : SR w.params B env names vals ρ H s) (h : EvIfs prog w B names d ifs vals H Q)
    (q : ∀ b H₁ ρ₁ s₁, SR w.params B env names vals ρ₁ H₁ s₁ → Ext ρ s ρ₁ s₁ → Q b H₁ → R b s₁) :
    wpAny (model prog w) A (forIn ifs true fun c r => if r = true then do let ok ← isTrue c env (eval c env); pure (ForInStep.yield ok) else pure (ForInStep.yield r)) R E s := by
  match ifs, h with
  | [], h => exact wpAny_tests_nil (q true H ρ s sr (.refl _ _) h)
  | [c], h => exact wpAny_tests_one (EvT.go h sr r fun b H₁ ρ₁ s₁ sr₁ e₁ h₁ => q b H₁ ρ₁ s₁ sr₁ e₁ h₁)

theorem comp_sr {scope : Scope} {cl : List (Str × Addr)} {C : Addr} {h' : Heap} {tk : Nat} {ρ' : List Addr} {H' : List O} (sr : SR w.params B env names vals ρ H s) (hkind : scope.kind = .function) (rl : Relab names scope.names names') (hnod : (scope.names.map (·.1)).Nodup)
    (hdbg : ∀ x ∈ names', (x.1 == ("__debug__" : Str)) = false ∧ (x.1 == ("__classdict__" : Str)) = false) (cv : CompV names vals names' vals') (hcl1 : cl.map (·.1) = ((scope.names.filter fun y => y.2 == .free).map (·.1)).reverse) (hcl : ∀ p ∈ cl, env.cells.lookup p.1 = some p.2)
    (ex : Ext ρ s ρ' { s with heap := h', toks := tk }) (hs' : HS w.params B ρ' H' { s with heap := h', toks := tk }) (hC : h'.Ns C fun _ => none) (hC0 : s.heap.get? C = none) (hC1 : C ∉ ρ') (hC2 : B.get? C = none) :
    SR w.params B (compEnvC scope cl C env) names' vals' ρ' H' { s with heap := h', toks := tk } := by
  obtain ⟨k1, k2, k3, k4, k5⟩ := rl.kinds
  have hcn : (cl.map (·.1)).Nodup := by
    rw [hcl1]
    unfold List.Nodup
    rw [List.pairwise_reverse]
    exact (List.Sublist.nodup (List.Sublist.map _ List.filter_sublist) hnod).imp fun h => h.symm
  have fr' := sr.fr.ext ex
  have ok := sr.ok
  have up : ∀ {x : Str} {c : Addr}, cl.lookup x = some c → env.cells.lookup x = some c := fun e => hcl _ (mem_of_lookup e)
  have down : ∀ {x : Str}, (x, NameKind.cell) ∈ names' → ∃ c, cl.lookup x = some c := fun {x} hm => by
    have hf := k4 _ hm rfl
    have : x ∈ cl.map (·.1) := by
      rw [hcl1, List.mem_reverse]
      exact List.mem_map.mpr ⟨(x, .free), List.mem_filter.mpr ⟨hf, rfl⟩, rfl⟩
    obtain ⟨p, hp, rfl⟩ := List.mem_map.mp this
    exact ⟨p.2, lookup_of_mem hcn hp⟩
  have clen : vals'.length = names'.length := by
    clear hdbg k4 k5 down ok fr' rl k1 k2 k3
    induction cv with
    | nil => rfl
    | take _ _ ih => simp [ih]
    | skip _ ih => simp [ih]
  have cval : ∀ (i : Nat) (x : Str) (k : NameKind) (v : V), names'[i]? = some (x, k) → vals'[i]? = some (some v) → k = .cell ∧ Look names vals x .cell v := by
    clear hdbg k4 k5 down ok fr' rl k1 k2 k3 clen
    induction cv with
    | nil => intro i x k v h; simp at h
    | take hl _ ih =>
      intro i x k v h1 h2
      cases i with
      | zero =>
        simp only [List.getElem?_cons_zero, Option.some.injEq, Prod.mk.injEq] at h1 h2
        obtain ⟨rfl, rfl⟩ := h1
        subst h2
        exact ⟨rfl, hl⟩
      | succ i => exact ih i x k v (by simpa using h1) (by simpa using h2)
    | skip _ ih =>
      intro i x k v h1 h2
      cases i with
      | zero => simp at h2
      | succ i => exact ih i x k v (by simpa using h1) (by simpa using h2)
  have cellNe : ∀ (x : Str) (c : Addr), env.cells.lookup x = some c → c ≠ C := fun x c e q => by obtain ⟨o, ho⟩ := sr.fr.cthere x c e; rw [q, hC0] at ho; cases ho
  refine ⟨⟨relab_eq ok rl, ?_, ok.glob, ok.bi, by rw [← k3]; exact hnod, hdbg⟩, hs', clen, ⟨_, hC, fun i y v h1 h2 => ?_⟩, fun i y k v h1 h2 h3 => ?_, fun i y h1 => ?_, ?_, hC1, fun y c e => ⟨(fr'.sepC y c (up e)).1, cellNe y c (up e)⟩, fun y c e => fr'.cthere y c (up e), hC2⟩
  · show (relabel scope env).kind = _; exact hkind
  · exact absurd (cval i y _ v h1 h2).1 (by decide)
  · obtain ⟨rfl, hl⟩ := cval i y k v h1 h3
    obtain ⟨j, e1, e2⟩ := hl.get
    obtain ⟨c, x, q1, q2, q3⟩ := fr'.cl j y .cell v e1 (.inl rfl) e2
    obtain ⟨c', hc'⟩ := down (List.mem_of_getElem? h1)
    have := up hc'
    rw [q1] at this; cases this
    exact ⟨_, x, hc', q2, q3⟩
  · obtain ⟨c', hc'⟩ := down (List.mem_of_getElem? h1)
    have hh : Has names y .cell := k2 _ (k4 _ (List.mem_of_getElem? h1) rfl) rfl
    obtain ⟨j, hj⟩ := hh.get
    obtain ⟨c, v₀, q1, q2, q3⟩ := fr'.cany j y hj
    have := up hc'
    rw [q1] at this; cases this
    exact ⟨_, v₀, hc', q2, q3⟩
  · show cl.Pairwise fun x y => x.2 ≠ y.2
    have : ∀ l : List (Str × Addr), (∀ p ∈ l, env.cells.lookup p.1 = some p.2) → (l.map (·.1)).Nodup → l.Pairwise fun x y => x.2 ≠ y.2 := by
      intro l
      induction l with
      | nil => intro _ _; exact .nil
      | cons p r ih =>
        intro h1 h2
        rw [List.map_cons, List.nodup_cons] at h2
        refine .cons (fun q hq e => ?_) (ih (fun q hq => h1 q (.tail _ hq)) h2.2)
        have a1 := mem_of_lookup (h1 p (.head _))
        have a2 := mem_of_lookup (h1 q (.tail _ hq))
        rw [← e] at a2
        have := name_of_addr sr.fr.capart a1 a2
        exact h2.1 (List.mem_map.mpr ⟨q, hq, this.symm⟩)
    exact this cl hcl hcn

theorem self_iter {it : Addr} {i : Nat} {Q : Value → Shared → Prop} (hit : ItAt ρ s.heap it k i) (q : Q (.ref it) s) : wpAny (model prog w) A (pyIter (.ref it)) Q E s := by
  cases k with
  | list n => obtain ⟨_, _, h⟩ := hit; exact wpAny_pyIter_listiter h q
  | tup vs => obtain ⟨_, _, _, _, h⟩ := hit; exact wpAny_pyIter_tupleiter h q
  | rng n => rcases hit with h | ⟨_, _, h⟩ <;> exact wpAny_pyIter_rangeiter h q

theorem comp_core {elt target iter : PySem.Expr} {ifs : List PySem.Expr} {scope : Scope} {pos pos₂ : Pos} {use : Option (Value → Sem Unit)} {Qc : Value → Shared → Prop} {Inv : Nat → List V → List O → Prop} {Post : List O → Prop}
    (r : Room A d) (sr : SR w.params B env names vals ρ H s) (hf : ∀ env x, foldedSetIterable iter env x = pure x) (hkind : scope.kind = .function) (rl : Relab names scope.names names') (hnod : (scope.names.map (·.1)).Nodup)
    (hdbg : ∀ x ∈ names', (x.1 == ("__debug__" : Str)) = false ∧ (x.1 == ("__classdict__" : Str)) = false) (cv : CompV names vals names' vals')
    (h : EvE prog w B names d iter vals H fun v H₁ => IterOf v k ∧ H₁.length = a ∧ Live k H₁ ∧ Inv 0 [] (H₁ ++ [.list []]))
    (lv : ∀ i ys H, Inv i ys H → Live k H ∧ i ≤ N ∧ H[a]? = some (.list ys) ∧ ys.length ≤ 1000000)
    (done : ∀ i ys H, Inv i ys H → itemAt k H i = none → Post H)
    (turn : ∀ i ys H v, Inv i ys H → itemAt k H i = some v → ∃ vals'', TgtN names' target v vals' vals'' ∧ EvIfs prog w B names' d ifs vals'' H fun ok H' =>
      (ok = true → EvE prog w B names' d elt vals'' H' fun y H'' => H''[a]? = some (.list ys) ∧ Inv (i + 1) (ys ++ [y]) (H''.set a (.list (ys ++ [y])))) ∧ (ok = false → Inv (i + 1) ys H'))
    (fin : ∀ D C ρ' H' s', Post H' → HS w.params B ρ' H' s' → Ext ρ s ρ' s' → ρ'[a]? = some D → s.heap.get? C = none → C ∉ ρ' → B.get? C = none → (∃ m, s'.heap.Ns C m) → compPost (model prog w) A E use Qc (.ref D) C (.ok .next) s') :
    wpAny (model prog w) A (comprehension (.ListComp elt [⟨target, iter, ifs, 0⟩] scope pos) scope env pos₂ (newList []) false (eval iter env) use) Qc E s := by
  obtain ⟨k1, k2, k3, k4, k5⟩ := rl.kinds
  have cellsThere : ∀ (x : Str), Has names x .cell → ∃ c, env.cells.lookup x = some c := fun x hx => by
    obtain ⟨j, hj⟩ := hx.get
    obtain ⟨c, _, q, _⟩ := sr.fr.cany j x hj
    exact ⟨c, q⟩
  obtain ⟨cl, hclos, hcl1, hcl⟩ := closure_for (scope := scope) cellsThere k2
  refine wpAny_comprehension_free (g := ⟨target, iter, ifs, 0⟩) (gs := []) rfl (hf env) hclos hkind (fun x hx hl => lookup_of_get hnod (List.mem_iff_getElem?.mp hx).choose_spec |>.trans (by rw [hl])) ?_
  refine h.go sr r fun v x H₁ ρ₁ s₁ va sr₁ e₁ ⟨ik, ha, lk, hI⟩ => ?_
  refine iter_of (prog := prog) sr₁.hs va ik lk fun it s₂ hs₂ kp hg ho hit hnone => ?_
  have ex₂ : Ext ρ₁ s₁ ρ₁ s₂ := .keeps kp hg ho
  have sr₂ := sr₁.ext ex₂ hs₂
  have n1 : it ∉ ρ₁ := (sr₁.hs.fresh hnone).1
  have n2 : B.get? it = none := (sr₁.hs.fresh hnone).2
  have n0 : s.heap.get? it = none := fresh_back e₁.pre' e₁.keep e₁.live hnone
  obtain ⟨oit, hoit, _⟩ := hit.there
  refine wpAny_newObj_type ?_
  obtain ⟨z1, z2, z3⟩ := new_list (ep := 0) (vs := []) (as := []) sr₂.hs .nil
  have sr₃ := sr₂.ext z2 z1
  refine wpAny_newFunctionEnv k1 (by intro y hy; simp at hy) (fun h₁ hns₁ hsb₁ => ?_) hkind
  dsimp only at hns₁ hsb₁ ⊢
  have hD0 : s₂.heap.get? s₂.heap.objs.size = none := get_end _
  -- the new heap
  generalize hH2 : s₂.heap.push { cls := .type "list", dict := none, data := .seq ([] : List Value).toArray } = H2 at hns₁ hsb₁ ⊢
  have hH2' : s₂.heap.push (listObj [] 0) = H2 := hH2
  rw [hH2'] at z1 z2 sr₃
  have hCsz : H2.objs.size = s₂.heap.objs.size + 1 := by rw [← hH2, Heap.size_push]
  have hCnone : H2.get? H2.objs.size = none := get_end _
  have keep₁ : ∀ b o, H2.get? b = some o → h₁.get? b = some o := fun b o e => hsb₁.extBut b o (Nat.ne_of_lt (Heap.lt_size e)) (Heap.get?_push_of_some _ e)
  have ex₄ : Ext (ρ₁ ++ [s₂.heap.objs.size]) { s₂ with heap := H2 } (ρ₁ ++ [s₂.heap.objs.size]) { s₂ with heap := h₁, toks := s₂.toks + ([] : List (Str × Value)).length } := .keeps keep₁ rfl rfl
  have hs₄ := z1.keeps (s' := { s₂ with heap := h₁, toks := s₂.toks + ([] : List (Str × Value)).length }) keep₁
  have exs : Ext ρ s (ρ₁ ++ [s₂.heap.objs.size]) { s₂ with heap := h₁, toks := s₂.toks + ([] : List (Str × Value)).length } := ((e₁.trans ex₂).trans z2).trans ex₄
  have hCs₂ : s₂.heap.get? H2.objs.size = none := by
    cases e : s₂.heap.get? H2.objs.size with
    | none => rfl
    | some o => exact absurd (Nat.lt_of_succ_lt (hCsz ▸ Heap.lt_size e)) (Nat.lt_irrefl _)
  have hCs₁ : s₁.heap.get? H2.objs.size = none := by
    cases e : s₁.heap.get? H2.objs.size with
    | none => rfl
    | some o => have := kp _ _ e; rw [hCs₂] at this; cases this
  have hC0 : s.heap.get? H2.objs.size = none := fresh_back e₁.pre' e₁.keep e₁.live hCs₁
  have hCρ : H2.objs.size ∉ ρ₁ ++ [s₂.heap.objs.size] := (z1.fresh (a := H2.objs.size) hCnone).1
  have hCB : B.get? H2.objs.size = none := (z1.fresh (a := H2.objs.size) hCnone).2
  have srC : SR w.params B (compEnvC scope cl H2.objs.size env) names' vals' (ρ₁ ++ [s₂.heap.objs.size]) (H₁ ++ [.list []]) { s₂ with heap := h₁, toks := s₂.toks + ([] : List (Str × Value)).length } :=
    comp_sr (s := s₂) (h' := h₁) sr₂ hkind rl hnod hdbg cv hcl1 hcl (z2.trans ex₄) hs₄ (by simpa using hns₁) hCs₂ hCρ hCB
  have hitne : it ≠ H2.objs.size := fun q => by rw [q, hCs₂] at hoit; cases hoit
  have itneD : it ≠ s₂.heap.objs.size := fun q => by rw [q, hD0] at hoit; cases hoit
  have itC : ∀ (y : Str) (c : Addr), cl.lookup y = some c → it ≠ c := fun y c e q => by
    have := hcl _ (mem_of_lookup e)
    obtain ⟨o, ho⟩ := sr.fr.cthere y c this
    rw [← q, n0] at ho; cases ho
  have hnotin : it ∉ ρ₁ ++ [s₂.heap.objs.size] := by simp [n1, itneD]
  have hit₄ : ItAt (ρ₁ ++ [s₂.heap.objs.size]) h₁ it k 0 := hit.keep ⟨_, rfl⟩ (z2.tup.trans ex₄.tup) fun o e => keep₁ _ _ (by rw [← hH2]; exact Heap.get?_push_of_some _ e)
  have cellC : ∀ (y : Str) (c : Addr), cl.lookup y = some c → H2.objs.size ≠ c := fun y c e q => by
    have := hcl _ (mem_of_lookup e)
    obtain ⟨o, ho⟩ := sr.fr.cthere y c this
    rw [← q, hC0] at ho; cases ho
  have ha' : (ρ₁ ++ [s₂.heap.objs.size])[a]? = some s₂.heap.objs.size := ha ▸ z3
  have loop : ∀ s₃ : Shared, s₃ = { s₂ with heap := h₁, toks := s₂.toks + ([] : List (Str × Value)).length } →
      codeAny (model prog w) A (.compLoop (.ListComp elt [⟨target, iter, ifs, 0⟩] scope pos) 0 (.ref it) (.ref s₂.heap.objs.size) (compEnvC scope cl H2.objs.size env))
        (compPost (model prog w) A E use Qc (.ref s₂.heap.objs.size) H2.objs.size) s₃ := by
    rintro s₃ rfl
    refine compLoop_tests (fun n s' => ∃ i ys H' ρ', n = N - i ∧ Inv i ys H' ∧ SR w.params B (compEnvC scope cl H2.objs.size env) names' vals' ρ' H' s' ∧ Ext ρ s ρ' s' ∧ ItAt ρ' s'.heap it k i ∧ it ∉ ρ' ∧ H2.objs.size ∉ ρ' ∧ ρ'[a]? = some s₂.heap.objs.size) ?_ N
      ⟨0, [], _, _, by simp, hI, srC, exs, hit₄, hnotin, hCρ, ha'⟩
    rintro n s' ⟨i, ys, H', ρ', rfl, hI', sr', e', hit', n1', nC', hD'⟩
    obtain ⟨lk', hle, hacc, hlen⟩ := lv _ _ _ hI'
    refine next_it (prog := prog) r.hand sr'.hs hit' n1' n2 lk' (fun v hv x s₃ vx hs₃ hit₃ m => ?_) fun hn s₃ hs₃ m => ?_
    · obtain ⟨vals₃, tp, hb⟩ := turn i ys H' v hI' hv
      have sr₃ := sr'.moved m n1' n2 hitne itC
      have e₃ := e'.moved m n0
      refine letgo_it tp.isTgt hit₃ (assign_tgtN r.hand tp sr₃ vx fun s₄ sr₄ m₄ => ?_)
      have e₄ := e₃.moved m₄ hC0
      have hit₄ := hit₃.keep (ρ' := ρ') ⟨[], by simp⟩ m₄.tup fun o ho => m₄.keep _ _ hitne ho
      refine ifs_go r sr₄ hb fun ok H₅ ρ₅ s₅ sr₅ e₅ h₅ => ?_
      obtain ⟨oi, hoi, _⟩ := hit₄.there
      have hit₅ := hit₄.keep e₅.pre' e₅.tup fun o ho => e₅.keep _ _ ho n1'
      have n5 := e₅.notin hoi n1'
      obtain ⟨oC, esC, epC, hoC, _⟩ := sr₄.fr.there
      have nC5 : H2.objs.size ∉ ρ₅ := e₅.notin hoC nC'
      have hD5 : ρ₅[a]? = some s₂.heap.objs.size := by
        obtain ⟨t, et⟩ := e₅.pre'
        rw [et, List.getElem?_append_left (List.getElem?_eq_some_iff.mp hD').1]; exact hD'
      have es₅ := e₄.trans e₅
      cases ok with
      | false =>
        rw [if_neg (by decide)]
        have q := h₅.2 rfl
        exact ⟨N - (i + 1), by have := (lv _ _ _ q).2.1; walk_at "om", i + 1, ys, H₅, ρ₅, rfl, q, sr₅.less tp.less, es₅, hit₅, n5, nC5, hD5⟩
      | true =>
        rw [if_pos rfl]
        refine (h₅.1 rfl).go sr₅ r fun y xv H₆ ρ₆ s₆ vy sr₆ e₆ ⟨hacc₆, q⟩ => ?_
        obtain ⟨oi5, hoi5, _⟩ := hit₅.there
        have hit₆ := hit₅.keep e₆.pre' e₆.tup fun o ho => e₆.keep _ _ ho n5
        have n6 := e₆.notin hoi5 n5
        obtain ⟨oC5, _, _, hoC5, _⟩ := sr₅.fr.there
        have nC6 : H2.objs.size ∉ ρ₆ := e₆.notin hoC5 nC5
        have hD6 : ρ₆[a]? = some s₂.heap.objs.size := by
          obtain ⟨t, et⟩ := e₆.pre'
          rw [et, List.getElem?_append_left (List.getElem?_eq_some_iff.mp hD5).1]; exact hD5
        obtain ⟨fv, ef, _, hc⟩ := c_append (prog := prog) (w := w) (B := B) (d := d) (H := H₆) (v := y) (Q := fun _ H => H = H₆.set a (.list (ys ++ [y]))) hacc₆ hlen rfl
        cases ef
        refine wpAny_mono (hc ρ₆ s₆ [.ref s₂.heap.objs.size, xv] sr₆.hs (.cons (.ref hD6) (.cons vy .nil)) A _ r) (fun _ s₇ ⟨_, H₇, ρ₇, _, b1, b2, b3⟩ => ?_) fun _ _ e => e
        subst b3
        obtain ⟨oi6, hoi6, _⟩ := hit₆.there
        obtain ⟨oC6, _, _, hoC6, _⟩ := sr₆.fr.there
        have hD7 : ρ₇[a]? = some s₂.heap.objs.size := by
          obtain ⟨t, et⟩ := b2.pre'
          rw [et, List.getElem?_append_left (List.getElem?_eq_some_iff.mp hD6).1]; exact hD6
        exact ⟨N - (i + 1), by have := (lv _ _ _ q).2.1; walk_at "om", i + 1, ys ++ [y], _, ρ₇, rfl, q, (sr₆.ext b2 b1).less tp.less, (es₅.trans e₆).trans b2, hit₆.keep b2.pre' b2.tup fun o ho => b2.keep _ _ ho n6, b2.notin hoi6 n6, b2.notin hoC6 nC6, hD7⟩
    · have srn := sr'.moved m n1' n2 hitne itC
      obtain ⟨mm, hmm, _⟩ := srn.fr.ns
      exact fin _ _ ρ' H' s₃ (done _ _ _ hI' hn) hs₃ (e'.moved m n0) hD' hC0 nC' hCB ⟨mm, hmm⟩
  refine codeAny_compStart_list (loop _ rfl) ?_
  have hitx : ItAt (ρ₁ ++ [s₂.heap.objs.size]) ({ s₂ with heap := h₁, toks := s₂.toks + ([] : List (Str × Value)).length } : Shared).heap it k 0 := hit₄
  exact self_iter hitx (loop _ rfl)
end
section
variable {prog : Program} {w : World} {B : Heap} {A : Around} {E : Value → Shared → Prop} {names names' : Names} {vals vals' : Vals} {env : Env} {ρ : List Addr} {H : List O} {s : Shared} {k : ItK} {d a N : Nat}

theorem drop_comp {C : Addr} {h' : Heap} {m : Str → Option Value} {s₀ : Shared} {ρ₀ : List Addr} (hs : HS w.params B ρ H s) (ex : Ext ρ₀ s₀ ρ s) (hm : s.heap.Ns C m) (hC0 : s₀.heap.get? C = none) (hC1 : C ∉ ρ) (hC2 : B.get? C = none) (hb : Heap.SameBut C s.heap h') :
    HS w.params B ρ H { s with heap := h' } ∧ Ext ρ₀ s₀ ρ { s with heap := h' } ∧ Moved C s { s with heap := h' } := by
  obtain ⟨o, es, ep, ho, hd, _⟩ := hm
  have mv : Moved C s { s with heap := h' } := ⟨fun b ob hne e => (hb.2 b hne).trans e, sameBut_tup hb ho (not_imm_dict hd), rfl, rfl⟩
  exact ⟨hs.moved mv hC1 hC2, ex.moved mv hC0, mv⟩

theorem ev_ListComp {elt target iter : PySem.Expr} {ifs : List PySem.Expr} {scope : Scope} {pos : Pos} {Q : V → List O → Prop} (k : ItK) (a N : Nat) (Inv : Nat → List V → List O → Prop) (hf : ∀ env x, foldedSetIterable iter env x = pure x) (hkind : scope.kind = .function)
    (rl : Relab names scope.names names') (hnod : (scope.names.map (·.1)).Nodup) (hdbg : ∀ x ∈ names', (x.1 == ("__debug__" : Str)) = false ∧ (x.1 == ("__classdict__" : Str)) = false) (cv : CompV names vals names' vals')
    (h : EvE prog w B names d iter vals H fun v H₁ => IterOf v k ∧ H₁.length = a ∧ Live k H₁ ∧ Inv 0 [] (H₁ ++ [.list []]))
    (lv : ∀ i ys H, Inv i ys H → Live k H ∧ i ≤ N ∧ H[a]? = some (.list ys) ∧ ys.length ≤ 1000000)
    (done : ∀ i ys H, Inv i ys H → itemAt k H i = none → Q (.ref a) H)
    (turn : ∀ i ys H v, Inv i ys H → itemAt k H i = some v → ∃ vals'', TgtN names' target v vals' vals'' ∧ EvIfs prog w B names' d ifs vals'' H fun ok H' =>
      (ok = true → EvE prog w B names' d elt vals'' H' fun y H'' => H''[a]? = some (.list ys) ∧ Inv (i + 1) (ys ++ [y]) (H''.set a (.list (ys ++ [y])))) ∧ (ok = false → Inv (i + 1) ys H')) :
    EvE prog w B names d (.ListComp elt [⟨target, iter, ifs, 0⟩] scope pos) vals H Q := by
  constructor
  intro env ρ s sr A E r
  rw [eval_ListComp]
  refine comp_core (use := none) r sr hf hkind rl hnod hdbg cv h lv done turn fun D C ρ' H' s' q hs' ex hD hC0 hC1 hC2 ⟨m, hm⟩ => ⟨m, hm, fun h' hb => ?_⟩
  obtain ⟨z1, z2, _⟩ := drop_comp hs' ex hm hC0 hC1 hC2 hb
  exact ⟨.ref a, H', ρ', .ref hD, z1, z2, q⟩

theorem ev1_AssignComp {y : Str} {py spos : Pos} {elt target iter : PySem.Expr} {ifs : List PySem.Expr} {scope : Scope} {pos : Pos} {Q : Fl → Vals → List O → Prop} (k : ItK) (a N : Nat) (Inv : Nat → List V → List O → Prop) (hf : ∀ env x, foldedSetIterable iter env x = pure x) (hkind : scope.kind = .function)
    (rl : Relab names scope.names names') (hnod : (scope.names.map (·.1)).Nodup) (hdbg : ∀ x ∈ names', (x.1 == ("__debug__" : Str)) = false ∧ (x.1 == ("__classdict__" : Str)) = false) (cv : CompV names vals names' vals')
    (hy : Has names y .local) (hline : (py.line == pos.line) = true) (hno : (scope.names.any fun (n, k) => n == y && (k == .local || k == .cell)) = false)
    (h : EvE prog w B names d iter vals H fun v H₁ => IterOf v k ∧ H₁.length = a ∧ Live k H₁ ∧ Inv 0 [] (H₁ ++ [.list []]))
    (lv : ∀ i ys H, Inv i ys H → Live k H ∧ i ≤ N ∧ H[a]? = some (.list ys) ∧ ys.length ≤ 1000000)
    (done : ∀ i ys H, Inv i ys H → itemAt k H i = none → ∃ vals2, Put names vals y .local (.ref a) vals2 ∧ Q .next vals2 H)
    (turn : ∀ i ys H v, Inv i ys H → itemAt k H i = some v → ∃ vals'', TgtN names' target v vals' vals'' ∧ EvIfs prog w B names' d ifs vals'' H fun ok H' =>
      (ok = true → EvE prog w B names' d elt vals'' H' fun y H'' => H''[a]? = some (.list ys) ∧ Inv (i + 1) (ys ++ [y]) (H''.set a (.list (ys ++ [y])))) ∧ (ok = false → Inv (i + 1) ys H')) :
    Ev1 prog w B names d (.Assign [.Name y py] (.ListComp elt [⟨target, iter, ifs, 0⟩] scope pos) spos) vals H Q := by
  constructor
  intro env ρ s sr A E r
  have hk : env.kindOf y = some .local := let ⟨_, e⟩ := hy.get; sr.ok.kindOf e
  have hsw : swapsWith (.ListComp elt [⟨target, iter, ifs, 0⟩] scope pos) (some (.Name y py)) spos.line env = pure true := by
    show (pure (env.blockKind == .function && env.kindOf y == some .local && py.line == pos.line && !(scope.names.any fun (n, k) => n == y && (k == .local || k == .cell))) : Sem Bool) = _
    rw [sr.ok.block, hk, hline, hno]; rfl
  rw [exec_Assign_Name_used _ _ _ _ hsw]
  refine wpAny_bind (wpAny_standAt (wpAny_bind ?_))
  show wpAny _ A (do let _ ← comprehension (.ListComp elt [⟨target, iter, ifs, 0⟩] scope pos) scope env _ (newList []) false (eval iter env) (some (assign (.Name y py) env))) _ _ s
  refine wpAny_bind (wpAny_mono (comp_core (prog := prog) (Qc := fun _ s' => ∃ f vals' H' ρ', FlR ρ' s'.heap f .next ∧ SR w.params B env names vals' ρ' H' s' ∧ ExtF env ρ s ρ' s' ∧ Q f vals' H') r sr hf hkind rl hnod hdbg cv h lv done turn fun D C ρ' H' s' q hs' ex hD hC0 hC1 hC2 ⟨m, hm⟩ => ?_) (fun _ s' hq => wpAny_pure (wpAny_pure hq)) fun _ _ e => e)
  obtain ⟨vals2, p, q⟩ := q
  have sr' := sr.ext ex hs'
  have hCL : C ≠ env.locals := fun q => by obtain ⟨o, _, _, e, _⟩ := sr.fr.there; rw [← q, hC0] at e; cases e
  have hCc : ∀ (y : Str) (c : Addr), env.cells.lookup y = some c → C ≠ c := fun y c hc q => by obtain ⟨o, e⟩ := sr.fr.cthere y c hc; rw [← q, hC0] at e; cases e
  show wpAny _ A (assign (.Name y py) env (.ref D)) _ _ _
  refine wpAny_assign_Name (store_loc sr' p (.ref hD) fun s₂ sr₂ mv => ?_)
  obtain ⟨o, es, ep, ho, hd, rest⟩ := hm
  have hm2 : s₂.heap.Ns C m := ⟨o, es, ep, mv.keep _ _ hCL ho, hd, rest⟩
  refine ⟨m, hm2, fun h' hb => ?_⟩
  have mC : Moved C s₂ { s₂ with heap := h' } := ⟨fun b ob hne e => (hb.2 b hne).trans e, sameBut_tup hb (mv.keep _ _ hCL ho) (not_imm_dict hd), rfl, rfl⟩
  have xF : ExtF env ρ s ρ' s₂ := by
    have x := ex.toF (env := env)
    refine ⟨x.pre, fun b o e h1 h2 h3 => mv.keep _ _ h2 (x.keep b o e h1 h2 h3), fun b o e => ?_, x.tup.trans mv.tup, mv.gens.trans x.gens, mv.os.trans x.os⟩
    obtain ⟨o', e'⟩ := x.live b o e
    by_cases q : b = env.locals
    · subst q; obtain ⟨ol, _, _, el, _⟩ := sr₂.fr.there; exact ⟨ol, el⟩
    · exact ⟨o', mv.keep _ _ q e'⟩
  exact ⟨.next, vals2, H', ρ', .next, sr₂.moved mC hC1 hC2 hCL hCc, xF.moved mC hC0, q⟩

end
theorem set_ne {H : List O} {i j : Nat} {x o : O} (h : H[j]? = some o) (hij : i ≠ j) : (H.set i x)[j]? = some o := by rw [List.getElem?_set_ne hij]; exact h
theorem set_eq {H : List O} {i : Nat} {x o : O} (h : H[i]? = some o) : (H.set i x)[i]? = some x := by
  rw [List.getElem?_set_self (List.getElem?_eq_some_iff.mp h).1]
theorem app_l {H H' : List O} {i : Nat} {o : O} (h : H[i]? = some o) : (H ++ H')[i]? = some o := by
  rw [List.getElem?_append_left (List.getElem?_eq_some_iff.mp h).1]; exact h
theorem app_r {H : List O} {o : O} : (H ++ [o])[H.length]? = some o := by
  rw [List.getElem?_append_right (Nat.le_refl _), Nat.sub_self]; rfl
section
variable {prog : Program} {w : World} {B : Heap} {names : Names} {vals : Vals} {d : Nat} {H : List O} {K : Frag} {Q : V → List O → Prop} {fs : List (Str × V)}
theorem ev_At {o : PySem.Expr} {pos : Pos} {C : Addr} {n dn : Nat} {attr : Str} {u : V} (X : K.In B) (hb : plainBase o = true) (cl : ClsIs K C) (h4 : H[n]? = some (.inst C dn)) (h3 : H[dn]? = some (.ns fs)) (a : AttrIs K C attr) (l : FLook fs attr u) (p : plainV u = true)
    (h : EvE prog w B names d o vals H fun ov H₁ => ov = .ref n ∧ H₁ = H ∧ Q u H) : EvE prog w B names d (.Attribute o attr pos) vals H Q :=
  ev_Attr X hb (h.mono fun ov H₁ ⟨e1, e2, q⟩ => by subst e1 e2; exact ⟨n, C, dn, fs, u, rfl, cl, h4, h3, a, l, p, q⟩)
theorem evEs_mono {es : List PySem.Expr} {Q Q' : List V → List O → Prop} (h : EvEs prog w B names d es vals H Q) (k : ∀ vs H, Q vs H → Q' vs H) : EvEs prog w B names d es vals H Q' := by
  induction es generalizing H Q Q' with
  | nil => exact k _ _ h
  | cons e r ih => exact EvE.mono h fun v H₁ h₁ => ih h₁ fun vs H₂ q => k _ _ q
/-- a method of an own object is called -/
theorem ev_Do {o : PySem.Expr} {name : Str} {apos pos : Pos} {args : List PySem.Expr} {n dn : Nat} {C f : Addr} {ps : List Str} {dv : List V} {names' : Names} {body : List Stmt} {d' : Nat} (X : K.In B) (hb : plainBase o = true) (hp : args.all plainE = true) (hl : args.length < 29) (hline : (apos.endLine == pos.line) = true)
    (cl : ClsIs K C) (h4 : H[n]? = some (.inst C dn)) (h3 : H[dn]? = some (.ns fs)) (m : MethIs K C name f) (na : name ∉ fs.map (·.1)) (F : FnIs B f ps dv names' body) (hd : d' ≤ d)
    (h : EvE prog w B names d o vals H fun ov H₁ => ov = .ref n ∧ H₁ = H ∧ EvEs prog w B names d args vals H fun vs H₂ => CallC prog w B d' f (.ref n :: vs) H₂ Q) : EvE prog w B names d (.Call (.Attribute o name apos) args [] pos) vals H Q :=
  ev_CallMeth hb hp hl hline (h.mono fun ov H₁ ⟨e1, e2, q⟩ => by
    subst e1 e2
    exact ⟨_, _, methV_inst X cl h4 h3 m na, evEs_mono q fun vs H₂ q => calV_fn F q hd⟩)
/-- a def of the top's is called -/
theorem ev_Fn {x : Str} {np pos : Pos} {args : List PySem.Expr} {f : Addr} {ps : List Str} {dv : List V} {names' : Names} {body : List Stmt} {d' : Nat} (hp : args.all plainE = true) (l : Has names x .globalImplicit) (g : GlobIs B x (.ref f)) (F : FnIs B f ps dv names' body) (hd : d' ≤ d)
    (h : EvEs prog w B names d args vals H fun vs H₂ => CallC prog w B d' f vs H₂ Q) : EvE prog w B names d (.Call (.Name x np) args [] pos) vals H Q :=
  ev_CallName hp (ev_glob l g ⟨⟨_, rfl⟩, evEs_mono h fun vs H₂ q => calV_fn F q hd⟩)
/-- a built-in is called -/
theorem ev_Bi {x : Str} {np pos : Pos} {args : List PySem.Expr} {fv : Value} (hp : args.all plainE = true) (l : Has names x .globalImplicit) (g : BuiltIs B x fv)
    (h : EvEs prog w B names d args vals H fun vs H₂ => CalV prog w B d (.val fv) vs H₂ Q) : EvE prog w B names d (.Call (.Name x np) args [] pos) vals H Q :=
  ev_CallName hp (ev_built l g ⟨⟨_, rfl⟩, h⟩)
/-- x.append(e) and the like -/
theorem ev_LMeth {o : PySem.Expr} {name : Str} {id : String} {apos pos : Pos} {args : List PySem.Expr} {n : Nat} {us : List V} (slot : Slot "list" name id) (ty : typeOf (.builtin id) = pure (.type "method_descriptor")) (hb : plainBase o = true) (hp : args.all plainE = true) (hl : args.length < 29) (hline : (apos.endLine == pos.line) = true)
    (hn : H[n]? = some (.list us)) (h : EvE prog w B names d o vals H fun ov H₁ => ov = .ref n ∧ H₁ = H ∧ EvEs prog w B names d args vals H fun vs H₂ => CalV prog w B d (.val (.builtin id)) (.ref n :: vs) H₂ Q) : EvE prog w B names d (.Call (.Attribute o name apos) args [] pos) vals H Q :=
  ev_CallMeth hb hp hl hline (h.mono fun ov H₁ ⟨e1, e2, q⟩ => by
    subst e1 e2
    exact ⟨_, _, methV_list slot ty hn, q⟩)
end
section
variable {prog : Program} {w : World} {B : Heap} {names : Names} {vals : Vals} {d : Nat} {H : List O} {K : Frag} {Q : V → List O → Prop}
theorem w_notin_idict {n : Nat} {es : List (Int × V)} {k : Int} (hn : H[n]? = some (.idict es)) (q : Q (.bool (!(dget es k).isSome)) H) : W2 prog w B d (compareOp .NotIn) (.int k) (.ref n) H Q := by
  intro ρ s x y hs hx hy A E r
  obtain ⟨a, kvs, rfl, ha, D, P, ns⟩ := idict_at (prog := prog) hs hy hn
  cases hx with
  | int _ t =>
    refine wpAny_notIn_of (knd := intKind prog w) (intKind_is prog w k t) ns D.mapOf ?_
    rcases P.get k with ⟨e1, e2⟩ | ⟨v, x, e1, e2, _⟩ <;> rw [e1] at q <;> simp only [e2] <;> exact fin (rel := VR) (s' := { s with toks := s.toks + 1 }) hs (fun _ _ e => e) (v := V.bool _) (VR.bool _) q
theorem text_small {i : Int} (h : i.natAbs < 10 ^ 10) : (Str.ofString (toString i)).length ≤ 100 := by
  have e := int_text_length_le10 (k := 10) (by decide) h
  rw [PySem.ofString_length]; walk_at "om"
theorem ev_Joined3 {x y : Str} {k1 k2 : Nat} {e : PySem.Expr} {p1 p2 p3 pos : Pos} (hx : x.length ≤ 100) (hy : y.length ≤ 100)
    (h : EvE prog w B names d e vals H fun v H₁ => ∃ i : Int, v = .int i ∧ i.natAbs < 10 ^ 10 ∧ ∀ z, Q (.str z) H₁) : EvE prog w B names d (.JoinedStr [.Constant (.str x) k1 p1, .FormattedValue e (-1) none p2, .Constant (.str y) k2 p3] pos) vals H Q := by
  constructor
  intro env ρ s sr A E r
  refine wpAny_JoinedStr ?_
  have l0 : Str.empty.length = 0 := rfl
  refine wpAny_Constant_str ⟨x, _, rfl, by rw [strLen_append, l0, sizeLine_eq]; walk_at "om", ?_⟩
  refine wpAny_FormattedValue_plain (h.go (sr.ext (.toks _) (sr.hs.toks _)) r fun v a H₁ ρ₁ s₁ va sr₁ e₁ ⟨i, hv, hi, q⟩ => ?_)
  subst hv
  cases va with
  | int _ t =>
    have hl : i.natAbs.log2 < 1920 := by
      by_cases h0 : i.natAbs = 0
      · rw [h0]; decide
      · exact (Nat.log2_lt h0).mpr (Nat.lt_of_lt_of_le hi (by decide +kernel))
    have ht := text_small hi
    refine wpAny_formatField_int hl ⟨_, _, rfl, by rw [strLen_append, strLen_append, l0, sizeLine_eq]; walk_at "om", ?_⟩
    refine wpAny_Constant_str ⟨y, _, rfl, by rw [strLen_append, strLen_append, strLen_append, l0, sizeLine_eq]; walk_at "om", by rw [strLen_append, strLen_append, strLen_append, l0, sizeLine_eq]; walk_at "om", ?_⟩
    exact ⟨_, H₁, ρ₁, .str _ _, sr₁.hs.keeps (fun _ _ e => e), (Ext.toks _).trans (e₁.trans (.keeps (fun _ _ e => e) rfl rfl)), q _⟩
end
theorem noPylong_pow {x : Int} {i : Nat} (h : i ≤ 5000) : Builtin.divisionGoesByPylong x (2 ^ i) = false := by
  unfold Builtin.divisionGoesByPylong
  have e : ((2 : Int) ^ i).natAbs = 2 ^ i := by rw [Int.natAbs_pow]; rfl
  have hz : ((2 : Int) ^ i == 0) = false := by
    have : (0 : Int) < 2 ^ i := Int.pow_pos (by decide)
    exact beq_eq_false_iff_ne.mpr (by walk_at "om")
  simp only [hz, Bool.false_eq_true, if_false, e, Nat.log2_two_pow]
  rw [decide_eq_false (by walk_at "om")]; rfl
section
variable {prog : Program} {w : World} {B : Heap} {names names' : Names} {vals vals' : Vals} {d : Nat} {H : List O}

theorem map_range_succ {α : Type} (f : Nat → α) (i : Nat) : (List.range (i + 1)).map f = (List.range i).map f ++ [f i] := by
  rw [List.range_succ, List.map_append]; rfl
/-- a comprehension whose parts leave the heap alone -/
theorem ev_CompP {elt target iter : PySem.Expr} {scope : Scope} {pos : Pos} {Q : V → List O → Prop} (k : ItK) (us : List V) (H1 : List O) (f : Nat → V) (hf : ∀ env x, foldedSetIterable iter env x = pure x) (hkind : scope.kind = .function)
    (rl : Relab names scope.names names') (hnod : (scope.names.map (·.1)).Nodup) (hdbg : ∀ x ∈ names', (x.1 == ("__debug__" : Str)) = false ∧ (x.1 == ("__classdict__" : Str)) = false) (cv : CompV names vals names' vals')
    (h : EvE prog w B names d iter vals H fun v H₁ => H₁ = H1 ∧ IterOf v k)
    (it : ∀ ys i, itemAt k (H1 ++ [.list ys]) i = us[i]?) (lk : ∀ ys, Live k (H1 ++ [.list ys])) (lk0 : Live k H1) (hl : us.length ≤ 1000000)
    (turn : ∀ i u ys, us[i]? = some u → ∃ vals'', TgtN names' target u vals' vals'' ∧ EvE prog w B names' d elt vals'' (H1 ++ [.list ys]) fun y H'' => y = f i ∧ H'' = H1 ++ [.list ys])
    (q : Q (.ref H1.length) (H1 ++ [.list ((List.range us.length).map f)])) :
    EvE prog w B names d (.ListComp elt [⟨target, iter, [], 0⟩] scope pos) vals H Q := by
  refine ev_ListComp k H1.length us.length (fun i ys H' => i ≤ us.length ∧ ys = (List.range i).map f ∧ H' = H1 ++ [.list ys]) hf hkind rl hnod hdbg cv (h.mono ?_) ?_ ?_ ?_
  · rintro v H₁ ⟨rfl, ik⟩
    exact ⟨ik, rfl, lk0, by walk_at "om", rfl, rfl⟩
  · rintro i ys H' ⟨hi, rfl, rfl⟩
    exact ⟨lk _, hi, app_r, by simp; walk_at "om"⟩
  · rintro i ys H' ⟨hi, rfl, rfl⟩ hn
    rw [it, List.getElem?_eq_none_iff] at hn
    have : i = us.length := by walk_at "om"
    subst this
    exact q
  · rintro i ys H' v ⟨hi, rfl, rfl⟩ hv
    rw [it] at hv
    obtain ⟨vals'', t, e⟩ := turn i v _ hv
    have hlt := (List.getElem?_eq_some_iff.mp hv).1
    refine ⟨vals'', t, fun _ => e.mono ?_, fun h => (by cases h)⟩
    rintro y H'' ⟨rfl, rfl⟩
    refine ⟨app_r, by walk_at "om", (map_range_succ f i).symm, ?_⟩
    rw [List.set_append_right _ _ (Nat.le_refl _), Nat.sub_self]; rfl
theorem ev1_AssignCompP {y : Str} {py spos : Pos} {elt target iter : PySem.Expr} {scope : Scope} {pos : Pos} {Q : Fl → Vals → List O → Prop} (k : ItK) (us : List V) (H1 : List O) (f : Nat → V) (hf : ∀ env x, foldedSetIterable iter env x = pure x) (hkind : scope.kind = .function)
    (rl : Relab names scope.names names') (hnod : (scope.names.map (·.1)).Nodup) (hdbg : ∀ x ∈ names', (x.1 == ("__debug__" : Str)) = false ∧ (x.1 == ("__classdict__" : Str)) = false) (cv : CompV names vals names' vals')
    (hy : Has names y .local) (hline : (py.line == pos.line) = true) (hno : (scope.names.any fun (n, k) => n == y && (k == .local || k == .cell)) = false)
    (h : EvE prog w B names d iter vals H fun v H₁ => H₁ = H1 ∧ IterOf v k)
    (it : ∀ ys i, itemAt k (H1 ++ [.list ys]) i = us[i]?) (lk : ∀ ys, Live k (H1 ++ [.list ys])) (lk0 : Live k H1) (hl : us.length ≤ 1000000)
    (turn : ∀ i u ys, us[i]? = some u → ∃ vals'', TgtN names' target u vals' vals'' ∧ EvE prog w B names' d elt vals'' (H1 ++ [.list ys]) fun y H'' => y = f i ∧ H'' = H1 ++ [.list ys])
    (q : ∃ vals2, Put names vals y .local (.ref H1.length) vals2 ∧ Q .next vals2 (H1 ++ [.list ((List.range us.length).map f)])) :
    Ev1 prog w B names d (.Assign [.Name y py] (.ListComp elt [⟨target, iter, [], 0⟩] scope pos) spos) vals H Q := by
  refine ev1_AssignComp k H1.length us.length (fun i ys H' => i ≤ us.length ∧ ys = (List.range i).map f ∧ H' = H1 ++ [.list ys]) hf hkind rl hnod hdbg cv hy hline hno (h.mono ?_) ?_ ?_ ?_
  · rintro v H₁ ⟨rfl, ik⟩
    exact ⟨ik, rfl, lk0, by walk_at "om", rfl, rfl⟩
  · rintro i ys H' ⟨hi, rfl, rfl⟩
    exact ⟨lk _, hi, app_r, by simp; walk_at "om"⟩
  · rintro i ys H' ⟨hi, rfl, rfl⟩ hn
    rw [it, List.getElem?_eq_none_iff] at hn
    have : i = us.length := by walk_at "om"
    subst this
    exact q
  · rintro i ys H' v ⟨hi, rfl, rfl⟩ hv
    rw [it] at hv
    obtain ⟨vals'', t, e⟩ := turn i v _ hv
    have hlt := (List.getElem?_eq_some_iff.mp hv).1
    refine ⟨vals'', t, fun _ => e.mono ?_, fun h => (by cases h)⟩
    rintro y H'' ⟨rfl, rfl⟩
    refine ⟨app_r, by walk_at "om", (map_range_succ f i).symm, ?_⟩
    rw [List.set_append_right _ _ (Nat.le_refl _), Nat.sub_self]; rfl
theorem rng_items (n : Nat) (H : List O) (i : Nat) : itemAt (.rng (n : Int)) H i = ((List.range n).map fun j : Nat => V.int (j : Int))[i]? := by
  rw [List.getElem?_map]
  show (if (i : Int) < (n : Int) then some (V.int i) else none) = _
  by_cases h : i < n
  · rw [if_pos (by walk_at "om"), List.getElem?_eq_getElem (by simpa using h)]; simp
  · rw [if_neg (by walk_at "om"), List.getElem?_eq_none (by simpa using h)]; rfl
theorem rng_live (n : Nat) (H : List O) (h : n ≤ 1000000) : Live (.rng (n : Int)) H := ⟨by walk_at "om", by walk_at "om"⟩
theorem rng_at {n i : Nat} {u : V} (h : ((List.range n).map fun j : Nat => V.int (j : Int))[i]? = some u) : i < n ∧ u = .int (i : Int) := by
  rw [List.getElem?_map] at h
  obtain ⟨j, e1, e2⟩ := Option.map_eq_some_iff.mp h
  obtain ⟨h1, h2⟩ := List.getElem?_eq_some_iff.mp e1
  simp at h1 h2
  exact ⟨h1, by rw [← e2, ← h2]⟩
end
/-- a stretch of a list -/
noncomputable def pickL {α : Type} (l : List α) (lo hi : Option Int) : List α := (l.drop (kms_lo lo l.length)).take (kms_hi hi l.length - kms_lo lo l.length)
section
variable {prog : Program} {w : World} {B : Heap} {names : Names} {vals : Vals} {d : Nat} {H : List O} {Q : V → List O → Prop}
inductive PartV : V → Option Int → Prop
  | none : PartV .none none
  | int {i : Int} : PartV (.int i) (some i)
theorem PartV.is {v : V} {o : Option Int} (p : PartV v o) {ρ : List Addr} {h : Heap} {x : Value} (r : VR ρ h v x) : IsPart x o := by
  cases p with
  | none => cases r; exact .none
  | int => cases r; exact .int _ _
/-- a part of a slice -/
noncomputable def EvP (prog : Program) (w : World) (B : Heap) (names : Names) (d : Nat) : Option PySem.Expr → Vals → List O → (V → List O → Prop) → Prop
  | none, _, H, Q => Q .none H
  | some e, vals, H, Q => EvE prog w B names d e vals H Q
theorem EvP.go {e : Option PySem.Expr} {Q₁ : V → List O → Prop} {env : Env} {ρ : List Addr} {s : Shared} {A : Around} {E : Value → Shared → Prop}
    (h : EvP prog w B names d e vals H Q₁) (sr : SR w.params B env names vals ρ H s) (r : Room A d) {t : Value → Shared → Prop}
    (k : ∀ v x H₁ ρ₁ s₁, VR ρ₁ s₁.heap v x → SR w.params B env names vals ρ₁ H₁ s₁ → Ext ρ s ρ₁ s₁ → Q₁ v H₁ → t x s₁) : wpAny (model prog w) A (evalPart e env) t E s := by
  cases e with
  | none => rw [evalPart_none]; exact wpAny_pure (k .none .none H ρ s .none sr (.refl _ _) h)
  | some e => rw [evalPart_some]; exact EvE.go h sr r k
theorem evP_mono {e : Option PySem.Expr} {Q Q' : V → List O → Prop} (h : EvP prog w B names d e vals H Q) (k : ∀ v H, Q v H → Q' v H) : EvP prog w B names d e vals H Q' := by
  cases e with
  | none => exact k _ _ h
  | some e => exact EvE.mono h k
/-- the slice of a list, its parts evaluated -/
theorem slice_go {lower upper step : Option PySem.Expr} {p : Pos} {env : Env} {ρ : List Addr} {s : Shared} {A : Around} {E : Value → Shared → Prop} {t : Value → Shared → Prop} {Q₁ : V → V → V → List O → Prop} (sr : SR w.params B env names vals ρ H s) (r : Room A d)
    (h : EvP prog w B names d lower vals H fun l H₁ => EvP prog w B names d upper vals H₁ fun u H₂ => EvP prog w B names d step vals H₂ fun st H₃ => Q₁ l u st H₃)
    (k : ∀ l u st x y z H₁ ρ₁ s₁, VR ρ₁ s₁.heap l x → VR ρ₁ s₁.heap u y → VR ρ₁ s₁.heap st z → SR w.params B env names vals ρ₁ H₁ s₁ → Ext ρ s ρ₁ s₁ → Q₁ l u st H₁ → ∀ sl, s₁.heap.IsSliceOf sl x y z → t (.ref sl) s₁) : wpAny (model prog w) A (eval (.Slice lower upper step p) env) t E s := by
  refine wpAny_Slice (EvP.go h sr r fun l x H₁ ρ₁ s₁ va sr₁ e₁ h₁ => EvP.go h₁ sr₁ r fun u y H₂ ρ₂ s₂ vb sr₂ e₂ h₂ => EvP.go h₂ sr₂ r fun st z H₃ ρ₃ s₃ vc sr₃ e₃ h₃ => ?_)
  have kp : ∀ b o, s₃.heap.get? b = some o → (s₃.heap.push { cls := .type "slice", data := .fields #[x, y, z] }).get? b = some o := fun b o e => Heap.get?_push_of_some _ e
  have ex : Ext ρ₃ s₃ ρ₃ { s₃ with heap := s₃.heap.push { cls := .type "slice", data := .fields #[x, y, z] } } := .keeps (s' := { s₃ with heap := s₃.heap.push { cls := .type "slice", data := .fields #[x, y, z] } }) kp rfl rfl
  exact k l u st x y z H₃ ρ₃ { s₃ with heap := s₃.heap.push { cls := .type "slice", data := .fields #[x, y, z] } } (ex.vr (e₃.vr (e₂.vr va))) (ex.vr (e₃.vr vb)) (ex.vr vc) (sr₃.ext ex (sr₃.hs.keeps (s' := { s₃ with heap := s₃.heap.push { cls := .type "slice", data := .fields #[x, y, z] } }) kp)) (((e₁.trans e₂).trans e₃).trans ex) h₃ _ ⟨_, Heap.get?_push_size _ rfl, rfl, rfl⟩
theorem VRs.pick {ρ : List Addr} {h : Heap} {vs : List V} {xs : List Value} (r : VRs ρ h vs xs) (lo hi : Option Int) : VRs ρ h (pickL vs lo hi) (kms_pick xs lo hi) := by
  unfold pickL kms_pick
  rw [r.length]
  exact (r.drop _).take _
theorem ev_Slice {value : PySem.Expr} {lower upper : Option PySem.Expr} {p pos : Pos} {n : Nat} {vs : List V}
    (h : EvE prog w B names d value vals H fun v H₁ => v = .ref n ∧ EvP prog w B names d lower vals H₁ fun l H₂ => EvP prog w B names d upper vals H₂ fun u H₃ => ∃ lo hi, PartV l lo ∧ PartV u hi ∧ H₃[n]? = some (.list vs) ∧ vs.length ≤ 1000000 ∧ Q (.ref H₃.length) (H₃ ++ [.list (pickL vs lo hi)])) :
    EvE prog w B names d (.Subscript value (.Slice lower upper none p) pos) vals H Q := by
  constructor
  intro env ρ s sr A E r
  refine Subscript_ (h.go sr r fun v x H₁ ρ₁ s₁ va sr₁ e₁ ⟨hv, h₁⟩ => ?_)
  subst hv
  refine slice_go (step := none) (Q₁ := fun l u st H₃ => st = .none ∧ ∃ lo hi, PartV l lo ∧ PartV u hi ∧ H₃[n]? = some (.list vs) ∧ vs.length ≤ 1000000 ∧ Q (.ref H₃.length) (H₃ ++ [.list (pickL vs lo hi)])) sr₁ r ?_ ?_
  · refine evP_mono h₁ fun l H₂ h₂ => evP_mono h₂ fun u H₃ h₃ => ⟨rfl, h₃⟩
  · rintro l u st x' y z H₃ ρ₃ s₃ vl vu vst sr₃ e₃ ⟨rfl, lo, hi, pl, pu, hn, hlen, q⟩ sl hsl
    cases vst
    obtain ⟨a, items, ep, ea, ha, g1, g2⟩ := list_at sr₃.hs (e₃.vr va) hn
    subst ea
    have l1 := g2.length
    obtain ⟨ops, ho⟩ := subscripted_ops (.Slice lower upper none p) (.ref a) (.ref sl)
    refine tail_any (T := "list") ⟨_, g1, rfl⟩ slot_list_getitem.lookup ?_ ho
    refine wpAny_getItem_list_slice (isList_of g1) hsl (pl.is vl) (pu.is vu) .none (by simp) ?_ (by rw [List.size_toArray, sizeLine_eq]; walk_at "om")
    rw [kms_pick_eq]
    obtain ⟨z1, z2, z3⟩ := new_list (ep := 0) sr₃.hs (g2.pick lo hi)
    exact ⟨.ref H₃.length, _, _, .ref z3, z1, (e₁.trans e₃).trans z2, q⟩
theorem pick_run {α : Type} (l : List α) (a b : Nat) (h1 : a ≤ b) (h2 : b ≤ l.length) : pickL l (some (a : Int)) (some (b : Int)) = (l.drop a).take (b - a) := by
  unfold pickL kms_lo kms_hi
  simp only [Int.toNat_natCast]
  rw [if_neg (by walk_at "om"), if_neg (by walk_at "om"), Nat.min_eq_left (by walk_at "om"), Nat.min_eq_left (by walk_at "om")]
theorem pick_upto {α : Type} (l : List α) (b : Nat) : pickL l none (some (b : Int)) = l.take b := by
  unfold pickL kms_lo kms_hi
  simp only [Int.toNat_natCast]
  rw [if_neg (by walk_at "om"), List.drop_zero, Nat.sub_zero]
  by_cases h : b ≤ l.length
  · rw [Nat.min_eq_left h]
  · rw [Nat.min_eq_right (by walk_at "om"), List.take_of_length_le (Nat.le_refl _), List.take_of_length_le (by walk_at "om")]
theorem ev_CompR {names' : Names} {vals' : Vals} {elt target iter : PySem.Expr} {scope : Scope} {pos : Pos} (wide : Nat) (f : Nat → V) (hw : wide ≤ 100000) (hf : ∀ env x, foldedSetIterable iter env x = pure x) (hkind : scope.kind = .function)
    (rl : Relab names scope.names names') (hnod : (scope.names.map (·.1)).Nodup) (hdbg : ∀ x ∈ names', (x.1 == ("__debug__" : Str)) = false ∧ (x.1 == ("__classdict__" : Str)) = false) (cv : CompV names vals names' vals')
    (h : EvE prog w B names d iter vals H fun v H₁ => v = .rng (wide : Int) ∧ H₁ = H)
    (turn : ∀ (i : Nat) ys, i < wide → ∃ vals'', TgtN names' target (.int (i : Int)) vals' vals'' ∧ EvE prog w B names' d elt vals'' (H ++ [.list ys]) fun y H'' => y = f i ∧ H'' = H ++ [.list ys])
    (q : Q (.ref H.length) (H ++ [.list ((List.range wide).map f)])) : EvE prog w B names d (.ListComp elt [⟨target, iter, [], 0⟩] scope pos) vals H Q := by
  refine ev_CompP (.rng (wide : Int)) _ H f hf hkind rl hnod hdbg cv (h.mono ?_) (fun ys i => rng_items wide _ i) (fun ys => rng_live wide _ (by walk_at "om")) (rng_live wide _ (by walk_at "om")) (by simp; walk_at "om") ?_ ?_
  · rintro v H₁ ⟨rfl, rfl⟩; exact ⟨rfl, .rng⟩
  · intro i u ys hu
    obtain ⟨hi, rfl⟩ := rng_at hu
    exact turn i ys hi
  · simpa using q
theorem VRs.of_get {ρ : List Addr} {h : Heap} : ∀ {vs : List V} {xs : List Value}, xs.length = vs.length → (∀ (i : Nat) v x, vs[i]? = some v → xs[i]? = some x → VR ρ h v x) → VRs ρ h vs xs
  | [], [], _, _ => .nil
  | [], _ :: _, e, _ => by simp at e
  | _ :: _, [], e, _ => by simp at e
  | v :: vs, x :: xs, e, k => .cons (k 0 v x rfl rfl) (VRs.of_get (by simpa using e) fun i v x h1 h2 => k (i + 1) v x (by simpa using h1) (by simpa using h2))
theorem c_list_rng {n : Nat} (hn : n ≤ 100000) (q : Q (.ref H.length) (H ++ [.list ((List.range n).map fun j : Nat => V.int (j : Int))])) : CalV prog w B d (.val (.type "list")) [.rng (n : Int)] H Q := by
  refine ⟨_, rfl, fun h _ => keep_type h, fun ρ s xs hs hv A E r => ?_⟩
  cases hv with
  | cons h1 h2 =>
    cases h2
    cases h1 with
    | rng hr =>
      refine call_list_range (n := n) r.hand hr (small_one (by decide) (by decide) (by walk_at "om") (by walk_at "om")) (by rw [rangeSize_one]; split <;> walk_at "om") (by walk_at "om") fun h' tk acc c' k hget hit => ?_
      have ho : OR w.params (ρ ++ [s.heap.objs.size]) h' (.list ((List.range n).map fun j : Nat => V.int (j : Int))) s.heap.objs.size := by
        refine ⟨acc.toList, c', hget, VRs.of_get ?_ fun i v x e1 e2 => ?_⟩
        · have := hit.1
          simp [this]
        · obtain ⟨hi, rfl⟩ := rng_at e1
          have := hit.2 i x (by simpa using e2)
          obtain ⟨t, rfl⟩ := this
          have e : (0 : Int) + (i : Int) * 1 = (i : Int) := by walk_at "om"
          rw [e]; exact .int _ _
      refine ⟨.ref H.length, H ++ [.list ((List.range n).map fun j : Nat => V.int (j : Int))], ρ ++ [s.heap.objs.size], .ref ?_, hs.more (s' := { s with heap := h', toks := tk }) k (get_end _) ho, .more (s' := { s with heap := h', toks := tk }) k (get_end _) rfl rfl, q⟩
      rw [← hs.hr.len, List.getElem?_append_right (Nat.le_refl _), Nat.sub_self]; rfl
end
noncomputable def fdOf (K : Frag) (f : Addr) : FuncData := match K.lookup f with
  | some ⟨_, _, .func fd, _⟩ => fd
  | _ => default
noncomputable def fnThere (K : Frag) (f : Addr) : Bool := match K.lookup f with
  | some ⟨_, _, .func _, _⟩ => true
  | _ => false
theorem fn_there {K : Frag} {f : Addr} (h : fnThere K f = true) : ∃ oc od osl, K.lookup f = some ⟨oc, od, .func (fdOf K f), osl⟩ := by
  unfold fnThere at h
  unfold fdOf
  split at h
  · rename_i oc od fd osl e
    exact ⟨oc, od, osl, by rw [e]⟩
  · cases h
/-- what a def's object says, at one go -/
noncomputable def fdSays (fd : FuncData) : List (Str × Addr) × Addr × Addr × Names × ScopeKind × Bool × Bool := (fd.closure, fd.globals, fd.builtins, fd.scope.names, fd.scope.kind, fd.scope.isCoroutine, fd.scope.isGenerator)
noncomputable def namesOkB (names : Names) : Bool := (names.all fun x => !(x.1 == ("__debug__" : Str)) && !(x.1 == ("__classdict__" : Str)))
theorem namesOkB_is {names : Names} (h : namesOkB names = true) : ∀ x ∈ names, (x.1 == ("__debug__" : Str)) = false ∧ (x.1 == ("__classdict__" : Str)) = false := by
  intro x hx
  have := List.all_eq_true.mp h x hx
  simpa using this
noncomputable def kindsB (names : Names) (n : Nat) : Bool := (names.take n).all fun x => x.2 == .local || x.2 == .cell
theorem kindsB_is {names : Names} {n : Nat} (h : kindsB names n = true) : ∀ x ∈ names.take n, x.2 = .local ∨ x.2 = .cell := by
  intro x hx
  have := List.all_eq_true.mp h x hx
  simpa using this
theorem fnIs_of {K : Frag} {B : Heap} {f : Addr} {ps : List Str} {names : Names} {body : List Stmt} (X : K.In B) (lim : B.NoLimit) (e1 : fnThere K f = true) (e2 : (fdOf K f).body = .stmts body) (e3 : fdSays (fdOf K f) = ([], mainGlobals, builtinsNs, names, .function, false, false))
    (e4 : codeIn K (fdOf K f).code (fdOf K f).qualname = true) (bind : ∀ xs : List Value, xs.length = ps.length → bindArgs (fdOf K f) ⟨xs, []⟩ = pure (ps.zip xs)) (first : (names.map (·.1)).take ps.length = ps) (kinds : kindsB names ps.length = true) (nod : (names.map (·.1)).Nodup) (dbg : namesOkB names = true) : FnIs B f ps [] names body := by
  obtain ⟨oc, od, osl, e⟩ := fn_there e1
  unfold fdSays at e3
  simp only [Prod.mk.injEq] at e3
  obtain ⟨a1, a2, a3, a4, a5, a6, a7⟩ := e3
  exact ⟨⟨_, fdOf K f, X _ _ e, rfl, e2, a1, a2, a3, a4, a5, a6, a7, codeRec_of X e4, [], fun _ _ => .nil, fun s xs _ hl => by rw [List.append_nil]; exact .of_eq (bind xs (by simpa using hl))⟩, lim, first, kindsB_is kinds, nod, namesOkB_is dbg⟩
theorem globIs_of {K : Frag} {B : Heap} {p : Program} {loose : List Str} {mg mb : Str → Option Value} {x : Str} {v : Value} (X : K.In B) (T : TopRead p loose mg mb B) (e : nsIn K mainGlobals x = some (some v)) : GlobIs B x v := ⟨mg, T.g, mg_of X T.g e⟩
theorem builtIs_of {K : Frag} {B : Heap} {p : Program} {loose : List Str} {mg mb : Str → Option Value} {x : Str} {v : Value} (X : K.In B) (T : TopRead p loose mg mb B) (e : nsIn K mainGlobals x = some none) (hv : bootBuiltins x = some v) (hn : x ≠ "__name__") : BuiltIs B x v :=
  ⟨mg, mb, T.g, mg_none_of X T.g e, T.b, (T.builtins x hn).trans hv⟩
noncomputable abbrev nmSup : Names := [(Str.ofString "self", .local), (Str.ofString "__class__", .free), (Str.ofString "super", .globalImplicit)]
noncomputable def fileIn (K : Frag) (c : Addr) : Option Str := match K.lookup c with
  | some ⟨_, _, .fields vs, _⟩ => match (vs[2]? : Option Value) with
    | some (Value.str x _) => some x
    | _ => none
  | _ => none
noncomputable def cellIn (K : Frag) (c : Addr) : Option Value := match K.lookup c with
  | some ⟨_, _, .cell v, _⟩ => v
  | _ => none
theorem fileIn_is {K : Frag} {c : Addr} {x : Str} (h : fileIn K c = some x) : ∃ cc dd vs sl t, K.lookup c = some ⟨cc, dd, .fields vs, sl⟩ ∧ vs[2]? = some (.str x t) := by
  unfold fileIn at h
  split at h
  · rename_i cc dd vs sl e
    split at h
    · rename_i y t hv; cases h; exact ⟨cc, dd, vs, sl, t, e, hv⟩
    · cases h
  · cases h
theorem cellIn_is {K : Frag} {c : Addr} {v : Value} (h : cellIn K c = some v) : ∃ o, K.lookup c = some o ∧ o.data = .cell (some v) := by
  unfold cellIn at h
  split at h
  · rename_i cc dd vs sl e
    subst h
    exact ⟨_, e, rfl⟩
  · cases h
theorem nmSup_nod : (nmSup.map (·.1)).Nodup := by decide +kernel
theorem nmSup_dbg : namesOkB nmSup = true := by decide +kernel
theorem nmSup_cell : ∀ x ∈ nmSup, x.2 ≠ .cell := by decide +kernel

section
variable {prog : Program} {w : World} {B : Heap} {d : Nat} {H : List O} {K : Frag}

theorem call_super {p : Program} {loose : List Str} {mg mb : Str → Option Value} {C f f2 cc cda : Addr} {n dn : Nat} {file : Str} {p0 p1 apos cpos epos : Pos} {rest : List Stmt} {Q : V → List O → Prop} (X : K.In B) (T : TopRead p loose mg mb B)
    (e1 : fnThere K f = true) (e2 : (fdOf K f).body = .stmts (.Expr (.Call (.Attribute (.Call (.Name (Str.ofString "super") p0) [] [] p1) (Str.ofString "__init__") apos) [] [] cpos) epos :: rest))
    (e3 : fdSays (fdOf K f) = ([(Str.ofString "__class__", cc)], mainGlobals, builtinsNs, nmSup, .function, false, false)) (e4 : codeIn K (fdOf K f).code (fdOf K f).qualname = true)
    (bind : ∀ x, bindArgs (fdOf K f) ⟨[x], []⟩ = pure [(Str.ofString "self", x)]) (par : (((fdOf K f).params.posonlyargs ++ (fdOf K f).params.args).head?).map (·.arg) = some (Str.ofString "self"))
    (hcda : (fdOf K f).code = .ref cda) (hcode : fileIn K cda = some file) (hfile : (prog.main.file == file) = true) (hcell : cellIn K cc = some (.ref C)) (hC : (clsIn K C).isSome = true) (hsub : mroIn K C (.ref C) = some true)
    (hsuper : nsIn K mainGlobals "super" = some none) (hline : (apos.endLine == cpos.line) = true) (htop : (prog.main.scope.names.lookup ("super" : Str)).isSome = false) (hboot : bootBuiltins "super" = some (.type "super")) (hopq : nsIn K cStatics "thirdparty.any" = some none)
    (hm : ks_superIn K C C "__init__" = some (some (.ref f2))) (ht : typeIn K (.ref f2) = some (.type "function")) (hfn : fnIn K f2 = true) (h4 : H[n]? = some (.inst C dn))
    (h : CallC prog w B d f2 [.ref n] H fun _ H' => EvS prog w B nmSup d rest [some (.ref n), none, none] H' fun fl _ H' => match fl with | .ret v => Q v H' | .next => Q .none H' | _ => False) :
    CallC prog w B (d + 1) f [.ref n] H Q := by
  constructor
  intro ρ s xs A R hs hv r hR
  obtain ⟨oc, od, osl, ef⟩ := fn_there e1
  unfold fdSays at e3
  simp only [Prod.mk.injEq] at e3
  obtain ⟨a1, a2, a3, a4, a5, a6, a7⟩ := e3
  cases hv with
  | cons hx hnil =>
  cases hnil
  cases hx with
  | ref hn =>
  rename_i a
  have hlim : s.heap.NoLimit := T.nolimit.keeps hs.base
  obtain ⟨dx, hdx, hobj⟩ := hs.hr.obj n _ a h4 hn
  have Xs : K.In s.heap := X.keeps hs.base
  obtain ⟨ccl, cdd, vs, csl, tf, hcl, hvs⟩ := fileIn_is hcode
  obtain ⟨oce, hoce, hoced⟩ := cellIn_is hcell
  obtain ⟨cdC, hcdC⟩ := Option.isSome_iff_exists.mp hC
  obtain ⟨oC, hoC, hoCd⟩ : ∃ oC, K.lookup C = some oC ∧ oC.data = .cls cdC := by
    unfold clsIn at hcdC
    split at hcdC
    · rename_i c dd cd' sl ho
      cases hcdC
      exact ⟨_, ho, rfl⟩
    · cases hcdC
  have hxC : a ≠ C := by
    rintro rfl
    rw [Xs _ _ hoC] at hobj
    cases hobj
    cases hoCd
  obtain ⟨par0, hpar, hparg⟩ : ∃ ar, ((fdOf K f).params.posonlyargs ++ (fdOf K f).params.args).head? = some ar ∧ ar.arg = Str.ofString "self" := by
    obtain ⟨ar, q1, q2⟩ := Option.map_eq_some_iff.mp par
    exact ⟨ar, q1, q2⟩
  obtain ⟨of, hof, hofc⟩ : ∃ of, K.lookup f2 = some of ∧ of.cls = .type "function" := by
    have ht' : (K.lookup f2).map (·.cls) = some (.type "function") := ht
    obtain ⟨o, q1, q2⟩ := Option.map_eq_some_iff.mp ht'
    exact ⟨o, q1, q2⟩
  have hlook : ∀ x ∈ [(Str.ofString "self", Value.ref a)], (fdOf K f).scope.names.lookup x.1 = some .local := by
    intro x hx
    simp at hx
    subst hx
    rw [a4]; rfl
  refine ks_codeAny_call_defAt (fd := fdOf K f) (binds := [(Str.ofString "self", .ref a)]) r.depth (Xs _ _ ef) rfl hlim ((codeRec_of X e4).keeps hs.base) e2 (.of_eq (bind _)) (by rw [a4]; exact nmSup_cell) hlook (fun h₀ hns hk => ?_) a6 a7 a5
  generalize henv : callEnv (fdOf K f) s.heap.objs.size f = env
  have hL : env.locals = s.heap.objs.size := by rw [← henv]; rfl
  have hcells : env.cells = [(Str.ofString "__class__", cc)] := by rw [← henv]; exact a1
  have ok : EnvOk env nmSup := ⟨by rw [← henv]; exact a4, by rw [← henv]; exact a5, by rw [← henv]; exact a2, by rw [← henv]; exact a3, nmSup_nod, namesOkB_is nmSup_dbg⟩
  have lowL : ∀ b ∈ ρ, b < s.heap.objs.size := fun b hb => by obtain ⟨o, e, _⟩ := hs.hr.own hb; exact Heap.lt_size e
  have lowB : ∀ b o, B.get? b = some o → b < s.heap.objs.size := fun b o e => Heap.lt_size (hs.base _ _ e)
  have hns' : h₀.Ns env.locals fun x => [(Str.ofString "self", Value.ref a)].reverse.lookup x := by rw [hL]; rw [← hL] at hns; rw [← hL]; exact hns
  have sr : SR w.params B env nmSup [some (.ref n), none, none] ρ H { s with heap := h₀, toks := s.toks + 1 } := by
    refine ⟨ok, hs.keeps (s' := { s with heap := h₀, toks := s.toks + 1 }) hk, ⟨rfl, ⟨_, hns', fun i y v q1 q2 => ?_⟩, fun i y k v q1 q2 q3 => ?_, fun i y q1 => ?_, ?_, ?_, fun y c q => ?_, fun y c q => ?_, ?_⟩⟩
    · match i with
      | 0 =>
        simp at q1 q2
        subst q1 q2
        exact ⟨.ref a, rfl, .ref hn⟩
      | 1 => simp at q2
      | 2 => simp at q2
      | i + 3 => simp at q2
    · match i with
      | 0 =>
        simp at q1
        obtain ⟨_, rfl⟩ := q1
        rcases q2 with q2 | q2 <;> cases q2
      | 1 => simp at q3
      | 2 => simp at q3
      | i + 3 => simp at q3
    · match i with
      | 0 => simp at q1
      | 1 => simp at q1
      | 2 => simp at q1
      | i + 3 => simp at q1
    · rw [hcells]; exact List.pairwise_singleton _ _
    · rw [hL]; exact fun q => Nat.lt_irrefl _ (lowL _ q)
    · have hy : c = cc := by
        rw [hcells, List.lookup_cons] at q
        split at q
        · exact (Option.some.inj q).symm
        · cases q
      subst hy
      refine ⟨fun q' => ?_, by rw [hL]; exact Nat.ne_of_lt (lowB _ _ (X _ _ hoce))⟩
      have z := X _ _ hoce
      rw [hs.above _ q'] at z
      cases z
    · have hy : c = cc := by
        rw [hcells, List.lookup_cons] at q
        split at q
        · exact (Option.some.inj q).symm
        · cases q
      subst hy
      exact ⟨_, hk _ _ (Xs _ _ hoce)⟩
    · cases e : B.get? env.locals with
      | none => rfl
      | some o => exact absurd (lowB _ _ e) (by rw [hL]; exact Nat.lt_irrefl _)
  have hkc : env.kindOf "__class__" = some .free := ok.kindOf (i := 1) rfl
  have hks : env.kindOf "super" = some .globalImplicit := ok.kindOf (i := 2) rfl
  have hkslf : env.kindOf (Str.ofString "self") = some .local := ok.kindOf (i := 0) rfl
  have hfunc : env.func = some f := by rw [← henv]; rfl
  have hcodeE : env.code = .ref cda := by rw [← henv]; exact hcda
  have Xh : K.In h₀ := Xs.keeps hk
  have hobj₀ := hk _ _ hobj
  have hpos : ∀ few, methodCallPos few (.Call (.Name (Str.ofString "super") p0) [] [] p1) env apos cpos = pure cpos := fun few => by unfold methodCallPos; rw [hline, Bool.or_true]; rfl
  have he : eval (.Call (.Attribute (.Call (.Name (Str.ofString "super") p0) [] [] p1) (Str.ofString "__init__") apos) [] [] cpos) env = (attributeBase (.Call (.Name (Str.ofString "super") p0) [] [] p1) (Str.ofString "__init__") env (eval (.Call (.Name (Str.ofString "super") p0) [] [] p1) env) >>= fun ov => standAt apos.atName >>= fun _ => methodCall (.Call (.Name (Str.ofString "super") p0) [] [] p1) (Str.ofString "__init__") apos cpos env ov (0 + 0) (backTo cpos (starEach [] env)) (backToKw cpos (keywordEach [] env))) := rfl
  refine ks_wpAt_execs_cons (ks_wpAt_Expr_any ?_ ok.quiet)
  rw [he]
  refine PySem.wpAt_bind (ks_wpAt_super_base hks hkc rfl hfunc (Xh _ _ ef) rfl hpar hcodeE (Xh _ _ hcl) rfl hvs hfile htop ?_)
  refine ks_loadName_global ok.kind hks (loadGlobal_builtin (by rw [ok.glob]; exact (T.g.keeps hs.base).keeps hk) (mg_none_of X T.g hsuper) (by rw [ok.bi]; exact (T.b.keeps hs.base).keeps hk) ((T.builtins _ (by decide +kernel)).trans hboot) ⟨rfl, ?_⟩)
  refine wpAny_loadName_free ok.kind hkc (by rw [hcells]; rfl) ⟨_, Xh _ _ hoce, hoced⟩ ?_
  rw [hparg]
  refine wpAny_loadName_local ok.kind hkslf hns' rfl ?_
  refine ks_wpAny_isType_cls (Xh _ _ hoC) hoCd ⟨rfl, ?_⟩
  refine ks_wpAny_call_super (Xh _ _ hoC) hoCd hobj₀ rfl (fun c e => by cases e) (looks_mroIn Xh hsub) (fun h1 hso k1 => ?_)
  have Xh1 : K.In h1 := Xh.keeps k1
  have hm' : alongIn K "__init__" ((cdC.mro.dropWhile (· != .ref C)).drop 1) = some (some (.ref f2)) := by
    unfold ks_superIn at hm
    rw [hcdC] at hm
    exact hm
  refine PySem.wpAt_of_wpAny (wpAny_bind (wpAny_standAt ?_))
  unfold methodCall
  rw [show methodCallForm (0 + 0) (backTo cpos (starEach [] env)) (backToKw cpos (keywordEach [] env)) = true from few_of (args := []) rfl (by decide) cpos env]
  refine wpAny_bind (wpAny_holding ?_)
  show wpAny _ _ (getMethod (.ref _) _ _) _ _ _
  refine ks_wpAny_getMethod_super (l₀ := cdC.mro) hso (looks_opaque Xh1 hopq) (fun A Q E s k q => wpAny_bind ((looks_clsIn Xh1 hcdC) A _ E s k (wpAny_pure q))) rfl Xh1 hm' (Xh1 _ _ hof) hofc hxC rfl ?_
  generalize hb : h1.objs.size = bm
  have hbm : (h1.push { cls := .type "method", data := .fields #[.ref f2, .ref a] }).get? bm = some { cls := .type "method", dict := none, data := .fields #[.ref f2, .ref a], slots := #[] } := by rw [← hb]; exact Heap.get?_push_at rfl rfl
  have k2 : ∀ b o, h1.get? b = some o → (h1.push { cls := .type "method", data := .fields #[.ref f2, .ref a] }).get? b = some o := fun b o e => Heap.get?_push_of_some _ e
  generalize h1.push { cls := .type "method", data := .fields #[.ref f2, .ref a] } = h2 at hbm k2
  have Xh2 : K.In h2 := Xh1.keeps k2
  show wpAny _ _ (methodCallPos _ _ _ _ _ >>= _) _ _ _
  rw [hpos]
  refine wpAny_bind (wpAny_pure ?_)
  refine callWith_M0 ⟨hbm, Xh2⟩ hfn ?_
  refine wpAny_call (ks_codeAny_call_bound hbm ?_)
  have kk : ∀ b o, h₀.get? b = some o → h2.get? b = some o := fun b o e => k2 b o (k1 b o e)
  have ex2 : Ext ρ { s with heap := h₀, toks := s.toks + 1 } ρ { s with heap := h2, toks := s.toks + 1 + 1 } := .keeps (s' := { s with heap := h2, toks := s.toks + 1 + 1 }) kk rfl rfl
  have sr2 := sr.extF (s' := { s with heap := h2, toks := s.toks + 1 + 1 }) ex2 (sr.hs.keeps (s' := { s with heap := h2, toks := s.toks + 1 + 1 }) kk)
  refine h.go' ρ { s with heap := h2, toks := s.toks + 1 + 1 } [.ref a] (A.deeper env) _ sr2.hs (.cons (.ref hn) .nil) r.deeper fun v val H' ρ' s' hval hs' ex' q => ?_
  have sr3 := sr2.ext ex' hs'
  refine PySem.wpAt_of_wpAny (wpAny_mono (WS.go' q env ρ' s' sr3 (A.deeper env) _ r.deeper) (fun fl s₂ ⟨f', vals', H₂, ρ₂, b1, b2, b3, q2⟩ => ?_) fun _ _ e => e)
  have ex0 : Ext ρ s ρ' s' := (Ext.keeps (s' := { s with heap := h₀, toks := s.toks + 1 }) hk rfl rfl).trans (ex2.trans ex')
  have ex : Ext ρ s ρ₂ s₂ := by
    have hLs : ∀ b o, s.heap.get? b = some o → b ∉ ρ → s'.heap.get? b = some o := ex0.keep
    refine ⟨?_, fun b o e hb => ?_, fun b hb o e => ?_, ex0.tup.trans b3.tup, b3.gens.trans ex0.gens, b3.os.trans ex0.os⟩
    · obtain ⟨t, e, ht⟩ := ex0.pre
      obtain ⟨t', e', ht'⟩ := b3.pre
      refine ⟨t ++ t', by rw [e', e, List.append_assoc], fun b hb => ?_⟩
      rcases List.mem_append.mp hb with q | q
      · exact ht b q
      · exact fresh_back ex0.pre' ex0.keep ex0.live (ht' b q)
    · by_cases hbc : b = cc
      · subst hbc
        rw [Xs _ _ hoce] at e
        cases e
        exact b2.hs.base _ _ (X _ _ hoce)
      refine b3.keep b o (ex0.keep b o e hb) (ex0.notin e hb) ?_ ?_
      · rw [hL]; exact Nat.ne_of_lt (Heap.lt_size e)
      · intro y c hc q
        rw [hcells, List.lookup_cons] at hc
        split at hc
        · exact hbc (q.trans (Option.some.inj hc).symm)
        · cases hc
    · obtain ⟨o', e'⟩ := ex0.live b hb o e
      exact b3.live b o' e'
  cases b1 with
  | ret hv' => exact hR _ _ H₂ ρ₂ s₂ hv' b2.hs ex q2
  | next => exact hR .none .none H₂ ρ₂ s₂ .none b2.hs ex q2
  | brk => exact q2.elim
  | cont => exact q2.elim
end
noncomputable def ccOf (K : Frag) (f : Addr) : Addr := match (fdOf K f).closure with
  | [(_, c)] => c
  | _ => 0
noncomputable def cdaOf (K : Frag) (f : Addr) : Addr := match (fdOf K f).code with
  | .ref c => c
  | _ => 0
/-- a class's __init__ that begins with super().__init__() -/
structure SuperIs (prog : Program) (K : Frag) (C f f2 : Addr) (rest : List Stmt) : Prop where
  e1 : fnThere K f = true
  e2 : ∃ p0 p1 apos cpos epos : Pos, (fdOf K f).body = .stmts (.Expr (.Call (.Attribute (.Call (.Name (Str.ofString "super") p0) [] [] p1) (Str.ofString "__init__") apos) [] [] cpos) epos :: rest) ∧ (apos.endLine == cpos.line) = true
  e3 : fdSays (fdOf K f) = ([(Str.ofString "__class__", ccOf K f)], mainGlobals, builtinsNs, nmSup, .function, false, false)
  e4 : codeIn K (fdOf K f).code (fdOf K f).qualname = true
  bind : ∀ x, bindArgs (fdOf K f) ⟨[x], []⟩ = pure [(Str.ofString "self", x)]
  par : (((fdOf K f).params.posonlyargs ++ (fdOf K f).params.args).head?).map (·.arg) = some (Str.ofString "self")
  hcda : (fdOf K f).code = .ref (cdaOf K f)
  hfile : (fileIn K (cdaOf K f)).map (fun x => prog.main.file == x) = some true
  hcell : cellIn K (ccOf K f) = some (.ref C)
  hC : (clsIn K C).isSome = true
  hsub : mroIn K C (.ref C) = some true
  hsuper : nsIn K mainGlobals "super" = some none
  htop : (prog.main.scope.names.lookup ("super" : Str)).isSome = false
  hopq : nsIn K cStatics "thirdparty.any" = some none
  hm : ks_superIn K C C "__init__" = some (some (.ref f2))
  ht : typeIn K (.ref f2) = some (.type "function")
  hfn : fnIn K f2 = true
theorem boot_super : bootBuiltins "super" = some (.type "super") := by boot_by_name
theorem SuperIs.call {prog : Program} {w : World} {B : Heap} {d : Nat} {H : List O} {K : Frag} {p : Program} {loose : List Str} {mg mb : Str → Option Value} {C f f2 : Addr} {n dn : Nat} {rest : List Stmt} {Q : V → List O → Prop} (x : SuperIs prog K C f f2 rest) (X : K.In B) (T : TopRead p loose mg mb B) (h4 : H[n]? = some (.inst C dn))
    (h : CallC prog w B d f2 [.ref n] H fun _ H' => EvS prog w B nmSup d rest [some (.ref n), none, none] H' fun fl _ H' => match fl with | .ret v => Q v H' | .next => Q .none H' | _ => False) :
    CallC prog w B (d + 1) f [.ref n] H Q := by
  obtain ⟨p0, p1, apos, cpos, epos, e2, hline⟩ := x.e2
  obtain ⟨file, hf1, hf2⟩ := Option.map_eq_some_iff.mp x.hfile
  exact call_super X T x.e1 e2 x.e3 x.e4 x.bind x.par x.hcda hf1 hf2 x.hcell x.hC x.hsub x.hsuper hline x.htop boot_super x.hopq x.hm x.ht x.hfn h4 h
/-- a list of zs that the call was given -/
noncomputable def BList (B : Heap) (a : Addr) (zs : List Int) : Prop := ∃ items : List Value, B.IsList a items.toArray ∧ IntsAre items zs
theorem ints_vrs {ρ : List Addr} {h : Heap} : ∀ {items : List Value} {zs : List Int}, IntsAre items zs → VRs ρ h (zs.map .int) items
  | _, _, .nil => .nil
  | _, _, .cons n t r => .cons (.int n t) (ints_vrs r)
theorem vrs_ints {ρ : List Addr} {h : Heap} : ∀ {zs : List Int} {items : List Value}, VRs ρ h (zs.map .int) items → IntsAre items zs
  | [], _, .nil => .nil
  | n :: r, _, .cons (.int _ t) x => .cons n t (vrs_ints x)
theorem ints_len {items : List Value} {zs : List Int} (h : IntsAre items zs) : items.length = zs.length := by
  induction h with
  | nil => rfl
  | cons n t _ ih => simp [ih]
section
variable {prog : Program} {w : World} {B : Heap} {names : Names} {vals : Vals} {d : Nat} {H : List O} {Q : V → List O → Prop}
theorem c_int {i : Int} (q : Q (.int i) H) : CalV prog w B d (.val (.type "int")) [.int i] H Q := by
  refine ⟨_, rfl, fun h _ => keep_type h, fun ρ s xs hs hv A E r => ?_⟩
  cases hv with
  | cons h1 h2 =>
    cases h2; cases h1
    exact call_int_int (fin hs (fun _ _ e => e) (v := .int _) (.int _ _) q)
theorem list_ints {ρ : List Addr} {s : Shared} {n : Nat} {ns : List Int} {x : Value} (hs : HS w.params B ρ H s) (hx : VR ρ s.heap (.ref n) x) (hn : H[n]? = some (.list (ns.map .int))) : ∃ a items, x = .ref a ∧ s.heap.IsList a items.toArray ∧ IntsAre items ns := by
  obtain ⟨a, items, ep, e, _, g1, g2⟩ := list_at hs hx hn
  exact ⟨a, items, e, isList_of g1, vrs_ints g2⟩
theorem w_ne_ints {n m : Nat} {ns ms : List Int} (h1 : H[n]? = some (.list (ns.map .int))) (h2 : H[m]? = some (.list (ms.map .int))) (q : Q (.bool (!decide (ns = ms))) H) : W2 prog w B d (compareOp .NotEq) (.ref n) (.ref m) H Q := by
  intro ρ s x y hs hx hy A E r
  obtain ⟨a, items, rfl, g1, g2⟩ := list_ints hs hx h1
  obtain ⟨b, items', rfl, g3, g4⟩ := list_ints hs hy h2
  exact ne_intsK g1 g2 g3 g4 r.units64 (fin hs (fun _ _ e => e) (.bool _) q)
theorem ev_SliceB {value : PySem.Expr} {lower upper : Option PySem.Expr} {p pos : Pos} {a : Addr} {zs : List Int} (hb : BList B a zs) (hl : zs.length ≤ 1000000)
    (h : EvE prog w B names d value vals H fun v H₁ => v = .val (.ref a) ∧ EvP prog w B names d lower vals H₁ fun l H₂ => EvP prog w B names d upper vals H₂ fun u H₃ => ∃ lo hi, PartV l lo ∧ PartV u hi ∧ Q (.ref H₃.length) (H₃ ++ [.list (pickL (zs.map .int) lo hi)])) :
    EvE prog w B names d (.Subscript value (.Slice lower upper none p) pos) vals H Q := by
  constructor
  intro env ρ s sr A E r
  refine Subscript_ (h.go sr r fun v x H₁ ρ₁ s₁ va sr₁ e₁ ⟨hv, h₁⟩ => ?_)
  subst hv
  cases va
  refine slice_go (step := none) (Q₁ := fun l u st H₃ => st = .none ∧ ∃ lo hi, PartV l lo ∧ PartV u hi ∧ Q (.ref H₃.length) (H₃ ++ [.list (pickL (zs.map .int) lo hi)])) sr₁ r ?_ ?_
  · refine evP_mono h₁ fun l H₂ h₂ => evP_mono h₂ fun u H₃ h₃ => ⟨rfl, h₃⟩
  · rintro l u st x' y z H₃ ρ₃ s₃ vl vu vst sr₃ e₃ ⟨rfl, lo, hi, pl, pu, q⟩ sl hsl
    cases vst
    obtain ⟨items, ⟨o, ho, hc, n, hd⟩, hi'⟩ := hb
    have g1 := sr₃.hs.base _ _ ho
    have l1 := ints_len hi'
    obtain ⟨ops, hops⟩ := subscripted_ops (.Slice lower upper none p) (.ref a) (.ref sl)
    refine tail_any (T := "list") ⟨o, g1, hc⟩ slot_list_getitem.lookup ?_ hops
    refine wpAny_getItem_list_slice ⟨o, g1, hc, n, hd⟩ hsl (pl.is vl) (pu.is vu) .none (by simp) ?_ (by rw [List.size_toArray, sizeLine_eq]; walk_at "om")
    rw [kms_pick_eq]
    obtain ⟨z1, z2, z3⟩ := new_list (ep := 0) sr₃.hs ((ints_vrs (ρ := ρ₃) (h := s₃.heap) hi').pick lo hi)
    exact ⟨.ref H₃.length, _, _, .ref z3, z1, (e₁.trans e₃).trans z2, q⟩
end
noncomputable abbrev prg : Program := PySem.Challenge.pw_sj0105_01
noncomputable abbrev top : List Stmt := prg.main.body
noncomputable def nthS : List Stmt → Nat → Stmt
  | s :: _, 0 => s
  | _ :: r, n + 1 => nthS r n
  | [], _ => .Pass ⟨0, 0, 0, 0⟩
noncomputable def clsBody : Stmt → List Stmt
  | .ClassDef _ _ _ b .. => b
  | _ => []
noncomputable def fnBody : Stmt → List Stmt
  | .FunctionDef _ _ b .. => b
  | _ => []
noncomputable def whileBody : Stmt → List Stmt
  | .While _ b .. => b
  | .For _ _ b .. => b
  | .If _ b .. => b
  | _ => []
noncomputable def ifElse : Stmt → List Stmt
  | .If _ _ e .. => e
  | _ => []
noncomputable abbrev nm_Bank_init : Names := [(Str.ofString "self", .local), (Str.ofString "BOOL", .globalImplicit)]
noncomputable def bd_Bank_init : List Stmt := fnBody (nthS (clsBody (nthS top 28)) 0)
noncomputable abbrev ps_Bank_init : List Str := [Str.ofString "self"]
noncomputable abbrev nm_Bank_declare_fun : Names := [(Str.ofString "self", .local), (Str.ofString "name", .local), (Str.ofString "arg_sorts", .local), (Str.ofString "result", .local), (Str.ofString "tuple", .globalImplicit), (Str.ofString "len", .globalImplicit)]
noncomputable def bd_Bank_declare_fun : List Stmt := fnBody (nthS (clsBody (nthS top 28)) 6)
noncomputable abbrev ps_Bank_declare_fun : List Str := [Str.ofString "self", Str.ofString "name", Str.ofString "arg_sorts", Str.ofString "result"]
noncomputable abbrev nm_Bank_fresh_const : Names := [(Str.ofString "self", .local), (Str.ofString "name", .local), (Str.ofString "s", .local)]
noncomputable def bd_Bank_fresh_const : List Stmt := fnBody (nthS (clsBody (nthS top 28)) 8)
noncomputable abbrev ps_Bank_fresh_const : List Str := [Str.ofString "self", Str.ofString "name", Str.ofString "s"]
noncomputable abbrev nm_Bank_op : Names := [(Str.ofString "self", .local), (Str.ofString "t", .local)]
noncomputable def bd_Bank_op : List Stmt := fnBody (nthS (clsBody (nthS top 28)) 13)
noncomputable abbrev ps_Bank_op : List Str := [Str.ofString "self", Str.ofString "t"]
noncomputable abbrev nm_Bank_args : Names := [(Str.ofString "self", .local), (Str.ofString "t", .local)]
noncomputable def bd_Bank_args : List Stmt := fnBody (nthS (clsBody (nthS top 28)) 14)
noncomputable abbrev ps_Bank_args : List Str := [Str.ofString "self", Str.ofString "t"]
noncomputable abbrev nm_Bank_data : Names := [(Str.ofString "self", .local), (Str.ofString "t", .local)]
noncomputable def bd_Bank_data : List Stmt := fnBody (nthS (clsBody (nthS top 28)) 16)
noncomputable abbrev ps_Bank_data : List Str := [Str.ofString "self", Str.ofString "t"]
noncomputable abbrev nm_Bank_width : Names := [(Str.ofString "self", .local), (Str.ofString "t", .local)]
noncomputable def bd_Bank_width : List Stmt := fnBody (nthS (clsBody (nthS top 28)) 17)
noncomputable abbrev ps_Bank_width : List Str := [Str.ofString "self", Str.ofString "t"]
noncomputable abbrev nm_Bank_make : Names := [(Str.ofString "self", .local), (Str.ofString "op", .local), (Str.ofString "args", .local), (Str.ofString "sort", .local), (Str.ofString "data", .local), (Str.ofString "key", .local), (Str.ofString "found", .local), (Str.ofString "len", .globalImplicit)]
noncomputable def bd_Bank_make : List Stmt := fnBody (nthS (clsBody (nthS top 28)) 19)
noncomputable abbrev ps_Bank_make : List Str := [Str.ofString "self", Str.ofString "op", Str.ofString "args", Str.ofString "sort", Str.ofString "data"]
noncomputable abbrev nm_Bank_want : Names := [(Str.ofString "self", .local), (Str.ofString "t", .local), (Str.ofString "s", .local), (Str.ofString "where", .local), (Str.ofString "SortFault", .globalImplicit)]
noncomputable def bd_Bank_want : List Stmt := fnBody (nthS (clsBody (nthS top 28)) 22)
noncomputable abbrev ps_Bank_want : List Str := [Str.ofString "self", Str.ofString "t", Str.ofString "s", Str.ofString "where"]
noncomputable abbrev nm_Bank_false_term : Names := [(Str.ofString "self", .local)]
noncomputable def bd_Bank_false_term : List Stmt := fnBody (nthS (clsBody (nthS top 28)) 25)
noncomputable abbrev ps_Bank_false_term : List Str := [Str.ofString "self"]
noncomputable abbrev nm_Bank_true_term : Names := [(Str.ofString "self", .local)]
noncomputable def bd_Bank_true_term : List Stmt := fnBody (nthS (clsBody (nthS top 28)) 24)
noncomputable abbrev ps_Bank_true_term : List Str := [Str.ofString "self"]
noncomputable abbrev nm_Bank_bool_term : Names := [(Str.ofString "self", .local), (Str.ofString "holds", .local)]
noncomputable def bd_Bank_bool_term : List Stmt := fnBody (nthS (clsBody (nthS top 28)) 26)
noncomputable abbrev ps_Bank_bool_term : List Str := [Str.ofString "self", Str.ofString "holds"]
noncomputable abbrev nm_BoolBank_not_of : Names := [(Str.ofString "self", .local), (Str.ofString "t", .local), (Str.ofString "BOOL", .globalImplicit)]
noncomputable def bd_BoolBank_not_of : List Stmt := fnBody (nthS (clsBody (nthS top 29)) 0)
noncomputable abbrev ps_BoolBank_not_of : List Str := [Str.ofString "self", Str.ofString "t"]
noncomputable abbrev nm_TermBank_init : Names := [(Str.ofString "self", .local), (Str.ofString "__class__", .free), (Str.ofString "super", .globalImplicit)]
noncomputable def bd_TermBank_init : List Stmt := fnBody (nthS (clsBody (nthS top 32)) 0)
noncomputable abbrev ps_TermBank_init : List Str := [Str.ofString "self"]
noncomputable abbrev nm_TermBank_bv_sort : Names := [(Str.ofString "self", .local), (Str.ofString "width", .local), (Str.ofString "SortFault", .globalImplicit), (Str.ofString "WIDEST", .globalImplicit), (Str.ofString "LimitFault", .globalImplicit), (Str.ofString "len", .globalImplicit)]
noncomputable def bd_TermBank_bv_sort : List Stmt := fnBody (nthS (clsBody (nthS top 32)) 1)
noncomputable abbrev ps_TermBank_bv_sort : List Str := [Str.ofString "self", Str.ofString "width"]
noncomputable abbrev nm_TermBank_want_bits : Names := [(Str.ofString "self", .local), (Str.ofString "t", .local), (Str.ofString "where", .local), (Str.ofString "SortFault", .globalImplicit)]
noncomputable def bd_TermBank_want_bits : List Stmt := fnBody (nthS (clsBody (nthS top 32)) 3)
noncomputable abbrev ps_TermBank_want_bits : List Str := [Str.ofString "self", Str.ofString "t", Str.ofString "where"]
noncomputable abbrev nm_TermBank_bv_num : Names := [(Str.ofString "self", .local), (Str.ofString "value", .local), (Str.ofString "width", .local), (Str.ofString "s", .local)]
noncomputable def bd_TermBank_bv_num : List Stmt := fnBody (nthS (clsBody (nthS top 32)) 4)
noncomputable abbrev ps_TermBank_bv_num : List Str := [Str.ofString "self", Str.ofString "value", Str.ofString "width"]
noncomputable abbrev nm_TermBank_concat : Names := [(Str.ofString "self", .local), (Str.ofString "a", .local), (Str.ofString "b", .local)]
noncomputable def bd_TermBank_concat : List Stmt := fnBody (nthS (clsBody (nthS top 32)) 7)
noncomputable abbrev ps_TermBank_concat : List Str := [Str.ofString "self", Str.ofString "a", Str.ofString "b"]
noncomputable abbrev nm_TermBank_bit : Names := [(Str.ofString "self", .local), (Str.ofString "i", .local), (Str.ofString "t", .local), (Str.ofString "SortFault", .globalImplicit), (Str.ofString "BOOL", .globalImplicit)]
noncomputable def bd_TermBank_bit : List Stmt := fnBody (nthS (clsBody (nthS top 32)) 12)
noncomputable abbrev ps_TermBank_bit : List Str := [Str.ofString "self", Str.ofString "i", Str.ofString "t"]
noncomputable abbrev nm_BoolRewriter_init : Names := [(Str.ofString "self", .local), (Str.ofString "bank", .local)]
noncomputable def bd_BoolRewriter_init : List Stmt := fnBody (nthS (clsBody (nthS top 35)) 0)
noncomputable abbrev ps_BoolRewriter_init : List Str := [Str.ofString "self", Str.ofString "bank"]
noncomputable abbrev nm_BoolRewriter_negated : Names := [(Str.ofString "self", .local), (Str.ofString "t", .local)]
noncomputable def bd_BoolRewriter_negated : List Stmt := fnBody (nthS (clsBody (nthS top 35)) 6)
noncomputable abbrev ps_BoolRewriter_negated : List Str := [Str.ofString "self", Str.ofString "t"]
noncomputable abbrev nm_BitsRewriter_bit_of : Names := [(Str.ofString "self", .local), (Str.ofString "i", .local), (Str.ofString "a", .local), (Str.ofString "many", .local), (Str.ofString "within", .local), (Str.ofString "found", .local), (Str.ofString "lap", .local), (Str.ofString "bit_value", .globalImplicit), (Str.ofString "range", .globalImplicit)]
noncomputable def bd_BitsRewriter_bit_of : List Stmt := fnBody (nthS (clsBody (nthS top 36)) 23)
noncomputable abbrev ps_BitsRewriter_bit_of : List Str := [Str.ofString "self", Str.ofString "i", Str.ofString "a"]
noncomputable abbrev nm_BitsRewriter_bit_within : Names := [(Str.ofString "self", .local), (Str.ofString "i", .local), (Str.ofString "a", .local), (Str.ofString "kind", .local), (Str.ofString "args", .local), (Str.ofString "seam", .local), (Str.ofString "min", .globalImplicit)]
noncomputable def bd_BitsRewriter_bit_within : List Stmt := fnBody (nthS (clsBody (nthS top 36)) 24)
noncomputable abbrev ps_BitsRewriter_bit_within : List Str := [Str.ofString "self", Str.ofString "i", Str.ofString "a"]
noncomputable abbrev nm_bit_value : Names := [(Str.ofString "x", .local), (Str.ofString "i", .local)]
noncomputable def bd_bit_value : List Stmt := fnBody (nthS top 21)
noncomputable abbrev ps_bit_value : List Str := [Str.ofString "x", Str.ofString "i"]
noncomputable abbrev nm_law_next : Names := [(Str.ofString "tin", .local), (Str.ofString "many", .local), (Str.ofString "k", .local), (Str.ofString "len", .globalImplicit)]
noncomputable def bd_law_next : List Stmt := fnBody (nthS top 38)
noncomputable abbrev ps_law_next : List Str := [Str.ofString "tin", Str.ofString "many"]
noncomputable abbrev nm_law_drawn : Names := [(Str.ofString "tin", .local), (Str.ofString "bank", .cell), (Str.ofString "wide", .local), (Str.ofString "is_known", .local), (Str.ofString "value", .cell), (Str.ofString "t", .cell), (Str.ofString "_law_next", .globalImplicit), (Str.ofString "range", .globalImplicit)]
noncomputable def bd_law_drawn : List Stmt := fnBody (nthS top 39)
noncomputable abbrev ps_law_drawn : List Str := [Str.ofString "tin", Str.ofString "bank", Str.ofString "wide", Str.ofString "is_known"]
noncomputable abbrev nm_law_bottom : Names := [(Str.ofString "tin", .local), (Str.ofString "bank", .local), (Str.ofString "wide", .local), (Str.ofString "late", .local), (Str.ofString "number", .local), (Str.ofString "digits", .local), (Str.ofString "unknown", .local), (Str.ofString "truths", .local), (Str.ofString "_law_next", .globalImplicit), (Str.ofString "_law_drawn", .globalImplicit)]
noncomputable def bd_law_bottom : List Stmt := fnBody (nthS top 40)
noncomputable abbrev ps_law_bottom : List Str := [Str.ofString "tin", Str.ofString "bank"]
noncomputable abbrev nm_law_upon : Names := [(Str.ofString "low", .local), (Str.ofString "high", .local), (Str.ofString "found", .local), (Str.ofString "spot", .local), (Str.ofString "is_turned", .local), (Str.ofString "len", .globalImplicit)]
noncomputable def bd_law_upon : List Stmt := fnBody (nthS top 41)
noncomputable abbrev ps_law_upon : List Str := [Str.ofString "low", Str.ofString "high"]
noncomputable abbrev nm_law_often : Names := [(Str.ofString "plan", .local), (Str.ofString "many", .local), (Str.ofString "found", .local), (Str.ofString "twice", .local), (Str.ofString "range", .globalImplicit), (Str.ofString "len", .globalImplicit), (Str.ofString "_law_upon", .globalImplicit)]
noncomputable def bd_law_often : List Stmt := fnBody (nthS top 42)
noncomputable abbrev ps_law_often : List Str := [Str.ofString "plan", Str.ofString "many"]
noncomputable abbrev nm_law_round : Names := [(Str.ofString "tin", .local), (Str.ofString "bank", .local), (Str.ofString "wide", .cell), (Str.ofString "least", .cell), (Str.ofString "cuts", .local), (Str.ofString "_law_next", .globalImplicit), (Str.ofString "range", .globalImplicit)]
noncomputable def bd_law_round : List Stmt := fnBody (nthS top 43)
noncomputable abbrev ps_law_round : List Str := [Str.ofString "tin", Str.ofString "bank", Str.ofString "wide"]
noncomputable abbrev nm_law_widened : Names := [(Str.ofString "tin", .local), (Str.ofString "bank", .local), (Str.ofString "kind", .local), (Str.ofString "wide", .local), (Str.ofString "row", .cell), (Str.ofString "more", .local), (Str.ofString "sort", .local), (Str.ofString "places", .local), (Str.ofString "least", .local), (Str.ofString "one", .local), (Str.ofString "spots", .local), (Str.ofString "aside", .local), (Str.ofString "truths", .local), (Str.ofString "cut", .local), (Str.ofString "_law_next", .globalImplicit), (Str.ofString "list", .globalImplicit), (Str.ofString "range", .globalImplicit), (Str.ofString "_law_drawn", .globalImplicit)]
noncomputable def bd_law_widened : List Stmt := fnBody (nthS top 44)
noncomputable abbrev ps_law_widened : List Str := [Str.ofString "tin", Str.ofString "bank", Str.ofString "kind", Str.ofString "wide", Str.ofString "row"]
noncomputable abbrev nm_law_course : Names := [(Str.ofString "tin", .local), (Str.ofString "bank", .local), (Str.ofString "wide", .local), (Str.ofString "row", .local), (Str.ofString "kinds", .local), (Str.ofString "course", .local), (Str.ofString "levels", .local), (Str.ofString "plan", .local), (Str.ofString "lap", .local), (Str.ofString "kind", .local), (Str.ofString "some", .local), (Str.ofString "step", .local), (Str.ofString "range", .globalImplicit), (Str.ofString "_law_next", .globalImplicit), (Str.ofString "len", .globalImplicit), (Str.ofString "_law_round", .globalImplicit), (Str.ofString "_law_widened", .globalImplicit), (Str.ofString "_law_upon", .globalImplicit)]
noncomputable def bd_law_course : List Stmt := fnBody (nthS top 45)
noncomputable abbrev ps_law_course : List Str := [Str.ofString "tin", Str.ofString "bank", Str.ofString "wide", Str.ofString "row"]
noncomputable abbrev nm_law_grown : Names := [(Str.ofString "bank", .cell), (Str.ofString "t", .cell), (Str.ofString "course", .local), (Str.ofString "rounds", .local), (Str.ofString "lap", .local), (Str.ofString "op", .local), (Str.ofString "before", .local), (Str.ofString "behind", .local), (Str.ofString "sort", .local), (Str.ofString "told", .local), (Str.ofString "range", .globalImplicit), (Str.ofString "tuple", .globalImplicit)]
noncomputable def bd_law_grown : List Stmt := fnBody (nthS top 46)
noncomputable abbrev ps_law_grown : List Str := [Str.ofString "bank", Str.ofString "t", Str.ofString "course", Str.ofString "rounds"]
noncomputable abbrev nm_law_due : Names := [(Str.ofString "bank", .local), (Str.ofString "row", .local), (Str.ofString "source", .local)]
noncomputable def bd_law_due : List Stmt := fnBody (nthS top 47)
noncomputable abbrev ps_law_due : List Str := [Str.ofString "bank", Str.ofString "row", Str.ofString "source"]
noncomputable abbrev nm_law : Names := [(Str.ofString "script", .local), (Str.ofString "tin", .local), (Str.ofString "bank", .local), (Str.ofString "bottom", .local), (Str.ofString "row", .local), (Str.ofString "wide", .cell), (Str.ofString "course", .local), (Str.ofString "levels", .local), (Str.ofString "plan", .local), (Str.ofString "maker", .local), (Str.ofString "few", .local), (Str.ofString "tower", .local), (Str.ofString "sources", .cell), (Str.ofString "place", .local), (Str.ofString "many", .local), (Str.ofString "deep", .local), (Str.ofString "TermBank", .globalImplicit), (Str.ofString "_law_bottom", .globalImplicit), (Str.ofString "len", .globalImplicit), (Str.ofString "_law_course", .globalImplicit), (Str.ofString "BitsRewriter", .globalImplicit), (Str.ofString "_law_next", .globalImplicit), (Str.ofString "_law_grown", .globalImplicit), (Str.ofString "_law_often", .globalImplicit), (Str.ofString "range", .globalImplicit), (Str.ofString "_law_due", .globalImplicit)]
noncomputable def bd_law : List Stmt := fnBody (nthS top 48)
noncomputable abbrev ps_law : List Str := [Str.ofString "script"]
set_option genInjectivity false
set_option genSizeOf false
structure Cx (B : Heap) where
  K : Frag
  X : K.In B
  top : ∃ (p : Program) (loose : List Str) (mg mb : Str → Option Value), TopRead p loose mg mb B
  cTB : Addr
  cBR : Addr
  f_Bank_init : Addr
  f_Bank_declare_fun : Addr
  f_Bank_fresh_const : Addr
  f_Bank_op : Addr
  f_Bank_args : Addr
  f_Bank_data : Addr
  f_Bank_width : Addr
  f_Bank_make : Addr
  f_Bank_want : Addr
  f_Bank_false_term : Addr
  f_Bank_true_term : Addr
  f_Bank_bool_term : Addr
  f_BoolBank_not_of : Addr
  f_TermBank_init : Addr
  f_TermBank_bv_sort : Addr
  f_TermBank_want_bits : Addr
  f_TermBank_bv_num : Addr
  f_TermBank_concat : Addr
  f_TermBank_bit : Addr
  f_BoolRewriter_init : Addr
  f_BoolRewriter_negated : Addr
  f_BitsRewriter_bit_of : Addr
  f_BitsRewriter_bit_within : Addr
  f_bit_value : Addr
  f_law_next : Addr
  f_law_drawn : Addr
  f_law_bottom : Addr
  f_law_upon : Addr
  f_law_often : Addr
  f_law_round : Addr
  f_law_widened : Addr
  f_law_course : Addr
  f_law_grown : Addr
  f_law_due : Addr
  f_law : Addr
  F_Bank_init : FnIs B f_Bank_init ps_Bank_init [] nm_Bank_init bd_Bank_init
  F_Bank_declare_fun : FnIs B f_Bank_declare_fun ps_Bank_declare_fun [] nm_Bank_declare_fun bd_Bank_declare_fun
  F_Bank_fresh_const : FnIs B f_Bank_fresh_const ps_Bank_fresh_const [] nm_Bank_fresh_const bd_Bank_fresh_const
  F_Bank_op : FnIs B f_Bank_op ps_Bank_op [] nm_Bank_op bd_Bank_op
  F_Bank_args : FnIs B f_Bank_args ps_Bank_args [] nm_Bank_args bd_Bank_args
  F_Bank_data : FnIs B f_Bank_data ps_Bank_data [] nm_Bank_data bd_Bank_data
  F_Bank_width : FnIs B f_Bank_width ps_Bank_width [] nm_Bank_width bd_Bank_width
  F_Bank_make : FnIs B f_Bank_make ps_Bank_make [] nm_Bank_make bd_Bank_make
  F_Bank_want : FnIs B f_Bank_want ps_Bank_want [] nm_Bank_want bd_Bank_want
  F_Bank_false_term : FnIs B f_Bank_false_term ps_Bank_false_term [] nm_Bank_false_term bd_Bank_false_term
  F_Bank_true_term : FnIs B f_Bank_true_term ps_Bank_true_term [] nm_Bank_true_term bd_Bank_true_term
  F_Bank_bool_term : FnIs B f_Bank_bool_term ps_Bank_bool_term [] nm_Bank_bool_term bd_Bank_bool_term
  F_BoolBank_not_of : FnIs B f_BoolBank_not_of ps_BoolBank_not_of [] nm_BoolBank_not_of bd_BoolBank_not_of
  F_TermBank_bv_sort : FnIs B f_TermBank_bv_sort ps_TermBank_bv_sort [] nm_TermBank_bv_sort bd_TermBank_bv_sort
  F_TermBank_want_bits : FnIs B f_TermBank_want_bits ps_TermBank_want_bits [] nm_TermBank_want_bits bd_TermBank_want_bits
  F_TermBank_bv_num : FnIs B f_TermBank_bv_num ps_TermBank_bv_num [] nm_TermBank_bv_num bd_TermBank_bv_num
  F_TermBank_concat : FnIs B f_TermBank_concat ps_TermBank_concat [] nm_TermBank_concat bd_TermBank_concat
  F_TermBank_bit : FnIs B f_TermBank_bit ps_TermBank_bit [] nm_TermBank_bit bd_TermBank_bit
  F_BoolRewriter_init : FnIs B f_BoolRewriter_init ps_BoolRewriter_init [] nm_BoolRewriter_init bd_BoolRewriter_init
  F_BoolRewriter_negated : FnIs B f_BoolRewriter_negated ps_BoolRewriter_negated [] nm_BoolRewriter_negated bd_BoolRewriter_negated
  F_BitsRewriter_bit_of : FnIs B f_BitsRewriter_bit_of ps_BitsRewriter_bit_of [] nm_BitsRewriter_bit_of bd_BitsRewriter_bit_of
  F_BitsRewriter_bit_within : FnIs B f_BitsRewriter_bit_within ps_BitsRewriter_bit_within [] nm_BitsRewriter_bit_within bd_BitsRewriter_bit_within
  F_bit_value : FnIs B f_bit_value ps_bit_value [] nm_bit_value bd_bit_value
  F_law_next : FnIs B f_law_next ps_law_next [] nm_law_next bd_law_next
  F_law_drawn : FnIs B f_law_drawn ps_law_drawn [] nm_law_drawn bd_law_drawn
  F_law_bottom : FnIs B f_law_bottom ps_law_bottom [] nm_law_bottom bd_law_bottom
  F_law_upon : FnIs B f_law_upon ps_law_upon [] nm_law_upon bd_law_upon
  F_law_often : FnIs B f_law_often ps_law_often [] nm_law_often bd_law_often
  F_law_round : FnIs B f_law_round ps_law_round [] nm_law_round bd_law_round
  F_law_widened : FnIs B f_law_widened ps_law_widened [] nm_law_widened bd_law_widened
  F_law_course : FnIs B f_law_course ps_law_course [] nm_law_course bd_law_course
  F_law_grown : FnIs B f_law_grown ps_law_grown [] nm_law_grown bd_law_grown
  F_law_due : FnIs B f_law_due ps_law_due [] nm_law_due bd_law_due
  cls_cTB : ClsIs K cTB
  sto_cTB : StoreIs K cTB
  cls_cBR : ClsIs K cBR
  sto_cBR : StoreIs K cBR
  sup : SuperIs prg K cTB f_TermBank_init f_Bank_init bd_TermBank_init.tail
  mak_cTB : MakeIs K cTB f_TermBank_init
  mak_cBR : MakeIs K cBR f_BoolRewriter_init
  M_Bank_declare_fun : MethIs K cTB (Str.ofString "declare_fun") f_Bank_declare_fun
  M_Bank_fresh_const : MethIs K cTB (Str.ofString "fresh_const") f_Bank_fresh_const
  M_Bank_op : MethIs K cTB (Str.ofString "op") f_Bank_op
  M_Bank_args : MethIs K cTB (Str.ofString "args") f_Bank_args
  M_Bank_data : MethIs K cTB (Str.ofString "data") f_Bank_data
  M_Bank_width : MethIs K cTB (Str.ofString "width") f_Bank_width
  M_Bank_make : MethIs K cTB (Str.ofString "make") f_Bank_make
  M_Bank_want : MethIs K cTB (Str.ofString "want") f_Bank_want
  M_Bank_false_term : MethIs K cTB (Str.ofString "false_term") f_Bank_false_term
  M_Bank_true_term : MethIs K cTB (Str.ofString "true_term") f_Bank_true_term
  M_Bank_bool_term : MethIs K cTB (Str.ofString "bool_term") f_Bank_bool_term
  M_BoolBank_not_of : MethIs K cTB (Str.ofString "not_of") f_BoolBank_not_of
  M_TermBank_bv_sort : MethIs K cTB (Str.ofString "bv_sort") f_TermBank_bv_sort
  M_TermBank_want_bits : MethIs K cTB (Str.ofString "want_bits") f_TermBank_want_bits
  M_TermBank_bv_num : MethIs K cTB (Str.ofString "bv_num") f_TermBank_bv_num
  M_TermBank_concat : MethIs K cTB (Str.ofString "concat") f_TermBank_concat
  M_TermBank_bit : MethIs K cTB (Str.ofString "bit") f_TermBank_bit
  M_BoolRewriter_negated : MethIs K cBR (Str.ofString "negated") f_BoolRewriter_negated
  M_BitsRewriter_bit_of : MethIs K cBR (Str.ofString "bit_of") f_BitsRewriter_bit_of
  M_BitsRewriter_bit_within : MethIs K cBR (Str.ofString "bit_within") f_BitsRewriter_bit_within
  A_sort_names : AttrIs K cTB (Str.ofString "sort_names")
  T_sort_names : TakeIs K cTB (Str.ofString "sort_names")
  A_sort_widths : AttrIs K cTB (Str.ofString "sort_widths")
  T_sort_widths : TakeIs K cTB (Str.ofString "sort_widths")
  A_fun_names : AttrIs K cTB (Str.ofString "fun_names")
  T_fun_names : TakeIs K cTB (Str.ofString "fun_names")
  A_fun_args : AttrIs K cTB (Str.ofString "fun_args")
  T_fun_args : TakeIs K cTB (Str.ofString "fun_args")
  A_fun_results : AttrIs K cTB (Str.ofString "fun_results")
  T_fun_results : TakeIs K cTB (Str.ofString "fun_results")
  A_fresh_count : AttrIs K cTB (Str.ofString "fresh_count")
  T_fresh_count : TakeIs K cTB (Str.ofString "fresh_count")
  A_term_ops : AttrIs K cTB (Str.ofString "term_ops")
  T_term_ops : TakeIs K cTB (Str.ofString "term_ops")
  A_term_args : AttrIs K cTB (Str.ofString "term_args")
  T_term_args : TakeIs K cTB (Str.ofString "term_args")
  A_term_sorts : AttrIs K cTB (Str.ofString "term_sorts")
  T_term_sorts : TakeIs K cTB (Str.ofString "term_sorts")
  A_term_datas : AttrIs K cTB (Str.ofString "term_datas")
  T_term_datas : TakeIs K cTB (Str.ofString "term_datas")
  A_numbers : AttrIs K cTB (Str.ofString "numbers")
  T_numbers : TakeIs K cTB (Str.ofString "numbers")
  A_true_number : AttrIs K cTB (Str.ofString "true_number")
  T_true_number : TakeIs K cTB (Str.ofString "true_number")
  A_false_number : AttrIs K cTB (Str.ofString "false_number")
  T_false_number : TakeIs K cTB (Str.ofString "false_number")
  A_bv_numbers : AttrIs K cTB (Str.ofString "bv_numbers")
  T_bv_numbers : TakeIs K cTB (Str.ofString "bv_numbers")
  A_bank : AttrIs K cBR (Str.ofString "bank")
  T_bank : TakeIs K cBR (Str.ofString "bank")
  A_yes : AttrIs K cBR (Str.ofString "yes")
  T_yes : TakeIs K cBR (Str.ofString "yes")
  A_no : AttrIs K cBR (Str.ofString "no")
  T_no : TakeIs K cBR (Str.ofString "no")
  A_known : AttrIs K cBR (Str.ofString "known")
  T_known : TakeIs K cBR (Str.ofString "known")
  G_TermBank : GlobIs B (Str.ofString "TermBank") (.ref cTB)
  G_BitsRewriter : GlobIs B (Str.ofString "BitsRewriter") (.ref cBR)
  G_BOOL : ∃ t, GlobIs B (Str.ofString "BOOL") (.int 0 t)
  G_WIDEST : ∃ t, GlobIs B (Str.ofString "WIDEST") (.int 4096 t)
  G_bit_value : GlobIs B (Str.ofString "bit_value") (.ref f_bit_value)
  G_law_next : GlobIs B (Str.ofString "_law_next") (.ref f_law_next)
  G_law_drawn : GlobIs B (Str.ofString "_law_drawn") (.ref f_law_drawn)
  G_law_bottom : GlobIs B (Str.ofString "_law_bottom") (.ref f_law_bottom)
  G_law_upon : GlobIs B (Str.ofString "_law_upon") (.ref f_law_upon)
  G_law_often : GlobIs B (Str.ofString "_law_often") (.ref f_law_often)
  G_law_round : GlobIs B (Str.ofString "_law_round") (.ref f_law_round)
  G_law_widened : GlobIs B (Str.ofString "_law_widened") (.ref f_law_widened)
  G_law_course : GlobIs B (Str.ofString "_law_course") (.ref f_law_course)
  G_law_grown : GlobIs B (Str.ofString "_law_grown") (.ref f_law_grown)
  G_law_due : GlobIs B (Str.ofString "_law_due") (.ref f_law_due)
  U_len : BuiltIs B (Str.ofString "len") (.builtin "len")
  U_range : BuiltIs B (Str.ofString "range") (.type "range")
  U_tuple : BuiltIs B (Str.ofString "tuple") (.type "tuple")
  U_list : BuiltIs B (Str.ofString "list") (.type "list")
  U_min : BuiltIs B (Str.ofString "min") (.builtin "min")
  U_int : BuiltIs B (Str.ofString "int") (.type "int")
  U_super : BuiltIs B (Str.ofString "super") (.type "super")
set_option genInjectivity true
set_option genSizeOf true
local macro_rules | `(tactic| walk_at "look") => `(tactic| first | exact Look.here | (apply Look.there; walk_at "look"))
local macro_rules | `(tactic| walk_at "put") => `(tactic| first | exact Put.here | (apply Put.there; walk_at "put"))
local macro_rules | `(tactic| walk_at "has") => `(tactic| first | exact Has.here | (apply Has.there; walk_at "has"))
local macro_rules | `(tactic| walk_at "flook") => `(tactic| first | exact FLook.here | (apply FLook.there; walk_at "flook"))
local macro_rules | `(tactic| walk_at "vals") => `(tactic| dsimp only [vals0, List.map_cons, List.map_nil, List.cons_append, List.nil_append, List.append_nil, List.length_cons, List.length_nil, List.replicate, Nat.reduceAdd, Nat.reduceSub, List.map])
/-- a local name is read -/
local macro_rules | `(tactic| walk_at "loc") => `(tactic| (refine ev_local (by with_reducible walk_at "look") (by first | exact .inl rfl | exact .inr (.inl rfl) | exact .inr (.inr rfl)) ?_))
/-- a name is bound -/
local macro_rules | `(tactic| walk_at "asg") => `(tactic| (refine ⟨_, _, by with_reducible walk_at "put", by first | exact .inl rfl | exact .inr rfl, ?_⟩))
/-- what stands in the heap -/
local macro_rules | `(tactic| walk_at "hk") => `(tactic| first | assumption | (apply set_ne <;> first | decide | walk_at "hk") | (apply set_eq; walk_at "hk"))
/-- the object of an attribute, a local name -/
local macro_rules | `(tactic| walk_at "obj") => `(tactic| (walk_at "loc"; refine ⟨rfl, rfl, ?_⟩))
/-- the names of a comprehension -/
local macro_rules | `(tactic| walk_at "rel") => `(tactic| first | exact Relab.nil | (apply Relab.same (by first | exact .inl rfl | exact .inr rfl); walk_at "rel") | (apply Relab.cell (by walk_at "has"); walk_at "rel"))
local macro_rules | `(tactic| walk_at "cv") => `(tactic| first | exact CompV.nil | (apply CompV.take (by walk_at "look"); walk_at "cv") | (apply CompV.skip; walk_at "cv"))
local macro_rules | `(tactic| walk_at "putn") => `(tactic| first | exact PutN.here | (apply PutN.there; walk_at "putn"))

/-- a term of the bank -/
structure T where
  op : Str
  args : List Int
  sort : Int
  data : KI
  deriving DecidableEq
noncomputable def T.key (x : T) : List KI := [.s x.op, .t x.args, .i x.sort, x.data]
noncomputable def numsFrom : Nat → List T → List (List KI × V)
  | _, [] => []
  | n, x :: r => (x.key, .int n) :: numsFrom (n + 1) r
structure Bk where
  names : List V
  widths : List Int
  f1 : List V
  f2 : List V
  f3 : List V
  terms : List T
  bv : List (Int × V)
noncomputable def bankPart (β : Bk) : List O := [.list β.names, .list (β.widths.map .int), .list β.f1, .list β.f2, .list β.f3, .list (β.terms.map fun x => .str x.op), .list (β.terms.map fun x => .tup (x.args.map .int)), .list (β.terms.map fun x => .int x.sort),
  .list (β.terms.map fun x => x.data.v), .kdict (numsFrom 1 β.terms.tail), .idict β.bv]
structure BankAt (C : Addr) (fs : List (Str × V)) (β : Bk) (H : List O) : Prop where
  h3 : H[3]? = some (.ns fs)
  h4 : H[4]? = some (.inst C 3)
  h5 : H[5]? = some (.list β.names)
  h6 : H[6]? = some (.list (β.widths.map .int))
  h7 : H[7]? = some (.list β.f1)
  h8 : H[8]? = some (.list β.f2)
  h9 : H[9]? = some (.list β.f3)
  h10 : H[10]? = some (.list (β.terms.map fun x => .str x.op))
  h11 : H[11]? = some (.list (β.terms.map fun x => .tup (x.args.map .int)))
  h12 : H[12]? = some (.list (β.terms.map fun x => .int x.sort))
  h13 : H[13]? = some (.list (β.terms.map fun x => x.data.v))
  h14 : H[14]? = some (.kdict (numsFrom 1 β.terms.tail))
  h15 : H[15]? = some (.idict β.bv)
/-- the same, ahead of the last dict -/
structure BankPre (C : Addr) (fs : List (Str × V)) (β : Bk) (H : List O) : Prop where
  h3 : H[3]? = some (.ns fs)
  h4 : H[4]? = some (.inst C 3)
  h5 : H[5]? = some (.list β.names)
  h6 : H[6]? = some (.list (β.widths.map .int))
  h7 : H[7]? = some (.list β.f1)
  h8 : H[8]? = some (.list β.f2)
  h9 : H[9]? = some (.list β.f3)
  h10 : H[10]? = some (.list (β.terms.map fun x => .str x.op))
  h11 : H[11]? = some (.list (β.terms.map fun x => .tup (x.args.map .int)))
  h12 : H[12]? = some (.list (β.terms.map fun x => .int x.sort))
  h13 : H[13]? = some (.list (β.terms.map fun x => x.data.v))
  h14 : H[14]? = some (.kdict (numsFrom 1 β.terms.tail))
theorem BankAt.pre {C : Addr} {fs : List (Str × V)} {β : Bk} {H : List O} (b : BankAt C fs β H) : BankPre C fs β H := ⟨b.h3, b.h4, b.h5, b.h6, b.h7, b.h8, b.h9, b.h10, b.h11, b.h12, b.h13, b.h14⟩
theorem BankPre.full {C : Addr} {fs : List (Str × V)} {β : Bk} {H : List O} (b : BankPre C fs β H) (h : H[15]? = some (.idict β.bv)) : BankAt C fs β H := ⟨b.h3, b.h4, b.h5, b.h6, b.h7, b.h8, b.h9, b.h10, b.h11, b.h12, b.h13, b.h14, h⟩
structure KeepM (H H' : List O) : Prop where
  len : H'.length = H.length
  at_ : ∀ i, (i < 10 ∨ 14 < i) → ∀ o, H[i]? = some o → H'[i]? = some o
theorem KeepM.refl (H : List O) : KeepM H H := ⟨rfl, fun _ _ _ e => e⟩
theorem KeepM.trans {H H' H'' : List O} (x : KeepM H H') (y : KeepM H' H'') : KeepM H H'' := ⟨y.len.trans x.len, fun i h o e => y.at_ i h o (x.at_ i h o e)⟩
theorem KeepM.set {H : List O} {i : Nat} {x : O} (h : 10 ≤ i ∧ i ≤ 14) : KeepM H (H.set i x) := ⟨by simp, fun j hj o e => set_ne e (by walk_at "om")⟩
structure Keep (H H' : List O) : Prop where
  len : H.length ≤ H'.length
  at_ : ∀ i, (i < 5 ∨ 15 < i) → ∀ o, H[i]? = some o → H'[i]? = some o
theorem Keep.refl (H : List O) : Keep H H := ⟨Nat.le_refl _, fun _ _ _ e => e⟩
theorem Keep.trans {H H' H'' : List O} (x : Keep H H') (y : Keep H' H'') : Keep H H'' := ⟨Nat.le_trans x.len y.len, fun i h o e => y.at_ i h o (x.at_ i h o e)⟩
theorem Keep.set {H : List O} {i : Nat} {x : O} (h : 5 ≤ i ∧ i ≤ 15) : Keep H (H.set i x) := ⟨by simp, fun j hj o e => set_ne e (by walk_at "om")⟩
theorem keys_ne (x y : T) (h : x.key = y.key) : x = y := by
  cases x; cases y
  simp only [T.key, List.cons.injEq, KI.s.injEq, KI.t.injEq, KI.i.injEq, and_true] at h
  obtain ⟨rfl, rfl, rfl, rfl⟩ := h
  rfl
theorem dget_cons {K : Type} [DecidableEq K] (k k' : K) (v : V) (r : List (K × V)) : dget ((k', v) :: r) k = if k' = k then some v else dget r k := by
  unfold dget
  by_cases h : k' = k <;> simp [h]
theorem nums_get (x : T) : ∀ (l : List T) (n : Nat), (∃ i, l[i]? = some x ∧ dget (numsFrom n l) x.key = some (.int ((n + i : Nat) : Int))) ∨ (x ∉ l ∧ dget (numsFrom n l) x.key = none)
  | [], n => .inr ⟨by simp, rfl⟩
  | y :: l, n => by
    rw [numsFrom, dget_cons]
    by_cases h : y = x
    · subst h
      exact .inl ⟨0, rfl, by simp⟩
    · have hk : y.key ≠ x.key := fun e => h (keys_ne _ _ e)
      rw [if_neg hk]
      rcases nums_get x l (n + 1) with ⟨i, e1, e2⟩ | ⟨e1, e2⟩
      · exact .inl ⟨i + 1, by simpa using e1, by rw [e2]; congr 2; walk_at "om"⟩
      · exact .inr ⟨by simp [e1, Ne.symm h], e2⟩
theorem nums_snoc (x : T) : ∀ (l : List T) (n : Nat), numsFrom n (l ++ [x]) = numsFrom n l ++ [(x.key, .int ((n + l.length : Nat) : Int))]
  | [], n => by simp [numsFrom]
  | y :: l, n => by
    rw [List.cons_append, numsFrom, numsFrom, nums_snoc x l (n + 1)]
    simp; walk_at "om"
theorem nums_len : ∀ (l : List T) (n : Nat), (numsFrom n l).length = l.length
  | [], _ => rfl
  | _ :: l, n => by rw [numsFrom, List.length_cons, List.length_cons, nums_len l]
noncomputable def Bk.add (β : Bk) (x : T) : Bk := { β with terms := β.terms ++ [x] }
/-- what make gives back -/
inductive Mk (β : Bk) (x : T) : Nat → Bk → Prop
  | old {t : Nat} : 1 ≤ t → β.terms[t]? = some x → Mk β x t β
  | new : x ∉ β.terms.tail → Mk β x β.terms.length (β.add x)
structure BkOk (β : Bk) : Prop where
  pos : 1 ≤ β.terms.length
  nod : β.terms.tail.Nodup
  wl : β.widths.length = β.names.length
  bv : ∀ wd v, dget β.bv wd = some v → ∃ s : Nat, v = .int s ∧ β.widths[s]? = some wd
  bl : β.bv.length ≤ β.widths.length
theorem Mk.at {β β' : Bk} {x : T} {t : Nat} (m : Mk β x t β') : β'.terms[t]? = some x := by
  cases m with
  | old _ h => exact h
  | new _ => show (β.terms ++ [x])[β.terms.length]? = _; rw [List.getElem?_append_right (Nat.le_refl _), Nat.sub_self]; rfl
theorem tail_snoc {α : Type} {l : List α} (h : 1 ≤ l.length) (x : α) : (l ++ [x]).tail = l.tail ++ [x] := by
  cases l with
  | nil => simp at h
  | cons a r => rfl
/-- the bank grows by so many terms and sorts -/
structure Grow (β β' : Bk) (a b : Nat) : Prop where
  terms : ∃ l, β'.terms = β.terms ++ l ∧ l.length ≤ a
  widths : ∃ l, β'.widths = β.widths ++ l ∧ l.length ≤ b
  fns : β'.f1.length ≤ β.f1.length + b ∧ β'.f2.length ≤ β.f2.length + b ∧ β'.f3.length ≤ β.f3.length + b
  ok : BkOk β → BkOk β'
theorem Grow.refl (β : Bk) : Grow β β 0 0 := ⟨⟨[], by simp⟩, ⟨[], by simp⟩, by walk_at "om", id⟩
theorem Grow.trans {β β' β'' : Bk} {a b a' b' : Nat} (x : Grow β β' a b) (y : Grow β' β'' a' b') : Grow β β'' (a + a') (b + b') := by
  obtain ⟨l, e, hl⟩ := x.terms
  obtain ⟨l', e', hl'⟩ := y.terms
  obtain ⟨m, f, hm⟩ := x.widths
  obtain ⟨m', f', hm'⟩ := y.widths
  have := x.fns
  have := y.fns
  exact ⟨⟨l ++ l', by rw [e', e, List.append_assoc], by simp; walk_at "om"⟩, ⟨m ++ m', by rw [f', f, List.append_assoc], by simp; walk_at "om"⟩, by walk_at "om", fun o => y.ok (x.ok o)⟩
theorem Grow.mono {β β' : Bk} {a b a' b' : Nat} (x : Grow β β' a b) (h : a ≤ a') (h' : b ≤ b') : Grow β β' a' b' := by
  obtain ⟨l, e, hl⟩ := x.terms
  obtain ⟨m, f, hm⟩ := x.widths
  have := x.fns
  exact ⟨⟨l, e, by walk_at "om"⟩, ⟨m, f, by walk_at "om"⟩, by walk_at "om", x.ok⟩
theorem Grow.at {β β' : Bk} {a b t : Nat} {x : T} (g : Grow β β' a b) (h : β.terms[t]? = some x) : β'.terms[t]? = some x := by
  obtain ⟨l, e, _⟩ := g.terms
  rw [e, List.getElem?_append_left (List.getElem?_eq_some_iff.mp h).1]; exact h
theorem Grow.wd {β β' : Bk} {a b s : Nat} {x : Int} (g : Grow β β' a b) (h : β.widths[s]? = some x) : β'.widths[s]? = some x := by
  obtain ⟨l, e, _⟩ := g.widths
  rw [e, List.getElem?_append_left (List.getElem?_eq_some_iff.mp h).1]; exact h
theorem Grow.tl {β β' : Bk} {a b : Nat} (g : Grow β β' a b) : β'.terms.length ≤ β.terms.length + a ∧ β.terms.length ≤ β'.terms.length := by
  obtain ⟨l, e, h⟩ := g.terms
  rw [e, List.length_append]; walk_at "om"
theorem Grow.wl {β β' : Bk} {a b : Nat} (g : Grow β β' a b) : β'.widths.length ≤ β.widths.length + b ∧ β.widths.length ≤ β'.widths.length := by
  obtain ⟨l, e, h⟩ := g.widths
  rw [e, List.length_append]; walk_at "om"
theorem Mk.grow {β β' : Bk} {x : T} {t : Nat} (m : Mk β x t β') : Grow β β' 1 0 := by
  cases m with
  | old _ h => exact (Grow.refl β).mono (by walk_at "om") (by walk_at "om")
  | new h =>
    refine ⟨⟨[x], rfl, by simp⟩, ⟨[], by simp [Bk.add]⟩, by simp [Bk.add], fun o => ⟨?_, ?_, o.wl, o.bv, o.bl⟩⟩
    · show 1 ≤ (β.terms ++ [x]).length; simp
    · show (β.terms ++ [x]).tail.Nodup
      rw [tail_snoc o.pos, List.nodup_append]
      exact ⟨o.nod, by simp, fun a ha b hb => by simp at hb; subst hb; exact fun e => h (e ▸ ha)⟩
theorem Mk.pos {β β' : Bk} {x : T} {t : Nat} (m : Mk β x t β') (o : BkOk β) : 1 ≤ t := by
  cases m with
  | old h _ => exact h
  | new _ => exact o.pos
/-- a term has one number -/
theorem BkOk.one {β : Bk} (o : BkOk β) {t u : Nat} {x : T} (ht : 1 ≤ t) (hu : 1 ≤ u) (h1 : β.terms[t]? = some x) (h2 : β.terms[u]? = some x) : t = u := by
  obtain ⟨t, rfl⟩ : ∃ t', t = t' + 1 := ⟨t - 1, by walk_at "om"⟩
  obtain ⟨u, rfl⟩ : ∃ u', u = u' + 1 := ⟨u - 1, by walk_at "om"⟩
  rw [← List.getElem?_tail] at h1 h2
  have := (List.getElem?_inj (List.getElem?_eq_some_iff.mp h1).1 o.nod).mp (h1.trans h2.symm)
  walk_at "om"

section
variable {w : World} {B : Heap} {d : Nat} {H : List O} {Q : V → List O → Prop} {fs : List (Str × V)} {β : Bk}

/-- the bank's fields that make reads -/
structure MkNs (fs : List (Str × V)) : Prop where
  numbers : FLook fs (Str.ofString "numbers") (.ref 14)
  ops : FLook fs (Str.ofString "term_ops") (.ref 10)
  args : FLook fs (Str.ofString "term_args") (.ref 11)
  sorts : FLook fs (Str.ofString "term_sorts") (.ref 12)
  datas : FLook fs (Str.ofString "term_datas") (.ref 13)

theorem make_pre (c : Cx B) (b : BankPre c.cTB fs β H) (ns : MkNs fs) (ok : BkOk β) (hl : β.terms.length ≤ 400000) (x : T) (hx : keyOk x.key = true)
    (q : ∀ t β' H', Mk β x t β' → BankPre c.cTB fs β' H' → KeepM H H' → Q (.int (t : Int)) H') :
    CallC prg w B (d + 1) c.f_Bank_make [.ref 4, .str x.op, .tup (x.args.map .int), .int x.sort, x.data.v] H Q := by
  have b' := b
  obtain ⟨h3, h4, h5, h6, h7, h8, h9, h10, h11, h12, h13, h14⟩ := b'
  refine call_def c.F_Bank_make rfl ?_
  walk_at "vals"
  -- key
  refine evS_cons (ev1_Assign (fun _ => rfl) (ev_Tuple rfl (by decide) ?_))
  walk_at "loc"; walk_at "loc"; walk_at "loc"; walk_at "loc"
  refine ⟨by simp, ?_⟩
  walk_at "asg"
  -- found
  refine evS_cons (ev1_Assign (fun _ => rfl) (ev_CallMeth rfl rfl (by decide) rfl (ev_At (n := 4) (dn := 3) c.X rfl c.cls_cTB h4 h3 c.A_numbers ns.numbers rfl ?_)))
  walk_at "obj"
  refine ⟨_, _, methV_dict PySem.F.slot_dict_get PySem.F.type_dict_get h14, ?_⟩
  walk_at "loc"
  refine ev_int (c_get_kdict (k := x.key) hx h14 ?_)
  rcases nums_get x β.terms.tail 1 with ⟨i, e1, e2⟩ | ⟨e1, e2⟩
  · rw [e2]
    walk_at "asg"
    refine evS_cons (ev1_If (evT_Cmp rfl ?_))
    walk_at "loc"
    refine ev_int (w_eq ⟨_, rfl, fun h => ?_, fun h => ?_⟩)
    · simp at h; walk_at "om"
    · refine evS_nil (evS_cons (ev1_Return ?_))
      walk_at "loc"
      refine q (1 + i) β H (.old (by walk_at "om") ?_) b (.refl _)
      rw [List.getElem?_tail] at e1
      rw [Nat.add_comm]; exact e1
  · rw [e2]
    walk_at "asg"
    refine evS_cons (ev1_If (evT_Cmp rfl ?_))
    walk_at "loc"
    refine ev_int (w_eq ⟨_, rfl, fun h => ?_, fun h => ?_⟩)
    · refine evS_cons (ev1_Assign (fun _ => rfl) (ev_CallName rfl (ev_built (by with_reducible walk_at "has") c.U_len ⟨⟨_, rfl⟩, ev_At (n := 4) (dn := 3) c.X rfl c.cls_cTB h4 h3 c.A_term_ops ns.ops rfl ?_⟩)))
      walk_at "obj"
      refine c_len_list h10 (by simp; walk_at "om") ?_
      walk_at "asg"
      -- four times append
      refine evS_cons (ev1_Expr (fun _ => rfl) (ev_LMeth (n := 10) slot_list_append type_list_append rfl rfl (by decide) rfl (by walk_at "hk") (ev_At (n := 4) (dn := 3) c.X rfl c.cls_cTB (by walk_at "hk") (by walk_at "hk") c.A_term_ops ns.ops rfl ?_)))
      walk_at "obj"
      refine ⟨rfl, rfl, ?_⟩
      walk_at "loc"
      refine c_append h10 (by simp; walk_at "om") ?_
      refine evS_cons (ev1_Expr (fun _ => rfl) (ev_LMeth (n := 11) slot_list_append type_list_append rfl rfl (by decide) rfl (by walk_at "hk") (ev_At (n := 4) (dn := 3) c.X rfl c.cls_cTB (by walk_at "hk") (by walk_at "hk") c.A_term_args ns.args rfl ?_)))
      walk_at "obj"
      refine ⟨rfl, rfl, ?_⟩
      walk_at "loc"
      refine c_append (by walk_at "hk") (by simp; walk_at "om") ?_
      refine evS_cons (ev1_Expr (fun _ => rfl) (ev_LMeth (n := 12) slot_list_append type_list_append rfl rfl (by decide) rfl (by walk_at "hk") (ev_At (n := 4) (dn := 3) c.X rfl c.cls_cTB (by walk_at "hk") (by walk_at "hk") c.A_term_sorts ns.sorts rfl ?_)))
      walk_at "obj"
      refine ⟨rfl, rfl, ?_⟩
      walk_at "loc"
      refine c_append (by walk_at "hk") (by simp; walk_at "om") ?_
      refine evS_cons (ev1_Expr (fun _ => rfl) (ev_LMeth (n := 13) slot_list_append type_list_append rfl rfl (by decide) rfl (by walk_at "hk") (ev_At (n := 4) (dn := 3) c.X rfl c.cls_cTB (by walk_at "hk") (by walk_at "hk") c.A_term_datas ns.datas rfl ?_)))
      walk_at "obj"
      refine ⟨rfl, rfl, ?_⟩
      walk_at "loc"
      refine c_append (by walk_at "hk") (by simp; walk_at "om") ?_
      -- the number
      refine evS_cons (ev1_AssignSub (fun _ => rfl) ?_)
      walk_at "loc"
      refine ev_At (n := 4) (dn := 3) c.X rfl c.cls_cTB (by walk_at "hk") (by walk_at "hk") c.A_numbers ns.numbers rfl ?_
      walk_at "obj"
      walk_at "loc"
      refine s_kdict (k := x.key) hx (by walk_at "hk") (by rw [nums_len]; simp; walk_at "om") ?_
      refine evS_nil (evS_cons (ev1_Return ?_))
      walk_at "loc"
      have ln : (List.map (fun x : T => V.str x.op) β.terms).length = β.terms.length := by simp
      rw [ln]
      have hp := ok.pos
      have ek : dput (numsFrom 1 β.terms.tail) x.key (.int (β.terms.length : Int)) = numsFrom 1 (β.terms ++ [x]).tail := by
        have et := tail_snoc hp x
        rw [et, nums_snoc, dput, if_neg]
        · congr 3; simp; walk_at "om"
        · intro ha
          obtain ⟨kv, hm, hk⟩ := List.any_eq_true.mp ha
          have : (dget (numsFrom 1 β.terms.tail) x.key).isSome = true := by
            unfold dget
            rw [Option.isSome_map, List.find?_isSome]
            exact ⟨kv, hm, hk⟩
          rw [e2] at this; cases this
      refine q _ (β.add x) _ (.new e1) ⟨by walk_at "hk", by walk_at "hk", by walk_at "hk", by walk_at "hk", by walk_at "hk", by walk_at "hk", by walk_at "hk", ?_, ?_, ?_, ?_, ?_⟩ (((((KeepM.set (by decide)).trans (.set (by decide))).trans (.set (by decide))).trans (.set (by decide))).trans (.set (by decide)))
      · rw [show (β.add x).terms = β.terms ++ [x] from rfl, List.map_append]; walk_at "hk"
      · rw [show (β.add x).terms = β.terms ++ [x] from rfl, List.map_append]; walk_at "hk"
      · rw [show (β.add x).terms = β.terms ++ [x] from rfl, List.map_append]; walk_at "hk"
      · rw [show (β.add x).terms = β.terms ++ [x] from rfl, List.map_append]; walk_at "hk"
      · rw [show (β.add x).terms = β.terms ++ [x] from rfl, ← ek]; walk_at "hk"
    · cases h
theorem make_spec (c : Cx B) (b : BankAt c.cTB fs β H) (ns : MkNs fs) (ok : BkOk β) (hl : β.terms.length ≤ 400000) (x : T) (hx : keyOk x.key = true)
    (q : ∀ t β' H', Mk β x t β' → BankAt c.cTB fs β' H' → Keep H H' → Q (.int (t : Int)) H') :
    CallC prg w B (d + 1) c.f_Bank_make [.ref 4, .str x.op, .tup (x.args.map .int), .int x.sort, x.data.v] H Q := by
  refine make_pre c b.pre ns ok hl x hx fun t β' H' m b' kp => q t β' H' m (b'.full ?_) ⟨Nat.le_of_eq kp.len.symm, fun i hi o e => kp.at_ i (by walk_at "om") o e⟩
  have e : β'.bv = β.bv := by cases m <;> rfl
  rw [e]
  exact kp.at_ _ (.inr (by decide)) _ b.h15
end

noncomputable abbrev fsB : List (Str × V) := [(Str.ofString "sort_names", .ref 5), (Str.ofString "sort_widths", .ref 6), (Str.ofString "fun_names", .ref 7), (Str.ofString "fun_args", .ref 8), (Str.ofString "fun_results", .ref 9), (Str.ofString "fresh_count", .int 0),
  (Str.ofString "term_ops", .ref 10), (Str.ofString "term_args", .ref 11), (Str.ofString "term_sorts", .ref 12), (Str.ofString "term_datas", .ref 13), (Str.ofString "numbers", .ref 14), (Str.ofString "true_number", .int 1), (Str.ofString "false_number", .int 2), (Str.ofString "bv_numbers", .ref 15)]
theorem mkNsB : MkNs fsB := by constructor <;> with_reducible walk_at "flook"
noncomputable def bnames : List Str := fsB.map (·.1)
theorem na_make : Str.ofString "make" ∉ fsB.map (·.1) := by decide +kernel
theorem na_op : Str.ofString "op" ∉ fsB.map (·.1) := by decide +kernel
theorem na_args : Str.ofString "args" ∉ fsB.map (·.1) := by decide +kernel
theorem na_data : Str.ofString "data" ∉ fsB.map (·.1) := by decide +kernel
theorem na_width : Str.ofString "width" ∉ fsB.map (·.1) := by decide +kernel
theorem na_want : Str.ofString "want" ∉ fsB.map (·.1) := by decide +kernel
theorem na_want_bits : Str.ofString "want_bits" ∉ fsB.map (·.1) := by decide +kernel
theorem na_bv_sort : Str.ofString "bv_sort" ∉ fsB.map (·.1) := by decide +kernel
theorem na_bv_num : Str.ofString "bv_num" ∉ fsB.map (·.1) := by decide +kernel
theorem na_declare_fun : Str.ofString "declare_fun" ∉ fsB.map (·.1) := by decide +kernel
theorem na_fresh_const : Str.ofString "fresh_const" ∉ fsB.map (·.1) := by decide +kernel
theorem na_true_term : Str.ofString "true_term" ∉ fsB.map (·.1) := by decide +kernel
theorem na_false_term : Str.ofString "false_term" ∉ fsB.map (·.1) := by decide +kernel
theorem na_bool_term : Str.ofString "bool_term" ∉ fsB.map (·.1) := by decide +kernel
theorem na_not_of : Str.ofString "not_of" ∉ fsB.map (·.1) := by decide +kernel
theorem na_concat : Str.ofString "concat" ∉ fsB.map (·.1) := by decide +kernel
theorem na_bit : Str.ofString "bit" ∉ fsB.map (·.1) := by decide +kernel
theorem key_ok (x : T) (h1 : PyData.strOk x.op = true) (h2 : x.data.ok = true) : keyOk x.key = true := by simp [T.key, keyOk, KI.ok, h1] at h2 ⊢; exact h2
theorem ok_app : PyData.strOk (Str.ofString "app") = true := by decide +kernel
theorem ok_bvnum : PyData.strOk (Str.ofString "bvnum") = true := by decide +kernel
theorem ok_concat : PyData.strOk (Str.ofString "concat") = true := by decide +kernel
theorem ok_bit : PyData.strOk (Str.ofString "bit") = true := by decide +kernel
theorem ok_not : PyData.strOk (Str.ofString "not") = true := by decide +kernel
theorem ok_extract : PyData.strOk (Str.ofString "extract") = true := by decide +kernel
theorem ok_zero_extend : PyData.strOk (Str.ofString "zero_extend") = true := by decide +kernel
theorem ok_sign_extend : PyData.strOk (Str.ofString "sign_extend") = true := by decide +kernel
theorem ok_bvnot : PyData.strOk (Str.ofString "bvnot") = true := by decide +kernel
theorem ok_true : PyData.strOk (Str.ofString "true") = true := by decide +kernel
theorem ok_false : PyData.strOk (Str.ofString "false") = true := by decide +kernel
theorem tn (t : Nat) : ((t : Int).toNat) = t := Int.toNat_natCast t
theorem term_at {β : Bk} {t : Nat} {x : T} (h : β.terms[t]? = some x) {α : Type} (f : T → α) : (β.terms.map f)[((t : Int)).toNat]? = some (f x) := by rw [tn, List.getElem?_map, h]; rfl
theorem term_lt {β : Bk} {t : Nat} {x : T} (h : β.terms[t]? = some x) (hl : β.terms.length ≤ 400000) : (t : Int) < 2 ^ 63 := by
  have := (List.getElem?_eq_some_iff.mp h).1; walk_at "om"

section
variable {w : World} {B : Heap} {d : Nat} {H : List O} {Q : V → List O → Prop} {β : Bk}

theorem op_spec (c : Cx B) (b : BankAt c.cTB fsB β H) (hl : β.terms.length ≤ 400000) {t : Nat} {x : T} (ht : β.terms[t]? = some x) (q : Q (.str x.op) H) : CallC prg w B (d + 1) c.f_Bank_op [.ref 4, .int (t : Int)] H Q := by
  refine call_def c.F_Bank_op rfl ?_
  walk_at "vals"
  refine evS_cons (ev1_Return (ev_Sub (ev_At c.X rfl c.cls_cTB b.h4 b.h3 c.A_term_ops (by with_reducible walk_at "flook") rfl ?_)))
  walk_at "obj"
  walk_at "loc"
  exact i_list b.h10 (by walk_at "om") (term_lt ht hl) (term_at ht _) q
theorem args_spec (c : Cx B) (b : BankAt c.cTB fsB β H) (hl : β.terms.length ≤ 400000) {t : Nat} {x : T} (ht : β.terms[t]? = some x) (q : Q (.tup (x.args.map .int)) H) : CallC prg w B (d + 1) c.f_Bank_args [.ref 4, .int (t : Int)] H Q := by
  refine call_def c.F_Bank_args rfl ?_
  walk_at "vals"
  refine evS_cons (ev1_Return (ev_Sub (ev_At c.X rfl c.cls_cTB b.h4 b.h3 c.A_term_args (by with_reducible walk_at "flook") rfl ?_)))
  walk_at "obj"
  walk_at "loc"
  exact i_list b.h11 (by walk_at "om") (term_lt ht hl) (term_at ht _) q
theorem data_spec (c : Cx B) (b : BankAt c.cTB fsB β H) (hl : β.terms.length ≤ 400000) {t : Nat} {x : T} (ht : β.terms[t]? = some x) (q : Q x.data.v H) : CallC prg w B (d + 1) c.f_Bank_data [.ref 4, .int (t : Int)] H Q := by
  refine call_def c.F_Bank_data rfl ?_
  walk_at "vals"
  refine evS_cons (ev1_Return (ev_Sub (ev_At c.X rfl c.cls_cTB b.h4 b.h3 c.A_term_datas (by with_reducible walk_at "flook") rfl ?_)))
  walk_at "obj"
  walk_at "loc"
  exact i_list b.h13 (by walk_at "om") (term_lt ht hl) (term_at ht _) q
/-- a term's sort and its width -/
structure HasW (β : Bk) (x : T) (wd : Int) : Prop where
  ex : ∃ s : Nat, x.sort = s ∧ β.widths[s]? = some wd
theorem HasW.grow {β β' : Bk} {x : T} {wd : Int} {a b : Nat} (h : HasW β x wd) (g : Grow β β' a b) : HasW β' x wd := let ⟨s, e, h⟩ := h.ex; ⟨s, e, g.wd h⟩
theorem width_spec (c : Cx B) (b : BankAt c.cTB fsB β H) (hl : β.terms.length ≤ 400000) (hw : β.widths.length ≤ 100000) {t : Nat} {x : T} {wd : Int} (ht : β.terms[t]? = some x) (hx : HasW β x wd) (q : Q (.int wd) H) : CallC prg w B (d + 1) c.f_Bank_width [.ref 4, .int (t : Int)] H Q := by
  obtain ⟨s, e, hs⟩ := hx.ex
  refine call_def c.F_Bank_width rfl ?_
  walk_at "vals"
  refine evS_cons (ev1_Return (ev_Sub (ev_At c.X rfl c.cls_cTB b.h4 b.h3 c.A_sort_widths (by with_reducible walk_at "flook") rfl ?_)))
  walk_at "obj"
  refine ev_Sub (ev_At c.X rfl c.cls_cTB b.h4 b.h3 c.A_term_sorts (by with_reducible walk_at "flook") rfl ?_)
  walk_at "obj"
  walk_at "loc"
  refine i_list b.h12 (by omega) (term_lt ht hl) (term_at ht _) ?_
  have := (List.getElem?_eq_some_iff.mp hs).1
  rw [e]
  exact i_list b.h6 (by walk_at "om") (by walk_at "om") (by rw [tn, List.getElem?_map, hs]; rfl) q
theorem true_spec (c : Cx B) (b : BankAt c.cTB fsB β H) (q : Q (.int 1) H) : CallC prg w B (d + 1) c.f_Bank_true_term [.ref 4] H Q := by
  refine call_def c.F_Bank_true_term rfl ?_
  walk_at "vals"
  refine evS_cons (ev1_Return (ev_At c.X rfl c.cls_cTB b.h4 b.h3 c.A_true_number (by with_reducible walk_at "flook") rfl ?_))
  walk_at "obj"
  exact q
theorem false_spec (c : Cx B) (b : BankAt c.cTB fsB β H) (q : Q (.int 2) H) : CallC prg w B (d + 1) c.f_Bank_false_term [.ref 4] H Q := by
  refine call_def c.F_Bank_false_term rfl ?_
  walk_at "vals"
  refine evS_cons (ev1_Return (ev_At c.X rfl c.cls_cTB b.h4 b.h3 c.A_false_number (by with_reducible walk_at "flook") rfl ?_))
  walk_at "obj"
  exact q
/-- a term of the sort that is wanted -/
theorem want_spec (c : Cx B) (b : BankAt c.cTB fsB β H) (hl : β.terms.length ≤ 400000) {t : Nat} {x : T} {wh : Str} {s : Int} (ht : β.terms[t]? = some x) (hs : x.sort = s) (q : Q .none H) : CallC prg w B (d + 1) c.f_Bank_want [.ref 4, .int (t : Int), .int s, .str wh] H Q := by
  subst hs
  refine call_def c.F_Bank_want rfl ?_
  walk_at "vals"
  refine evS_cons (ev1_If (evT_Cmp rfl (ev_Sub (ev_At c.X rfl c.cls_cTB b.h4 b.h3 c.A_term_sorts (by with_reducible walk_at "flook") rfl ?_))))
  walk_at "obj"
  walk_at "loc"
  refine i_list b.h12 (by omega) (term_lt ht hl) (term_at ht _) ?_
  walk_at "loc"
  refine w_ne ⟨_, rfl, fun h => ?_, fun h => ?_⟩
  · simp at h
  · exact evS_nil (evS_nil q)
end

section
variable {w : World} {B : Heap} {d : Nat} {H : List O} {Q : V → List O → Prop} {β : Bk}

theorem bool_spec (c : Cx B) (b : BankAt c.cTB fsB β H) (h : Bool) (q : Q (.int (if h then 1 else 2)) H) : CallC prg w B (d + 1) c.f_Bank_bool_term [.ref 4, .bool h] H Q := by
  refine call_def c.F_Bank_bool_term rfl ?_
  walk_at "vals"
  refine evS_cons (ev1_Return (ev_IfExp (evT_plain (fun _ _ => rfl) ?_)))
  walk_at "loc"
  refine wtr_bool ⟨fun e => ?_, fun e => ?_⟩
  · subst e
    refine ev_At c.X rfl c.cls_cTB b.h4 b.h3 c.A_true_number (by with_reducible walk_at "flook") rfl ?_
    walk_at "obj"
    exact q
  · subst e
    refine ev_At c.X rfl c.cls_cTB b.h4 b.h3 c.A_false_number (by with_reducible walk_at "flook") rfl ?_
    walk_at "obj"
    exact q

/-- a new function's number -/
theorem declare_spec (c : Cx B) (b : BankAt c.cTB fsB β H) (hl : β.f1.length ≤ 100000 ∧ β.f2.length ≤ 100000 ∧ β.f3.length ≤ 100000) {v1 v3 : V} {ss : List V}
    (q : ∀ β' H', Grow β β' 0 1 → β'.terms = β.terms → β'.widths = β.widths → BankAt c.cTB fsB β' H' → Keep H H' → Q (.int ((β.f1.length : Nat) : Int)) H') :
    CallC prg w B (d + 1) c.f_Bank_declare_fun [.ref 4, v1, .tup ss, v3] H Q := by
  have b' := b
  obtain ⟨h3, h4, h5, h6, h7, h8, h9, h10, h11, h12, h13, h14, h15⟩ := b'
  refine call_def c.F_Bank_declare_fun rfl ?_
  walk_at "vals"
  refine evS_cons (ev1_Expr (fun _ => rfl) (ev_LMeth (n := 7) slot_list_append type_list_append rfl rfl (by decide) rfl h7 (ev_At (n := 4) (dn := 3) c.X rfl c.cls_cTB (by walk_at "hk") (by walk_at "hk") c.A_fun_names (by with_reducible walk_at "flook") rfl ?_)))
  walk_at "obj"
  refine ⟨rfl, rfl, ?_⟩
  walk_at "loc"
  refine c_append h7 (by walk_at "om") ?_
  refine evS_cons (ev1_Expr (fun _ => rfl) (ev_LMeth (n := 8) slot_list_append type_list_append rfl rfl (by decide) rfl (by walk_at "hk") (ev_At (n := 4) (dn := 3) c.X rfl c.cls_cTB (by walk_at "hk") (by walk_at "hk") c.A_fun_args (by with_reducible walk_at "flook") rfl ?_)))
  walk_at "obj"
  refine ⟨rfl, rfl, ev_Bi rfl (by with_reducible walk_at "has") c.U_tuple ?_⟩
  walk_at "loc"
  refine c_tup_tup ?_
  refine c_append (by walk_at "hk") (by walk_at "om") ?_
  refine evS_cons (ev1_Expr (fun _ => rfl) (ev_LMeth (n := 9) slot_list_append type_list_append rfl rfl (by decide) rfl (by walk_at "hk") (ev_At (n := 4) (dn := 3) c.X rfl c.cls_cTB (by walk_at "hk") (by walk_at "hk") c.A_fun_results (by with_reducible walk_at "flook") rfl ?_)))
  walk_at "obj"
  refine ⟨rfl, rfl, ?_⟩
  walk_at "loc"
  refine c_append (by walk_at "hk") (by walk_at "om") ?_
  refine evS_cons (ev1_Return (ev_BinOp (ev_Bi rfl (by with_reducible walk_at "has") c.U_len (ev_At (n := 4) (dn := 3) c.X rfl c.cls_cTB (by walk_at "hk") (by walk_at "hk") c.A_fun_names (by with_reducible walk_at "flook") rfl ?_))))
  walk_at "obj"
  refine c_len_list (n := 7) (vs := β.f1 ++ [v1]) (by walk_at "hk") (by simp; walk_at "om") ?_
  refine ev_int (w_sub ?_)
  have e : ((β.f1 ++ [v1]).length : Int) - 1 = ((β.f1.length : Nat) : Int) := by simp
  rw [e]
  refine q { β with f1 := β.f1 ++ [v1], f2 := β.f2 ++ [.tup ss], f3 := β.f3 ++ [v3] } _ ⟨⟨[], by simp⟩, ⟨[], by simp⟩, by simp, fun o => ⟨o.pos, o.nod, o.wl, o.bv, o.bl⟩⟩ rfl rfl
    ⟨by walk_at "hk", by walk_at "hk", by walk_at "hk", by walk_at "hk", by walk_at "hk", by walk_at "hk", by walk_at "hk", by walk_at "hk", by walk_at "hk", by walk_at "hk", by walk_at "hk", by walk_at "hk", by walk_at "hk"⟩
    (((Keep.set (by decide)).trans (.set (by decide))).trans (.set (by decide)))

noncomputable abbrev appT (s : Int) (f : Int) : T := ⟨Str.ofString "app", [], s, .i f⟩
theorem const_spec (c : Cx B) (b : BankAt c.cTB fsB β H) (ok : BkOk β) (hl : β.terms.length ≤ 400000) (hf : β.f1.length ≤ 100000 ∧ β.f2.length ≤ 100000 ∧ β.f3.length ≤ 100000) {v1 : V} {s : Int}
    (q : ∀ t β' H', Grow β β' 1 1 → 1 ≤ t → β'.terms[t]? = some (appT s β.f1.length) → BankAt c.cTB fsB β' H' → Keep H H' → Q (.int ((t : Nat) : Int)) H') :
    CallC prg w B (d + 2) c.f_Bank_fresh_const [.ref 4, v1, .int s] H Q := by
  refine call_def c.F_Bank_fresh_const rfl ?_
  walk_at "vals"
  refine evS_cons (ev1_Return (ev_Do c.X rfl rfl (by decide) rfl c.cls_cTB b.h4 b.h3 c.M_Bank_make na_make c.F_Bank_make (d' := d + 1) (by walk_at "om") ?_))
  walk_at "obj"
  refine ev_str ?_
  refine ev_Tuple rfl (by decide) ?_
  refine ⟨by simp, ?_⟩
  walk_at "loc"
  refine ev_Do c.X rfl rfl (by decide) rfl c.cls_cTB b.h4 b.h3 c.M_Bank_declare_fun na_declare_fun c.F_Bank_declare_fun (d' := d + 1) (by walk_at "om") ?_
  walk_at "obj"
  walk_at "loc"
  refine ev_Tuple rfl (by decide) ?_
  refine ⟨by simp, ?_⟩
  walk_at "loc"
  refine declare_spec c b hf fun β₁ H₁ g₁ et ew b₁ k₁ => ?_
  refine make_spec c b₁ mkNsB (g₁.ok ok) (by rw [et]; exact hl) (appT s β.f1.length) (key_ok _ ok_app rfl) fun t β' H' m b₂ k₂ => ?_
  exact q t β' H' ((g₁.trans m.grow).mono (by walk_at "om") (by walk_at "om")) (m.pos (g₁.ok ok)) m.at b₂ (k₁.trans k₂)

/-- the sort of so many bits -/
theorem sort_spec (c : Cx B) (b : BankAt c.cTB fsB β H) (ok : BkOk β) (hw : β.widths.length ≤ 100000) {wd : Int} (h1 : 1 ≤ wd) (h2 : wd ≤ 4096)
    (q : ∀ (s : Nat) β' H', Grow β β' 0 1 → β'.terms = β.terms → β'.widths[s]? = some wd → BankAt c.cTB fsB β' H' → Keep H H' → Q (.int (s : Int)) H') :
    CallC prg w B (d + 1) c.f_TermBank_bv_sort [.ref 4, .int wd] H Q := by
  have b' := b
  obtain ⟨h3, h4, h5, h6, h7, h8, h9, h10, h11, h12, h13, h14, h15⟩ := b'
  refine call_def c.F_TermBank_bv_sort rfl ?_
  walk_at "vals"
  refine evS_cons (ev1_If (evT_Cmp rfl ?_))
  walk_at "loc"
  refine ev_int (w_lt ⟨_, rfl, fun h => ?_, fun h => ?_⟩)
  · simp at h; walk_at "om"
  refine evS_nil (evS_cons (ev1_If (evT_Cmp rfl ?_)))
  walk_at "loc"
  obtain ⟨tk, gW⟩ := c.G_WIDEST
  refine ev_globInt (by with_reducible walk_at "has") gW (w_gt ⟨_, rfl, fun h => ?_, fun h => ?_⟩)
  · simp at h; walk_at "om"
  refine evS_nil (evS_cons (ev1_If (evT_Cmp rfl ?_)))
  walk_at "loc"
  refine ev_At c.X rfl c.cls_cTB h4 h3 c.A_bv_numbers (by with_reducible walk_at "flook") rfl ?_
  walk_at "obj"
  refine w_notin_idict h15 ⟨_, rfl, fun h => ?_, fun h => ?_⟩
  · have hn : dget β.bv wd = none := by
      cases e : dget β.bv wd with
      | none => rfl
      | some _ => rw [e] at h; simp at h
    refine evS_cons (ev1_Expr (fun _ => rfl) (ev_LMeth (n := 5) slot_list_append type_list_append rfl rfl (by decide) rfl h5 (ev_At (n := 4) (dn := 3) c.X rfl c.cls_cTB (by walk_at "hk") (by walk_at "hk") c.A_sort_names (by with_reducible walk_at "flook") rfl ?_)))
    walk_at "obj"
    refine ⟨rfl, rfl, ev_Joined3 (by decide +kernel) (by decide +kernel) ?_⟩
    walk_at "loc"
    refine ⟨wd, rfl, by walk_at "om", fun z => ?_⟩
    refine c_append h5 (by have := ok.wl; walk_at "om") ?_
    refine evS_cons (ev1_Expr (fun _ => rfl) (ev_LMeth (n := 6) slot_list_append type_list_append rfl rfl (by decide) rfl (by walk_at "hk") (ev_At (n := 4) (dn := 3) c.X rfl c.cls_cTB (by walk_at "hk") (by walk_at "hk") c.A_sort_widths (by with_reducible walk_at "flook") rfl ?_)))
    walk_at "obj"
    refine ⟨rfl, rfl, ?_⟩
    walk_at "loc"
    refine c_append (by walk_at "hk") (by simp; walk_at "om") ?_
    refine evS_cons (ev1_AssignSub (fun _ => rfl) (ev_BinOp (ev_Bi rfl (by with_reducible walk_at "has") c.U_len (ev_At (n := 4) (dn := 3) c.X rfl c.cls_cTB (by walk_at "hk") (by walk_at "hk") c.A_sort_names (by with_reducible walk_at "flook") rfl ?_))))
    walk_at "obj"
    refine c_len_list (n := 5) (vs := β.names ++ [.str z]) (by walk_at "hk") (by simp; have := ok.wl; walk_at "om") ?_
    refine ev_int (w_sub ?_)
    have e : ((β.names ++ [V.str z]).length : Int) - 1 = ((β.names.length : Nat) : Int) := by simp
    rw [e]
    refine ev_At (n := 4) (dn := 3) c.X rfl c.cls_cTB (by walk_at "hk") (by walk_at "hk") c.A_bv_numbers (by with_reducible walk_at "flook") rfl ?_
    walk_at "obj"
    walk_at "loc"
    have hwl := ok.wl
    have hbl := ok.bl
    refine s_idict (n := 15) (es := β.bv) (by walk_at "hk") (by walk_at "om") ?_
    refine evS_nil (evS_cons (ev1_Return (ev_Sub (ev_At (n := 4) (dn := 3) c.X rfl c.cls_cTB (by walk_at "hk") (by walk_at "hk") c.A_bv_numbers (by with_reducible walk_at "flook") rfl ?_))))
    walk_at "obj"
    walk_at "loc"
    have hput : dput β.bv wd (.int ((β.names.length : Nat) : Int)) = β.bv ++ [(wd, .int ((β.names.length : Nat) : Int))] := by
      unfold dput
      rw [if_neg]
      intro ha
      obtain ⟨kv, hm, hk⟩ := List.any_eq_true.mp ha
      have : (dget β.bv wd).isSome = true := by
        unfold dget
        rw [Option.isSome_map, List.find?_isSome]
        exact ⟨kv, hm, hk⟩
      rw [hn] at this; cases this
    have hgetp : ∀ k, dget (β.bv ++ [(wd, V.int ((β.names.length : Nat) : Int))]) k = if k = wd then some (.int ((β.names.length : Nat) : Int)) else dget β.bv k := by
      intro k
      unfold dget
      rw [List.find?_append]
      by_cases hk : k = wd
      · subst hk
        rw [if_pos rfl]
        have : β.bv.find? (fun kv => decide (kv.1 = k)) = none := by
          unfold dget at hn
          simpa using hn
        rw [this]; simp
      · rw [if_neg hk]
        cases hfd : β.bv.find? (fun kv => decide (kv.1 = k)) with
        | some _ => rfl
        | none => simp [Ne.symm hk]
    rw [hput]
    refine i_idict (n := 15) (es := β.bv ++ [(wd, .int ((β.names.length : Nat) : Int))]) (v := .int ((β.names.length : Nat) : Int)) (by walk_at "hk") (by rw [hgetp, if_pos rfl]) ?_
    refine q β.names.length { β with names := β.names ++ [.str z], widths := β.widths ++ [wd], bv := β.bv ++ [(wd, .int ((β.names.length : Nat) : Int))] } _ ⟨⟨[], by simp⟩, ⟨[wd], rfl, by simp⟩, by simp, fun o => ⟨o.pos, o.nod, by simp [o.wl], ?_, by simp; exact o.bl⟩⟩ rfl ?_
      ⟨by walk_at "hk", by walk_at "hk", by walk_at "hk", ?_, by walk_at "hk", by walk_at "hk", by walk_at "hk", by walk_at "hk", by walk_at "hk", by walk_at "hk", by walk_at "hk", by walk_at "hk", by walk_at "hk"⟩
      (((Keep.set (by decide)).trans (.set (by decide))).trans (.set (by decide)))
    · intro k v hv
      rw [hgetp] at hv
      split at hv
      · rename_i hk
        cases hv
        exact ⟨β.names.length, rfl, by rw [hk, ← o.wl, List.getElem?_append_right (Nat.le_refl _), Nat.sub_self]; rfl⟩
      · obtain ⟨s, e1, e2⟩ := o.bv k v hv
        exact ⟨s, e1, by rw [List.getElem?_append_left (List.getElem?_eq_some_iff.mp e2).1]; exact e2⟩
    · show (β.widths ++ [wd])[β.names.length]? = _
      rw [← ok.wl, List.getElem?_append_right (Nat.le_refl _), Nat.sub_self]; rfl
    · show _ = some (O.list ((β.widths ++ [wd]).map .int))
      rw [List.map_append]; walk_at "hk"
  · have hs : (dget β.bv wd).isSome = true := by simpa using h
    obtain ⟨v, hv⟩ := Option.isSome_iff_exists.mp hs
    obtain ⟨s, rfl, e2⟩ := ok.bv wd v hv
    refine evS_nil (evS_cons (ev1_Return (ev_Sub (ev_At (n := 4) (dn := 3) c.X rfl c.cls_cTB h4 h3 c.A_bv_numbers (by with_reducible walk_at "flook") rfl ?_))))
    walk_at "obj"
    walk_at "loc"
    exact i_idict h15 hv (q s β H ((Grow.refl β).mono (by walk_at "om") (by walk_at "om")) rfl e2 b (.refl _))
end

section
variable {w : World} {B : Heap} {d : Nat} {H : List O} {Q : V → List O → Prop} {β : Bk}

theorem want_bits_spec (c : Cx B) (b : BankAt c.cTB fsB β H) (hl : β.terms.length ≤ 400000) (hw : β.widths.length ≤ 100000) {t : Nat} {x : T} {wd : Int} {wh : Str} (ht : β.terms[t]? = some x) (hx : HasW β x wd) (h0 : wd ≠ 0) (q : Q .none H) :
    CallC prg w B (d + 2) c.f_TermBank_want_bits [.ref 4, .int (t : Int), .str wh] H Q := by
  refine call_def c.F_TermBank_want_bits rfl ?_
  walk_at "vals"
  refine evS_cons (ev1_If (evT_Cmp rfl (ev_Do c.X rfl rfl (by decide) rfl c.cls_cTB b.h4 b.h3 c.M_Bank_width na_width c.F_Bank_width (d' := d + 1) (by walk_at "om") ?_)))
  walk_at "obj"
  walk_at "loc"
  refine width_spec c b hl hw ht hx (ev_int (w_eq ⟨_, rfl, fun h => ?_, fun h => ?_⟩))
  · simp at h; exact absurd h h0
  · exact evS_nil (evS_nil q)

noncomputable abbrev numT (s v : Int) : T := ⟨Str.ofString "bvnum", [], s, .i v⟩
theorem num_spec (c : Cx B) (b : BankAt c.cTB fsB β H) (ok : BkOk β) (hl : β.terms.length ≤ 400000) (hw : β.widths.length ≤ 100000) {v wd : Int} (h1 : 1 ≤ wd) (h2 : wd ≤ 4096)
    (q : ∀ (t s : Nat) β' H', Grow β β' 1 1 → 1 ≤ t → β'.terms[t]? = some (numT s (v.fmod (1 * 2 ^ wd.toNat))) → β'.widths[s]? = some wd → BankAt c.cTB fsB β' H' → Keep H H' → Q (.int (t : Int)) H') :
    CallC prg w B (d + 2) c.f_TermBank_bv_num [.ref 4, .int v, .int wd] H Q := by
  refine call_def c.F_TermBank_bv_num rfl ?_
  walk_at "vals"
  refine evS_cons (ev1_Assign (fun _ => rfl) (ev_Do c.X rfl rfl (by decide) rfl c.cls_cTB b.h4 b.h3 c.M_TermBank_bv_sort na_bv_sort c.F_TermBank_bv_sort (d' := d + 1) (by walk_at "om") ?_))
  walk_at "obj"
  walk_at "loc"
  refine sort_spec c b ok hw h1 h2 fun s β₁ H₁ g₁ et hs b₁ k₁ => ?_
  walk_at "asg"
  refine evS_cons (ev1_Return (ev_Do c.X rfl rfl (by decide) rfl c.cls_cTB b₁.h4 b₁.h3 c.M_Bank_make na_make c.F_Bank_make (d' := d + 1) (by walk_at "om") ?_))
  walk_at "obj"
  refine ev_str (ev_Tuple rfl (by decide) ⟨by simp, ?_⟩)
  walk_at "loc"
  refine ev_BinOp ?_
  walk_at "loc"
  refine ev_BinOp (ev_int ?_)
  walk_at "loc"
  have hb1 : Builtin.Int.intBits 1 = 1 := by decide +kernel
  have hp2 : (0 : Int) < 2 ^ wd.toNat := Int.pow_pos (by decide)
  refine w_shl (by walk_at "om") (by rw [hb1]; walk_at "om") ?_
  refine w_mod (by walk_at "om") ?_
  refine make_spec c b₁ mkNsB (g₁.ok ok) (by rw [et]; exact hl) (numT s (v.fmod (1 * 2 ^ wd.toNat))) (key_ok _ ok_bvnum rfl) fun t β' H' m b₂ k₂ => ?_
  exact q t s β' H' ((g₁.trans m.grow).mono (by walk_at "om") (by walk_at "om")) (m.pos (g₁.ok ok)) m.at (m.grow.wd hs) b₂ (k₁.trans k₂)

noncomputable abbrev catT (s : Int) (a b : Nat) : T := ⟨Str.ofString "concat", [(a : Int), (b : Int)], s, .i 0⟩
theorem concat_spec (c : Cx B) (b : BankAt c.cTB fsB β H) (ok : BkOk β) (hl : β.terms.length ≤ 400000) (hw : β.widths.length ≤ 100000) {t1 t2 : Nat} {x1 x2 : T} {w1 w2 : Int} (ht1 : β.terms[t1]? = some x1) (hx1 : HasW β x1 w1) (ht2 : β.terms[t2]? = some x2) (hx2 : HasW β x2 w2)
    (h1 : 1 ≤ w1 ∧ w1 ≤ 2000) (h2 : 1 ≤ w2 ∧ w2 ≤ 2000)
    (q : ∀ (t s : Nat) β' H', Grow β β' 1 1 → 1 ≤ t → β'.terms[t]? = some (catT s t1 t2) → β'.widths[s]? = some (w1 + w2) → BankAt c.cTB fsB β' H' → Keep H H' → Q (.int (t : Int)) H') :
    CallC prg w B (d + 3) c.f_TermBank_concat [.ref 4, .int (t1 : Int), .int (t2 : Int)] H Q := by
  refine call_def c.F_TermBank_concat rfl ?_
  walk_at "vals"
  refine evS_cons (ev1_Expr (fun _ => rfl) (ev_Do c.X rfl rfl (by decide) rfl c.cls_cTB b.h4 b.h3 c.M_TermBank_want_bits na_want_bits c.F_TermBank_want_bits (d' := d + 2) (by walk_at "om") ?_))
  walk_at "obj"
  walk_at "loc"
  refine ev_str (want_bits_spec c b hl hw ht1 hx1 (by walk_at "om") ?_)
  refine evS_cons (ev1_Expr (fun _ => rfl) (ev_Do c.X rfl rfl (by decide) rfl c.cls_cTB b.h4 b.h3 c.M_TermBank_want_bits na_want_bits c.F_TermBank_want_bits (d' := d + 2) (by walk_at "om") ?_))
  walk_at "obj"
  walk_at "loc"
  refine ev_str (want_bits_spec c b hl hw ht2 hx2 (by walk_at "om") ?_)
  refine evS_cons (ev1_Return (ev_Do c.X rfl rfl (by decide) rfl c.cls_cTB b.h4 b.h3 c.M_Bank_make na_make c.F_Bank_make (d' := d + 1) (by walk_at "om") ?_))
  walk_at "obj"
  refine ev_str (ev_Tuple rfl (by decide) ?_)
  walk_at "loc"
  walk_at "loc"
  refine ⟨by simp, ev_Do c.X rfl rfl (by decide) rfl c.cls_cTB b.h4 b.h3 c.M_TermBank_bv_sort na_bv_sort c.F_TermBank_bv_sort (d' := d + 1) (by walk_at "om") ?_⟩
  walk_at "obj"
  refine ev_BinOp (ev_Do c.X rfl rfl (by decide) rfl c.cls_cTB b.h4 b.h3 c.M_Bank_width na_width c.F_Bank_width (d' := d + 1) (by walk_at "om") ?_)
  walk_at "obj"
  walk_at "loc"
  refine width_spec c b hl hw ht1 hx1 (ev_Do c.X rfl rfl (by decide) rfl c.cls_cTB b.h4 b.h3 c.M_Bank_width na_width c.F_Bank_width (d' := d + 1) (by walk_at "om") ?_)
  walk_at "obj"
  walk_at "loc"
  refine width_spec c b hl hw ht2 hx2 (w_add ?_)
  refine sort_spec c b ok hw (by walk_at "om") (by walk_at "om") fun s β₁ H₁ g₁ et hs b₁ k₁ => ?_
  refine ev_int ?_
  refine make_spec c b₁ mkNsB (g₁.ok ok) (by rw [et]; exact hl) (catT s t1 t2) (key_ok _ ok_concat rfl) fun t β' H' m b₂ k₂ => ?_
  exact q t s β' H' ((g₁.trans m.grow).mono (by walk_at "om") (by walk_at "om")) (m.pos (g₁.ok ok)) m.at (m.grow.wd hs) b₂ (k₁.trans k₂)

noncomputable abbrev bitT (i : Int) (t : Nat) : T := ⟨Str.ofString "bit", [(t : Int)], 0, .i i⟩
theorem bit_spec (c : Cx B) (b : BankAt c.cTB fsB β H) (ok : BkOk β) (hl : β.terms.length ≤ 400000) (hw : β.widths.length ≤ 100000) {t : Nat} {x : T} {wd i : Int} (ht : β.terms[t]? = some x) (hx : HasW β x wd) (h0 : 0 ≤ i) (h1 : i < wd)
    (q : ∀ (r : Nat) β' H', Grow β β' 1 0 → 1 ≤ r → β'.terms[r]? = some (bitT i t) → BankAt c.cTB fsB β' H' → Keep H H' → Q (.int (r : Int)) H') :
    CallC prg w B (d + 3) c.f_TermBank_bit [.ref 4, .int i, .int (t : Int)] H Q := by
  refine call_def c.F_TermBank_bit rfl ?_
  walk_at "vals"
  refine evS_cons (ev1_Expr (fun _ => rfl) (ev_Do c.X rfl rfl (by decide) rfl c.cls_cTB b.h4 b.h3 c.M_TermBank_want_bits na_want_bits c.F_TermBank_want_bits (d' := d + 2) (by walk_at "om") ?_))
  walk_at "obj"
  walk_at "loc"
  refine ev_str (want_bits_spec c b hl hw ht hx (by walk_at "om") ?_)
  refine evS_cons (ev1_If (evT_Not (evT_Cmp2 rfl (ev_int ?_))))
  walk_at "loc"
  refine w_le ⟨_, rfl, fun h => ?_, fun h => ?_⟩
  · simp at h; walk_at "om"
  refine ev_Do c.X rfl rfl (by decide) rfl c.cls_cTB b.h4 b.h3 c.M_Bank_width na_width c.F_Bank_width (d' := d + 1) (by walk_at "om") ?_
  walk_at "obj"
  walk_at "loc"
  refine width_spec c b hl hw ht hx (w_lt ⟨_, rfl, fun h => ?_, fun h => ?_⟩)
  · simp at h; walk_at "om"
  refine evS_nil (evS_cons (ev1_Return (ev_Do c.X rfl rfl (by decide) rfl c.cls_cTB b.h4 b.h3 c.M_Bank_make na_make c.F_Bank_make (d' := d + 1) (by walk_at "om") ?_)))
  walk_at "obj"
  refine ev_str (ev_Tuple rfl (by decide) ?_)
  walk_at "loc"
  obtain ⟨tk, gB⟩ := c.G_BOOL
  refine ⟨by simp, ev_globInt (by with_reducible walk_at "has") gB ?_⟩
  walk_at "loc"
  refine make_spec c b mkNsB ok hl (bitT i t) (key_ok _ ok_bit rfl) fun r β' H' m b₂ k₂ => ?_
  exact q r β' H' m.grow (m.pos ok) m.at b₂ k₂

noncomputable abbrev trueT : T := ⟨Str.ofString "true", [], 0, .i 0⟩
noncomputable abbrev falseT : T := ⟨Str.ofString "false", [], 0, .i 0⟩
noncomputable abbrev notT (t : Nat) : T := ⟨Str.ofString "not", [(t : Int)], 0, .i 0⟩
structure Base (β : Bk) : Prop where
  ok : BkOk β
  tr : β.terms[1]? = some trueT
  fa : β.terms[2]? = some falseT
theorem Base.grow {β β' : Bk} {a b : Nat} (x : Base β) (g : Grow β β' a b) : Base β' := ⟨g.ok x.ok, g.at x.tr, g.at x.fa⟩
/-- a truth that is no 'not' -/
inductive Lit (β : Bk) : Nat → Prop
  | tr : Lit β 1
  | fa : Lit β 2
  | bit {t u : Nat} {i : Int} : 1 ≤ t → β.terms[t]? = some (bitT i u) → Lit β t
inductive Neg (β : Bk) : Nat → Nat → Prop
  | tr : Neg β 1 2
  | fa : Neg β 2 1
  | bit {t u r : Nat} {i : Int} : β.terms[t]? = some (bitT i u) → 1 ≤ r → β.terms[r]? = some (notT t) → Neg β t r
theorem Lit.grow {β β' : Bk} {a b t : Nat} (x : Lit β t) (g : Grow β β' a b) : Lit β' t := by
  cases x with
  | tr => exact .tr
  | fa => exact .fa
  | bit h1 h => exact .bit h1 (g.at h)
theorem Neg.grow {β β' : Bk} {a b t r : Nat} (x : Neg β t r) (g : Grow β β' a b) : Neg β' t r := by
  cases x with
  | tr => exact .tr
  | fa => exact .fa
  | bit h h1 h2 => exact .bit (g.at h) h1 (g.at h2)
theorem bit_ne_true {i : Int} {u : Nat} : bitT i u ≠ trueT := by intro h; have := congrArg T.args h; simp at this
theorem bit_ne_false {i : Int} {u : Nat} : bitT i u ≠ falseT := by intro h; have := congrArg T.args h; simp at this
theorem Neg.uniq {β : Bk} (o : Base β) {t r r' : Nat} (x : Neg β t r) (y : Neg β t r') : r = r' := by
  cases x with
  | tr => cases y with
    | tr => rfl
    | bit h _ _ => rw [o.tr] at h; exact absurd (Option.some.inj h).symm bit_ne_true
  | fa => cases y with
    | fa => rfl
    | bit h _ _ => rw [o.fa] at h; exact absurd (Option.some.inj h).symm bit_ne_false
  | bit h h1 h2 => cases y with
    | tr => rw [o.tr] at h; exact absurd (Option.some.inj h).symm bit_ne_true
    | fa => rw [o.fa] at h; exact absurd (Option.some.inj h).symm bit_ne_false
    | bit g g1 g2 => exact o.ok.one h1 g1 h2 g2
theorem ops_ne : (Str.ofString "bit" == Str.ofString "not") = false ∧ (Str.ofString "true" == Str.ofString "not") = false ∧ (Str.ofString "false" == Str.ofString "not") = false := by decide +kernel

theorem not_lit_spec (c : Cx B) (b : BankAt c.cTB fsB β H) (o : Base β) (hl : β.terms.length ≤ 400000) {t : Nat} (x : Lit β t)
    (q : ∀ (r : Nat) β' H', Grow β β' 1 0 → Neg β' t r → BankAt c.cTB fsB β' H' → Keep H H' → Q (.int (r : Int)) H') :
    CallC prg w B (d + 2) c.f_BoolBank_not_of [.ref 4, .int (t : Int)] H Q := by
  obtain ⟨y, hy, hys, hop⟩ : ∃ y, β.terms[t]? = some y ∧ y.sort = 0 ∧ (y.op == Str.ofString "not") = false := by
    cases x with
    | tr => exact ⟨_, o.tr, rfl, ops_ne.2.1⟩
    | fa => exact ⟨_, o.fa, rfl, ops_ne.2.2⟩
    | bit h1 h => exact ⟨_, h, rfl, ops_ne.1⟩
  refine call_def c.F_BoolBank_not_of rfl ?_
  walk_at "vals"
  refine evS_cons (ev1_Expr (fun _ => rfl) (ev_Do c.X rfl rfl (by decide) rfl c.cls_cTB b.h4 b.h3 c.M_Bank_want na_want c.F_Bank_want (d' := d + 1) (by walk_at "om") ?_))
  walk_at "obj"
  walk_at "loc"
  obtain ⟨tk, gB⟩ := c.G_BOOL
  refine ev_globInt (by with_reducible walk_at "has") gB (ev_str ?_)
  refine want_spec c b hl hy hys ?_
  refine evS_cons (ev1_If (evT_Cmp rfl (ev_Sub (ev_At c.X rfl c.cls_cTB b.h4 b.h3 c.A_term_ops (by with_reducible walk_at "flook") rfl ?_))))
  walk_at "obj"
  walk_at "loc"
  refine i_list b.h10 (by omega) (term_lt hy hl) (term_at hy _) (ev_str (w_eqs ⟨_, rfl, fun h => ?_, fun h => ?_⟩))
  · rw [hop] at h; cases h
  refine evS_nil (evS_cons (ev1_If (evT_Cmp rfl ?_)))
  walk_at "loc"
  refine ev_At c.X rfl c.cls_cTB b.h4 b.h3 c.A_true_number (by with_reducible walk_at "flook") rfl ?_
  walk_at "obj"
  refine w_eq ⟨_, rfl, fun h => ?_, fun h => ?_⟩
  · have e : t = 1 := by simp at h; walk_at "om"
    subst e
    refine evS_cons (ev1_Return (ev_At c.X rfl c.cls_cTB b.h4 b.h3 c.A_false_number (by with_reducible walk_at "flook") rfl ?_))
    walk_at "obj"
    exact q 2 β H ((Grow.refl β).mono (by walk_at "om") (by walk_at "om")) .tr b (.refl _)
  refine evS_nil (evS_cons (ev1_If (evT_Cmp rfl ?_)))
  walk_at "loc"
  refine ev_At c.X rfl c.cls_cTB b.h4 b.h3 c.A_false_number (by with_reducible walk_at "flook") rfl ?_
  walk_at "obj"
  refine w_eq ⟨_, rfl, fun h' => ?_, fun h' => ?_⟩
  · have e : t = 2 := by simp at h'; walk_at "om"
    subst e
    refine evS_cons (ev1_Return (ev_At c.X rfl c.cls_cTB b.h4 b.h3 c.A_true_number (by with_reducible walk_at "flook") rfl ?_))
    walk_at "obj"
    exact q 1 β H ((Grow.refl β).mono (by walk_at "om") (by walk_at "om")) .fa b (.refl _)
  refine evS_nil (evS_cons (ev1_Return (ev_Do c.X rfl rfl (by decide) rfl c.cls_cTB b.h4 b.h3 c.M_Bank_make na_make c.F_Bank_make (d' := d + 1) (by walk_at "om") ?_)))
  walk_at "obj"
  refine ev_str (ev_Tuple rfl (by decide) ?_)
  walk_at "loc"
  refine ⟨by simp, ev_globInt (by with_reducible walk_at "has") gB (ev_int ?_)⟩
  refine make_spec c b mkNsB o.ok hl (notT t) (key_ok _ ok_not rfl) fun r β' H' m b₂ k₂ => ?_
  refine q r β' H' m.grow ?_ b₂ k₂
  cases x with
  | tr => simp at h
  | fa => simp at h'
  | bit h1 hb => exact .bit (m.grow.at hb) (m.pos o.ok) m.at

theorem not_neg_spec (c : Cx B) (b : BankAt c.cTB fsB β H) (o : Base β) (hl : β.terms.length ≤ 400000) {t r : Nat} (x : Neg β t r)
    (q : ∀ β' H', Grow β β' 1 0 → BankAt c.cTB fsB β' H' → Keep H H' → Q (.int (t : Int)) H') :
    CallC prg w B (d + 2) c.f_BoolBank_not_of [.ref 4, .int (r : Int)] H Q := by
  cases x with
  | tr => exact not_lit_spec c b o hl .fa fun r' β' H' g n b' k => n.uniq (o.grow g) .fa ▸ q β' H' g b' k
  | fa => exact not_lit_spec c b o hl .tr fun r' β' H' g n b' k => n.uniq (o.grow g) .tr ▸ q β' H' g b' k
  | bit h h1 h2 =>
    refine call_def c.F_BoolBank_not_of rfl ?_
    walk_at "vals"
    refine evS_cons (ev1_Expr (fun _ => rfl) (ev_Do c.X rfl rfl (by decide) rfl c.cls_cTB b.h4 b.h3 c.M_Bank_want na_want c.F_Bank_want (d' := d + 1) (by walk_at "om") ?_))
    walk_at "obj"
    walk_at "loc"
    obtain ⟨tk, gB⟩ := c.G_BOOL
    refine ev_globInt (by with_reducible walk_at "has") gB (ev_str ?_)
    refine want_spec c b hl h2 rfl ?_
    refine evS_cons (ev1_If (evT_Cmp rfl (ev_Sub (ev_At c.X rfl c.cls_cTB b.h4 b.h3 c.A_term_ops (by with_reducible walk_at "flook") rfl ?_))))
    walk_at "obj"
    walk_at "loc"
    refine i_list b.h10 (by omega) (term_lt h2 hl) (term_at h2 _) (ev_str (w_eqs ⟨_, rfl, fun h => ?_, fun h => ?_⟩))
    · refine evS_cons (ev1_Return (ev_Sub (ev_Sub (ev_At c.X rfl c.cls_cTB b.h4 b.h3 c.A_term_args (by with_reducible walk_at "flook") rfl ?_))))
      walk_at "obj"
      walk_at "loc"
      refine i_list b.h11 (by omega) (term_lt h2 hl) (term_at h2 _) (ev_int (i_tup (by decide) (by decide) rfl (q β H ((Grow.refl β).mono (by omega) (by omega)) b (.refl _))))
    · simp at h
end

noncomputable abbrev fsM (k : Nat) : List (Str × V) := [(Str.ofString "bank", .ref 4), (Str.ofString "yes", .int 1), (Str.ofString "no", .int 2), (Str.ofString "known", .ref k)]
structure MkAt (C : Addr) (m k : Nat) (H : List O) : Prop where
  big : 15 < m
  h1 : H[m]? = some (.ns (fsM k))
  h2 : H[m + 1]? = some (.inst C m)
theorem MkAt.keep {C : Addr} {m k : Nat} {H H' : List O} (x : MkAt C m k H) (kp : Keep H H') : MkAt C m k H' := ⟨x.big, kp.at_ _ (.inr x.big) _ x.h1, kp.at_ _ (.inr (by have := x.big; walk_at "om")) _ x.h2⟩
theorem nm_names (k : Nat) : (fsM k).map (·.1) = [Str.ofString "bank", Str.ofString "yes", Str.ofString "no", Str.ofString "known"] := rfl
theorem na_negated (k : Nat) : Str.ofString "negated" ∉ (fsM k).map (·.1) := by rw [nm_names]; decide +kernel
theorem na_bit_within (k : Nat) : Str.ofString "bit_within" ∉ (fsM k).map (·.1) := by rw [nm_names]; decide +kernel
theorem na_bit_of (k : Nat) : Str.ofString "bit_of" ∉ (fsM k).map (·.1) := by rw [nm_names]; decide +kernel

noncomputable abbrev bvnotT (s : Int) (u : Nat) : T := ⟨Str.ofString "bvnot", [(u : Int)], s, .i 0⟩
noncomputable abbrev extT (s : Int) (u : Nat) (h l : Int) : T := ⟨Str.ofString "extract", [(u : Int)], s, .t [h, l]⟩
noncomputable abbrev zextT (s : Int) (u : Nat) (d : Int) : T := ⟨Str.ofString "zero_extend", [(u : Int)], s, .i d⟩
noncomputable abbrev sextT (s : Int) (u : Nat) (d : Int) : T := ⟨Str.ofString "sign_extend", [(u : Int)], s, .i d⟩
/-- a term and its width -/
noncomputable def Wd (β : Bk) (u : Nat) (w : Int) : Prop := ∃ x, β.terms[u]? = some x ∧ HasW β x w
theorem Wd.grow {β β' : Bk} {u : Nat} {w : Int} {a b : Nat} (h : Wd β u w) (g : Grow β β' a b) : Wd β' u w := let ⟨x, e, h⟩ := h; ⟨x, g.at e, h.grow g⟩
inductive Step (β : Bk) : Int → Nat → Int → Nat → Prop
  | ext {i h l s : Int} {t u : Nat} : β.terms[t]? = some (extT s u h l) → Step β i t (i + l) u
  | low {i s wb : Int} {t a b : Nat} : β.terms[t]? = some (catT s a b) → Wd β b wb → i < wb → Step β i t i b
  | high {i s wb : Int} {t a b : Nat} : β.terms[t]? = some (catT s a b) → Wd β b wb → wb ≤ i → Step β i t (i - wb) a
  | zext {i s d wu : Int} {t u : Nat} : β.terms[t]? = some (zextT s u d) → Wd β u wu → i < wu → Step β i t i u
  | sext {i s d wu : Int} {t u : Nat} : β.terms[t]? = some (sextT s u d) → Wd β u wu → Step β i t (if wu - 1 < i then wu - 1 else i) u
theorem Step.grow {β β' : Bk} {i j : Int} {t u a b : Nat} (x : Step β i t j u) (g : Grow β β' a b) : Step β' i t j u := by
  cases x with
  | ext h => exact .ext (g.at h)
  | low h h1 h2 => exact .low (g.at h) (h1.grow g) h2
  | high h h1 h2 => exact .high (g.at h) (h1.grow g) h2
  | zext h h1 h2 => exact .zext (g.at h) (h1.grow g) h2
  | sext h h1 => exact .sext (g.at h) (h1.grow g)
noncomputable def bitVal (v : Int) (i : Int) : Bool := Builtin.bitAnd (v.fdiv (2 ^ i.toNat)) 1 == 1
inductive Den (β : Bk) (b : Nat) : Nat → Int → Nat → Nat → Prop
  | num {s v i : Int} {t : Nat} : β.terms[t]? = some (numT s v) → 0 ≤ i → b = (if bitVal v i then 1 else 2) → Den β b 0 i t 0
  | app {s f i wd : Int} {t : Nat} : β.terms[t]? = some (appT s f) → Wd β t wd → 0 ≤ i → i < wd → 1 ≤ b → β.terms[b]? = some (bitT i t) → Den β b 0 i t 0
  | zext {s d i wu : Int} {t u : Nat} : β.terms[t]? = some (zextT s u d) → Wd β u wu → wu ≤ i → b = 2 → Den β b 0 i t 0
  | not {s i : Int} {t u n m : Nat} : β.terms[t]? = some (bvnotT s u) → Den β b n i u m → Den β b (n + 1) i t (m + 1)
  | step {i j : Int} {t u n m : Nat} : Step β i t j u → Den β b n j u m → Den β b (n + 1) i t m
theorem Den.grow {β β' : Bk} {p q b n t m : Nat} {i : Int} (x : Den β b n i t m) (g : Grow β β' p q) : Den β' b n i t m := by
  induction x with
  | num h h0 h1 => exact .num (g.at h) h0 h1
  | app h h1 h2 h3 h4 h5 => exact .app (g.at h) (h1.grow g) h2 h3 h4 (g.at h5)
  | zext h h1 h2 h3 => exact .zext (g.at h) (h1.grow g) h2 h3
  | not h _ ih => exact .not (g.at h) ih
  | step h _ ih => exact .step (h.grow g) ih
theorem Den.lit {β : Bk} {b n t m : Nat} {i : Int} (x : Den β b n i t m) : Lit β b := by
  induction x with
  | num h h0 h1 => subst h1; split <;> constructor
  | app h h1 h2 h3 h4 h5 => exact .bit h4 h5
  | zext h h1 h2 h3 => subst h3; exact .fa
  | not h _ ih => exact ih
  | step h _ ih => exact ih

section
variable {w : World} {B : Heap} {d : Nat} {H : List O} {Q : V → List O → Prop} {β : Bk}

theorem value_spec (c : Cx B) {v i : Int} (h0 : 0 ≤ i) (q : Q (.bool (bitVal v i)) H) : CallC prg w B (d + 1) c.f_bit_value [.int v, .int i] H Q := by
  refine call_def c.F_bit_value rfl ?_
  walk_at "vals"
  refine evS_cons (ev1_Return (ev_Cmp rfl (ev_BinOp (ev_BinOp ?_))))
  walk_at "loc"
  walk_at "loc"
  exact w_shr h0 (ev_int (w_band (ev_int (w_eq q))))

theorem negated_lit (c : Cx B) {mk kk : Nat} (mt : MkAt c.cBR mk kk H) (b : BankAt c.cTB fsB β H) (o : Base β) (hl : β.terms.length ≤ 400000) {t : Nat} (x : Lit β t)
    (q : ∀ (r : Nat) β' H', Grow β β' 1 0 → Neg β' t r → BankAt c.cTB fsB β' H' → Keep H H' → Q (.int (r : Int)) H') :
    CallC prg w B (d + 3) c.f_BoolRewriter_negated [.ref (mk + 1), .int (t : Int)] H Q := by
  refine call_def c.F_BoolRewriter_negated rfl ?_
  walk_at "vals"
  refine evS_cons (ev1_Return (ev_Do c.X rfl rfl (by decide) rfl c.cls_cTB b.h4 b.h3 c.M_BoolBank_not_of na_not_of c.F_BoolBank_not_of (d' := d + 2) (by walk_at "om") (ev_At c.X rfl c.cls_cBR mt.h2 mt.h1 c.A_bank (by with_reducible walk_at "flook") rfl ?_)))
  walk_at "obj"
  refine ⟨rfl, rfl, ?_⟩
  walk_at "loc"
  exact not_lit_spec c b o hl x q
theorem negated_neg (c : Cx B) {mk kk : Nat} (mt : MkAt c.cBR mk kk H) (b : BankAt c.cTB fsB β H) (o : Base β) (hl : β.terms.length ≤ 400000) {t r : Nat} (x : Neg β t r)
    (q : ∀ β' H', Grow β β' 1 0 → BankAt c.cTB fsB β' H' → Keep H H' → Q (.int (t : Int)) H') :
    CallC prg w B (d + 3) c.f_BoolRewriter_negated [.ref (mk + 1), .int (r : Int)] H Q := by
  refine call_def c.F_BoolRewriter_negated rfl ?_
  walk_at "vals"
  refine evS_cons (ev1_Return (ev_Do c.X rfl rfl (by decide) rfl c.cls_cTB b.h4 b.h3 c.M_BoolBank_not_of na_not_of c.F_BoolBank_not_of (d' := d + 2) (by walk_at "om") (ev_At c.X rfl c.cls_cBR mt.h2 mt.h1 c.A_bank (by with_reducible walk_at "flook") rfl ?_)))
  walk_at "obj"
  refine ⟨rfl, rfl, ?_⟩
  walk_at "loc"
  exact not_neg_spec c b o hl x q

theorem kinds_ne : (Str.ofString "extract" == Str.ofString "bvnot") = false ∧ (Str.ofString "concat" == Str.ofString "bvnot") = false ∧ (Str.ofString "concat" == Str.ofString "extract") = false ∧
  (Str.ofString "zero_extend" == Str.ofString "bvnot") = false ∧ (Str.ofString "zero_extend" == Str.ofString "extract") = false ∧ (Str.ofString "zero_extend" == Str.ofString "concat") = false ∧
  (Str.ofString "sign_extend" == Str.ofString "bvnot") = false ∧ (Str.ofString "sign_extend" == Str.ofString "extract") = false ∧ (Str.ofString "sign_extend" == Str.ofString "concat") = false ∧ (Str.ofString "sign_extend" == Str.ofString "zero_extend") = false ∧
  (Str.ofString "bvnum" == Str.ofString "bvnot") = false ∧ (Str.ofString "bvnum" == Str.ofString "extract") = false ∧ (Str.ofString "bvnum" == Str.ofString "concat") = false ∧ (Str.ofString "bvnum" == Str.ofString "zero_extend") = false ∧ (Str.ofString "bvnum" == Str.ofString "sign_extend") = false ∧
  (Str.ofString "app" == Str.ofString "bvnot") = false ∧ (Str.ofString "app" == Str.ofString "extract") = false ∧ (Str.ofString "app" == Str.ofString "concat") = false ∧ (Str.ofString "app" == Str.ofString "zero_extend") = false ∧ (Str.ofString "app" == Str.ofString "sign_extend") = false ∧
  (Str.ofString "app" == Str.ofString "bvnum") = false ∧ (Str.ofString "zero_extend" == Str.ofString "bvnum") = false := by decide +kernel

/-- the first lines of bit_within -/
theorem within_head (c : Cx B) {mk kk : Nat} (mt : MkAt c.cBR mk kk H) (b : BankAt c.cTB fsB β H) (hl : β.terms.length ≤ 400000) {i : Int} {t : Nat} {x : T} (ht : β.terms[t]? = some x)
    (q : EvS prg w B nm_BitsRewriter_bit_within (d + 2) bd_BitsRewriter_bit_within.tail [some (.ref (mk + 1)), some (.int i), some (.int (t : Int)), some (.str x.op), some (.tup (x.args.map .int)), none, none] H fun fl _ H' => match fl with | .ret v => Q v H' | .next => Q .none H' | _ => False) :
    CallC prg w B (d + 3) c.f_BitsRewriter_bit_within [.ref (mk + 1), .int i, .int (t : Int)] H Q := by
  refine call_def c.F_BitsRewriter_bit_within rfl ?_
  walk_at "vals"
  refine evS_cons (ev1_AssignTup (xs := [(Str.ofString "kind", _), (Str.ofString "args", _)]) (fun _ => rfl) (fun _ => swapped_or rfl) (ev_Tuple rfl (by decide) (ev_Do c.X rfl rfl (by decide) rfl c.cls_cTB b.h4 b.h3 c.M_Bank_op na_op c.F_Bank_op (d' := d + 1) (by walk_at "om") (ev_At c.X rfl c.cls_cBR mt.h2 mt.h1 c.A_bank (by with_reducible walk_at "flook") rfl ?_))))
  walk_at "obj"
  refine ⟨rfl, rfl, ?_⟩
  walk_at "loc"
  refine op_spec c b hl ht (ev_Do c.X rfl rfl (by decide) rfl c.cls_cTB b.h4 b.h3 c.M_Bank_args na_args c.F_Bank_args (d' := d + 1) (by walk_at "om") (ev_At c.X rfl c.cls_cBR mt.h2 mt.h1 c.A_bank (by with_reducible walk_at "flook") rfl ?_))
  walk_at "obj"
  refine ⟨rfl, rfl, ?_⟩
  walk_at "loc"
  refine args_spec c b hl ht ⟨by simp, _, rfl, rfl, _, ?_, ?_, q⟩
  · exact .cons (by with_reducible walk_at "put") (.inl rfl) (.cons (by with_reducible walk_at "put") (.inl rfl) .nil)
  · exact .cons (by with_reducible walk_at "put") (.inl rfl) (.cons (by with_reducible walk_at "put") (.inl rfl) .nil)
end

section
variable {w : World} {B : Heap} {d : Nat} {H : List O} {Q : V → List O → Prop} {β : Bk}

theorem one_arg {u : Nat} {Q' : V → List O → Prop} (q : Q' (.int (u : Int)) H) : WItem prg w B d (.tup ([(u : Int)].map .int)) (.int 0) H Q' := i_tup (by decide) (by decide) rfl q

theorem within_not (c : Cx B) {mk kk : Nat} (mt : MkAt c.cBR mk kk H) (b : BankAt c.cTB fsB β H) (hl : β.terms.length ≤ 400000) {i s : Int} {t u : Nat} (ht : β.terms[t]? = some (bvnotT s u)) (q : Q (.tup [.int i, .int (u : Int)]) H) :
    CallC prg w B (d + 3) c.f_BitsRewriter_bit_within [.ref (mk + 1), .int i, .int (t : Int)] H Q := by
  refine within_head c mt b hl ht ?_
  refine evS_cons (ev1_If (evT_Cmp rfl ?_))
  walk_at "loc"
  refine ev_str (w_eqs ⟨_, rfl, fun h => ?_, fun h => ?_⟩)
  · refine evS_cons (ev1_Return (ev_Tuple rfl (by decide) ?_))
    walk_at "loc"
    refine ev_Sub ?_
    walk_at "loc"
    exact ev_int (one_arg ⟨by simp, q⟩)
  · simp at h

theorem within_step (c : Cx B) {mk kk : Nat} (mt : MkAt c.cBR mk kk H) (b : BankAt c.cTB fsB β H) (hl : β.terms.length ≤ 400000) (hw : β.widths.length ≤ 100000) {i j : Int} {t u : Nat} (x : Step β i t j u) (q : Q (.tup [.int j, .int (u : Int)]) H) :
    CallC prg w B (d + 3) c.f_BitsRewriter_bit_within [.ref (mk + 1), .int i, .int (t : Int)] H Q := by
  obtain ⟨k1, k2, k3, k4, k5, k6, k7, k8, k9, k10, -⟩ := kinds_ne
  cases x with
  | ext ht =>
    refine within_head c mt b hl ht ?_
    refine evS_cons (ev1_If (evT_Cmp rfl ?_))
    walk_at "loc"
    refine ev_str (w_eqs ⟨_, rfl, fun h => ?_, fun h => ?_⟩)
    · rw [k1] at h; cases h
    refine evS_nil (evS_cons (ev1_If (evT_Cmp rfl ?_)))
    walk_at "loc"
    refine ev_str (w_eqs ⟨_, rfl, fun h => ?_, fun h => ?_⟩)
    · refine evS_cons (ev1_Return (ev_Tuple rfl (by decide) (ev_BinOp ?_)))
      walk_at "loc"
      refine ev_Sub (ev_Do c.X rfl rfl (by decide) rfl c.cls_cTB b.h4 b.h3 c.M_Bank_data na_data c.F_Bank_data (d' := d + 1) (by walk_at "om") (ev_At c.X rfl c.cls_cBR mt.h2 mt.h1 c.A_bank (by with_reducible walk_at "flook") rfl ?_))
      walk_at "obj"
      refine ⟨rfl, rfl, ?_⟩
      walk_at "loc"
      refine data_spec c b hl ht (ev_int (i_tup (by decide) (by decide) rfl (w_add (ev_Sub ?_))))
      walk_at "loc"
      exact ev_int (one_arg ⟨by simp, q⟩)
    · simp at h
  | low ht hwd hlt =>
    obtain ⟨y, hy, hyw⟩ := hwd
    refine within_head c mt b hl ht ?_
    refine evS_cons (ev1_If (evT_Cmp rfl ?_))
    walk_at "loc"
    refine ev_str (w_eqs ⟨_, rfl, fun h => ?_, fun h => ?_⟩)
    · rw [k2] at h; cases h
    refine evS_nil (evS_cons (ev1_If (evT_Cmp rfl ?_)))
    walk_at "loc"
    refine ev_str (w_eqs ⟨_, rfl, fun h => ?_, fun h => ?_⟩)
    · rw [k3] at h; cases h
    refine evS_nil (evS_cons (ev1_If (evT_Cmp rfl ?_)))
    walk_at "loc"
    refine ev_str (w_eqs ⟨_, rfl, fun h => ?_, fun h => ?_⟩)
    · refine evS_cons (ev1_Assign (fun _ => rfl) (ev_Do c.X rfl rfl (by decide) rfl c.cls_cTB b.h4 b.h3 c.M_Bank_width na_width c.F_Bank_width (d' := d + 1) (by walk_at "om") (ev_At c.X rfl c.cls_cBR mt.h2 mt.h1 c.A_bank (by with_reducible walk_at "flook") rfl ?_)))
      walk_at "obj"
      refine ⟨rfl, rfl, ev_Sub ?_⟩
      walk_at "loc"
      refine ev_int (i_tup (by decide) (by decide) rfl ?_)
      refine width_spec c b hl hw hy hyw ?_
      walk_at "asg"
      refine evS_cons (ev1_Return (ev_IfExp (evT_Cmp rfl ?_)))
      walk_at "loc"
      walk_at "loc"
      refine w_lt ⟨_, rfl, fun h => ?_, fun h => ?_⟩
      · refine ev_Tuple rfl (by decide) ?_
        walk_at "loc"
        refine ev_Sub ?_
        walk_at "loc"
        exact ev_int (i_tup (by decide) (by decide) rfl ⟨by simp, q⟩)
      · simp at h; walk_at "om"
    · simp at h
  | high ht hwd hge =>
    obtain ⟨y, hy, hyw⟩ := hwd
    refine within_head c mt b hl ht ?_
    refine evS_cons (ev1_If (evT_Cmp rfl ?_))
    walk_at "loc"
    refine ev_str (w_eqs ⟨_, rfl, fun h => ?_, fun h => ?_⟩)
    · rw [k2] at h; cases h
    refine evS_nil (evS_cons (ev1_If (evT_Cmp rfl ?_)))
    walk_at "loc"
    refine ev_str (w_eqs ⟨_, rfl, fun h => ?_, fun h => ?_⟩)
    · rw [k3] at h; cases h
    refine evS_nil (evS_cons (ev1_If (evT_Cmp rfl ?_)))
    walk_at "loc"
    refine ev_str (w_eqs ⟨_, rfl, fun h => ?_, fun h => ?_⟩)
    · refine evS_cons (ev1_Assign (fun _ => rfl) (ev_Do c.X rfl rfl (by decide) rfl c.cls_cTB b.h4 b.h3 c.M_Bank_width na_width c.F_Bank_width (d' := d + 1) (by walk_at "om") (ev_At c.X rfl c.cls_cBR mt.h2 mt.h1 c.A_bank (by with_reducible walk_at "flook") rfl ?_)))
      walk_at "obj"
      refine ⟨rfl, rfl, ev_Sub ?_⟩
      walk_at "loc"
      refine ev_int (i_tup (by decide) (by decide) rfl ?_)
      refine width_spec c b hl hw hy hyw ?_
      walk_at "asg"
      refine evS_cons (ev1_Return (ev_IfExp (evT_Cmp rfl ?_)))
      walk_at "loc"
      walk_at "loc"
      refine w_lt ⟨_, rfl, fun h => ?_, fun h => ?_⟩
      · simp at h; walk_at "om"
      · refine ev_Tuple rfl (by decide) (ev_BinOp ?_)
        walk_at "loc"
        walk_at "loc"
        refine w_sub (ev_Sub ?_)
        walk_at "loc"
        exact ev_int (i_tup (by decide) (by decide) rfl ⟨by simp, q⟩)
    · simp at h
  | zext ht hwd hlt =>
    obtain ⟨y, hy, hyw⟩ := hwd
    refine within_head c mt b hl ht ?_
    refine evS_cons (ev1_If (evT_Cmp rfl ?_))
    walk_at "loc"
    refine ev_str (w_eqs ⟨_, rfl, fun h => ?_, fun h => ?_⟩)
    · rw [k4] at h; cases h
    refine evS_nil (evS_cons (ev1_If (evT_Cmp rfl ?_)))
    walk_at "loc"
    refine ev_str (w_eqs ⟨_, rfl, fun h => ?_, fun h => ?_⟩)
    · rw [k5] at h; cases h
    refine evS_nil (evS_cons (ev1_If (evT_Cmp rfl ?_)))
    walk_at "loc"
    refine ev_str (w_eqs ⟨_, rfl, fun h => ?_, fun h => ?_⟩)
    · rw [k6] at h; cases h
    refine evS_nil (evS_cons (ev1_If (evT_And (evT_Cmp rfl ?_))))
    walk_at "loc"
    refine ev_str (w_eqs ⟨_, rfl, fun h => ?_, fun h => ?_⟩)
    · refine evT_Cmp rfl ?_
      walk_at "loc"
      refine ev_Do c.X rfl rfl (by decide) rfl c.cls_cTB b.h4 b.h3 c.M_Bank_width na_width c.F_Bank_width (d' := d + 1) (by walk_at "om") (ev_At c.X rfl c.cls_cBR mt.h2 mt.h1 c.A_bank (by with_reducible walk_at "flook") rfl ?_)
      walk_at "obj"
      refine ⟨rfl, rfl, ev_Sub ?_⟩
      walk_at "loc"
      refine ev_int (one_arg ?_)
      refine width_spec c b hl hw hy hyw (w_lt ⟨_, rfl, fun h => ⟨fun _ => ?_, fun h => ?_⟩, fun h => ⟨fun h => ?_, fun h => ?_⟩⟩)
      · refine evS_cons (ev1_Return (ev_Tuple rfl (by decide) ?_))
        walk_at "loc"
        refine ev_Sub ?_
        walk_at "loc"
        exact ev_int (one_arg ⟨by simp, q⟩)
      · cases h
      · cases h
      · rename_i h1; simp at h1; walk_at "om"
    · simp at h
  | sext ht hwd =>
    obtain ⟨y, hy, hyw⟩ := hwd
    refine within_head c mt b hl ht ?_
    refine evS_cons (ev1_If (evT_Cmp rfl ?_))
    walk_at "loc"
    refine ev_str (w_eqs ⟨_, rfl, fun h => ?_, fun h => ?_⟩)
    · rw [k7] at h; cases h
    refine evS_nil (evS_cons (ev1_If (evT_Cmp rfl ?_)))
    walk_at "loc"
    refine ev_str (w_eqs ⟨_, rfl, fun h => ?_, fun h => ?_⟩)
    · rw [k8] at h; cases h
    refine evS_nil (evS_cons (ev1_If (evT_Cmp rfl ?_)))
    walk_at "loc"
    refine ev_str (w_eqs ⟨_, rfl, fun h => ?_, fun h => ?_⟩)
    · rw [k9] at h; cases h
    refine evS_nil (evS_cons (ev1_If (evT_And (evT_Cmp rfl ?_))))
    walk_at "loc"
    refine ev_str (w_eqs ⟨_, rfl, fun h => ?_, fun h => ⟨fun h => (by cases h), fun _ => ?_⟩⟩)
    · rw [k10] at h; cases h
    refine evS_nil (evS_cons (ev1_If (evT_Cmp rfl ?_)))
    walk_at "loc"
    refine ev_str (w_eqs ⟨_, rfl, fun h => ?_, fun h => ?_⟩)
    · refine evS_cons (ev1_Return (ev_Tuple rfl (by decide) (ev_Bi rfl (by with_reducible walk_at "has") c.U_min ?_)))
      walk_at "loc"
      refine ev_BinOp (ev_Do c.X rfl rfl (by decide) rfl c.cls_cTB b.h4 b.h3 c.M_Bank_width na_width c.F_Bank_width (d' := d + 1) (by walk_at "om") (ev_At c.X rfl c.cls_cBR mt.h2 mt.h1 c.A_bank (by with_reducible walk_at "flook") rfl ?_))
      walk_at "obj"
      refine ⟨rfl, rfl, ev_Sub ?_⟩
      walk_at "loc"
      refine ev_int (one_arg ?_)
      refine width_spec c b hl hw hy hyw (ev_int (w_sub (c_min (ev_Sub ?_))))
      walk_at "loc"
      exact ev_int (one_arg ⟨by simp, q⟩)
    · simp at h

/-- where there is no step -/
theorem within_none (c : Cx B) {mk kk : Nat} (mt : MkAt c.cBR mk kk H) (b : BankAt c.cTB fsB β H) (hl : β.terms.length ≤ 400000) {i : Int} {t : Nat} {x : T} (ht : β.terms[t]? = some x)
    (e1 : (x.op == Str.ofString "bvnot") = false) (e2 : (x.op == Str.ofString "extract") = false) (e3 : (x.op == Str.ofString "concat") = false) (e4 : (x.op == Str.ofString "zero_extend") = false) (e5 : (x.op == Str.ofString "sign_extend") = false) (q : Q .none H) :
    CallC prg w B (d + 3) c.f_BitsRewriter_bit_within [.ref (mk + 1), .int i, .int (t : Int)] H Q := by
  refine within_head c mt b hl ht ?_
  refine evS_cons (ev1_If (evT_Cmp rfl ?_))
  walk_at "loc"
  refine ev_str (w_eqs ⟨_, rfl, fun h => ?_, fun h => ?_⟩)
  · rw [e1] at h; cases h
  refine evS_nil (evS_cons (ev1_If (evT_Cmp rfl ?_)))
  walk_at "loc"
  refine ev_str (w_eqs ⟨_, rfl, fun h => ?_, fun h => ?_⟩)
  · rw [e2] at h; cases h
  refine evS_nil (evS_cons (ev1_If (evT_Cmp rfl ?_)))
  walk_at "loc"
  refine ev_str (w_eqs ⟨_, rfl, fun h => ?_, fun h => ?_⟩)
  · rw [e3] at h; cases h
  refine evS_nil (evS_cons (ev1_If (evT_And (evT_Cmp rfl ?_))))
  walk_at "loc"
  refine ev_str (w_eqs ⟨_, rfl, fun h => ?_, fun h => ⟨fun h => (by cases h), fun _ => ?_⟩⟩)
  · rw [e4] at h; cases h
  refine evS_nil (evS_cons (ev1_If (evT_Cmp rfl ?_)))
  walk_at "loc"
  refine ev_str (w_eqs ⟨_, rfl, fun h => ?_, fun h => ?_⟩)
  · rw [e5] at h; cases h
  exact evS_nil (evS_cons (ev1_Return (ev_none q)))
theorem within_zext (c : Cx B) {mk kk : Nat} (mt : MkAt c.cBR mk kk H) (b : BankAt c.cTB fsB β H) (hl : β.terms.length ≤ 400000) (hw : β.widths.length ≤ 100000) {i s dd wu : Int} {t u : Nat} (ht : β.terms[t]? = some (zextT s u dd)) (hwd : Wd β u wu) (hge : wu ≤ i) (q : Q .none H) :
    CallC prg w B (d + 3) c.f_BitsRewriter_bit_within [.ref (mk + 1), .int i, .int (t : Int)] H Q := by
  obtain ⟨k1, k2, k3, k4, k5, k6, k7, k8, k9, k10, -⟩ := kinds_ne
  obtain ⟨y, hy, hyw⟩ := hwd
  refine within_head c mt b hl ht ?_
  refine evS_cons (ev1_If (evT_Cmp rfl ?_))
  walk_at "loc"
  refine ev_str (w_eqs ⟨_, rfl, fun h => ?_, fun h => ?_⟩)
  · rw [k4] at h; cases h
  refine evS_nil (evS_cons (ev1_If (evT_Cmp rfl ?_)))
  walk_at "loc"
  refine ev_str (w_eqs ⟨_, rfl, fun h => ?_, fun h => ?_⟩)
  · rw [k5] at h; cases h
  refine evS_nil (evS_cons (ev1_If (evT_Cmp rfl ?_)))
  walk_at "loc"
  refine ev_str (w_eqs ⟨_, rfl, fun h => ?_, fun h => ?_⟩)
  · rw [k6] at h; cases h
  refine evS_nil (evS_cons (ev1_If (evT_And (evT_Cmp rfl ?_))))
  walk_at "loc"
  refine ev_str (w_eqs ⟨_, rfl, fun h => ?_, fun h => ?_⟩)
  · refine evT_Cmp rfl ?_
    walk_at "loc"
    refine ev_Do c.X rfl rfl (by decide) rfl c.cls_cTB b.h4 b.h3 c.M_Bank_width na_width c.F_Bank_width (d' := d + 1) (by walk_at "om") (ev_At c.X rfl c.cls_cBR mt.h2 mt.h1 c.A_bank (by with_reducible walk_at "flook") rfl ?_)
    walk_at "obj"
    refine ⟨rfl, rfl, ev_Sub ?_⟩
    walk_at "loc"
    refine ev_int (one_arg ?_)
    refine width_spec c b hl hw hy hyw (w_lt ⟨_, rfl, fun h => ⟨fun _ => ?_, fun h => ?_⟩, fun h => ⟨fun h => ?_, fun _ => ?_⟩⟩)
    · simp at h; walk_at "om"
    · cases h
    · cases h
    · refine evS_nil (evS_cons (ev1_If (evT_Cmp rfl ?_)))
      walk_at "loc"
      refine ev_str (w_eqs ⟨_, rfl, fun h => ?_, fun h => ?_⟩)
      · have : (Str.ofString "zero_extend" == Str.ofString "sign_extend") = false := by decide +kernel
        rw [this] at h; cases h
      · exact evS_nil (evS_cons (ev1_Return (ev_none q)))
  · simp at h
end

/-- what bit_within gives back at a place -/
inductive Near (β : Bk) (b : Nat) : Nat → Int → Nat → Nat → V → Prop
  | stop {i : Int} {t m : Nat} : Den β b 0 i t m → Near β b 0 i t m .none
  | go {i j : Int} {t u n m : Nat} {x : T} : β.terms[t]? = some x → Den β b n j u m → Near β b (n + 1) i t (m + if x.op == Str.ofString "bvnot" then 1 else 0) (.tup [.int j, .int (u : Int)])

section
variable {w : World} {B : Heap} {d : Nat} {H : List O} {Q : V → List O → Prop} {β : Bk}

theorem within_den (c : Cx B) {mk kk : Nat} (mt : MkAt c.cBR mk kk H) (b : BankAt c.cTB fsB β H) (hl : β.terms.length ≤ 400000) (hw : β.widths.length ≤ 100000) {bb n t m : Nat} {i : Int} (x : Den β bb n i t m) (q : ∀ v, Near β bb n i t m v → Q v H) :
    CallC prg w B (d + 3) c.f_BitsRewriter_bit_within [.ref (mk + 1), .int i, .int (t : Int)] H Q := by
  obtain ⟨k1, k2, k3, k4, k5, k6, k7, k8, k9, k10, k11, k12, k13, k14, k15, k16, k17, k18, k19, k20, -⟩ := kinds_ne
  have x' := x
  cases x with
  | num h h0 h1 => exact within_none c mt b hl h k11 k12 k13 k14 k15 (q _ (.stop x'))
  | app h h1 h2 h3 h4 h5 => exact within_none c mt b hl h k16 k17 k18 k19 k20 (q _ (.stop x'))
  | zext h h1 h2 h3 => exact within_zext c mt b hl hw h h1 h2 (q _ (.stop x'))
  | not h y =>
    have e : (Str.ofString "bvnot" == Str.ofString "bvnot") = true := by simp
    have := Near.go (i := i) h y
    rw [show (bvnotT _ _).op = Str.ofString "bvnot" from rfl, e] at this
    exact within_not c mt b hl h (q _ this)
  | step h y =>
    have go : ∀ {xx : T}, β.terms[t]? = some xx → (xx.op == Str.ofString "bvnot") = false → Near β bb _ i t m _ := fun {xx} hx e => by
      have := Near.go (i := i) hx y
      rw [e] at this
      simpa using this
    refine within_step c mt b hl hw h (q _ ?_)
    cases h with
    | ext h => exact go h k1
    | low h _ _ => exact go h k2
    | high h _ _ => exact go h k2
    | zext h _ _ => exact go h k4
    | sext h _ => exact go h k7

/-- the bit of a place, turned as often as the way there tells -/
theorem bit_of_spec (c : Cx B) {mk kk : Nat} (mt : MkAt c.cBR mk kk H) (b : BankAt c.cTB fsB β H) (o : Base β) {bb n t m : Nat} {i : Int} (x : Den β bb n i t m) (hl : β.terms.length + m + 5 ≤ 400000) (hw : β.widths.length ≤ 100000)
    (q : ∀ (r : Nat) β' H', Grow β β' (m + 1) 0 → (m % 2 = 0 → r = bb) → (m % 2 = 1 → Neg β' bb r) → BankAt c.cTB fsB β' H' → Keep H H' → Q (.int (r : Int)) H') :
    CallC prg w B (d + 4) c.f_BitsRewriter_bit_of [.ref (mk + 1), .int i, .int (t : Int)] H Q := by
  obtain ⟨k1, k2, k3, k4, k5, k6, k7, k8, k9, k10, k11, k12, k13, k14, k15, k16, k17, k18, k19, k20, k21, k22⟩ := kinds_ne
  refine call_def c.F_BitsRewriter_bit_of rfl ?_
  walk_at "vals"
  refine evS_cons (ev1_Assign (fun _ => rfl) (ev_int ?_))
  walk_at "asg"
  refine evS_cons (ev1_Assign (fun _ => rfl) (ev_Do c.X rfl rfl (by decide) rfl c.cls_cBR mt.h2 mt.h1 c.M_BitsRewriter_bit_within (na_bit_within _) c.F_BitsRewriter_bit_within (d' := d + 3) (by walk_at "om") ?_))
  walk_at "obj"
  walk_at "loc"
  walk_at "loc"
  refine within_den c mt b (by walk_at "om") hw x fun v hv => ?_
  walk_at "asg"
  refine evS_cons (ev1_While (fun n vals H' => H' = H ∧ ∃ (i : Int) (t m' many : Nat) (v : V), vals = [some (.ref (mk + 1)), some (.int i), some (.int (t : Int)), some (.int (many : Int)), some v, none, none, none, none] ∧ Near β bb n i t m' v ∧ many + m' = m) ?_ n ⟨rfl, i, t, m, 0, v, rfl, hv, by walk_at "om"⟩)
  rintro n vals H' ⟨rfl, i, t, m', many, v, rfl, hv, hm⟩
  refine evT_Cmp rfl ?_
  walk_at "loc"
  refine ev_none (w_isnot_none (by cases hv <;> rfl) ⟨_, rfl, fun h => ?_, fun h => ?_⟩)
  · -- the end
    cases hv with
    | go => simp [isNoneV] at h
    | stop x0 =>
      -- what is found at the place
      have tail : ∀ (β₁ : Bk) (H₁ : List O), Grow β β₁ 1 0 → BankAt c.cTB fsB β₁ H₁ → Keep H' H₁ → many = m →
          EvS prg w B nm_BitsRewriter_bit_of (d + 3) (bd_BitsRewriter_bit_of.drop 4) [some (.ref (mk + 1)), some (.int i), some (.int (t : Int)), some (.int (many : Int)), some .none, some (.int (bb : Int)), none, none, none] H₁ fun fl _ H' => match fl with | .ret v => Q v H' | .next => Q .none H' | _ => False := by
        intro β₁ H₁ g₁ b₁ kp₁ em
        subst em
        refine evS_cons (ev1_For (.rng (many : Int)) many (fun lap vals H₂ => ∃ (r : Nat) (β₂ : Bk) (lv : Option V), vals = [some (.ref (mk + 1)), some (.int i), some (.int (t : Int)), some (.int (many : Int)), some .none, some (.int (r : Int)), lv, none, none] ∧ lap ≤ many ∧ Grow β β₂ (lap + 1) 0 ∧ (lap % 2 = 0 → r = bb) ∧ (lap % 2 = 1 → Neg β₂ bb r) ∧ BankAt c.cTB fsB β₂ H₂ ∧ Keep H' H₂) (fun _ _ => rfl) ?_ ?_ ?_ ?_)
        · refine ev_Bi rfl (by with_reducible walk_at "has") c.U_range ?_
          walk_at "loc"
          exact c_range ⟨.rng, bb, β₁, none, rfl, by walk_at "om", g₁, fun _ => rfl, fun h => by simp at h, b₁, kp₁⟩
        · rintro lap vals H₂ ⟨r, β₂, lv, rfl, hle, _⟩
          exact ⟨⟨by walk_at "om", by walk_at "om"⟩, hle⟩
        · rintro lap vals H₂ ⟨r, β₂, lv, rfl, hle, g₂, p1, p2, b₂, kp₂⟩ hn
          have hlap : lap = many := by
            simp only [itemAt] at hn
            split at hn
            · cases hn
            · walk_at "om"
          subst hlap
          refine evS_cons (ev1_Return ?_)
          walk_at "loc"
          exact q r β₂ H₂ g₂ p1 p2 b₂ kp₂
        · rintro lap vals H₂ vv ⟨r, β₂, lv, rfl, hle, g₂, p1, p2, b₂, kp₂⟩ hn
          have hlt : lap < many := by
            simp only [itemAt] at hn
            split at hn
            · walk_at "om"
            · cases hn
          refine ⟨_, .name (by with_reducible walk_at "put") (.inl rfl), ?_⟩
          have tl := g₂.tl
          have mt₂ := mt.keep kp₂
          refine evS_cons (ev1_Assign (fun _ => rfl) (ev_Do c.X rfl rfl (by decide) rfl c.cls_cBR mt₂.h2 mt₂.h1 c.M_BoolRewriter_negated (na_negated _) c.F_BoolRewriter_negated (d' := d + 3) (by walk_at "om") ?_))
          walk_at "obj"
          walk_at "loc"
          rcases Nat.mod_two_eq_zero_or_one lap with he | ho
          · obtain rfl := p1 he
            refine negated_lit c mt₂ b₂ (o.grow g₂) (by walk_at "om") (x.lit.grow g₂) fun r' β₃ H₃ g₃ ng b₃ kp₃ => ?_
            walk_at "asg"
            exact evS_nil ⟨r', β₃, _, rfl, by walk_at "om", (g₂.trans g₃).mono (by walk_at "om") (by walk_at "om"), fun h => by walk_at "om", fun _ => ng, b₃, kp₂.trans kp₃⟩
          · refine negated_neg c mt₂ b₂ (o.grow g₂) (by walk_at "om") (p2 ho) fun β₃ H₃ g₃ b₃ kp₃ => ?_
            walk_at "asg"
            exact evS_nil ⟨bb, β₃, _, rfl, by walk_at "om", (g₂.trans g₃).mono (by walk_at "om") (by walk_at "om"), fun _ => rfl, fun h => by walk_at "om", b₃, kp₂.trans kp₃⟩
      have x1 := x0
      cases x0 with
      | @num s0 v0 _ _ hh h0 h1 =>
        refine evS_cons (ev1_If (evT_Cmp rfl (ev_Do c.X rfl rfl (by decide) rfl c.cls_cTB b.h4 b.h3 c.M_Bank_op na_op c.F_Bank_op (d' := d + 1) (by walk_at "om") (ev_At c.X rfl c.cls_cBR mt.h2 mt.h1 c.A_bank (by with_reducible walk_at "flook") rfl ?_))))
        walk_at "obj"
        refine ⟨rfl, rfl, ?_⟩
        walk_at "loc"
        refine op_spec c b (by walk_at "om") hh (ev_str (w_eqs ⟨_, rfl, fun h => ?_, fun h => ?_⟩))
        · refine evS_cons (ev1_Assign (fun _ => rfl) (ev_Do c.X rfl rfl (by decide) rfl c.cls_cTB b.h4 b.h3 c.M_Bank_bool_term na_bool_term c.F_Bank_bool_term (d' := d + 1) (by walk_at "om") (ev_At c.X rfl c.cls_cBR mt.h2 mt.h1 c.A_bank (by with_reducible walk_at "flook") rfl ?_)))
          walk_at "obj"
          refine ⟨rfl, rfl, ev_Fn rfl (by with_reducible walk_at "has") c.G_bit_value c.F_bit_value (d' := d + 1) (by walk_at "om") (ev_Do c.X rfl rfl (by decide) rfl c.cls_cTB b.h4 b.h3 c.M_Bank_data na_data c.F_Bank_data (d' := d + 1) (by walk_at "om") (ev_At c.X rfl c.cls_cBR mt.h2 mt.h1 c.A_bank (by with_reducible walk_at "flook") rfl ?_))⟩
          walk_at "obj"
          refine ⟨rfl, rfl, ?_⟩
          walk_at "loc"
          refine data_spec c b (by walk_at "om") hh ?_
          walk_at "loc"
          refine value_spec c h0 (bool_spec c b (bitVal v0 i) ?_)
          have e : (if bitVal v0 i then 1 else 2 : Int) = ((bb : Nat) : Int) := by rw [h1]; split <;> rfl
          rw [e]
          walk_at "asg"
          exact evS_nil (tail β H' ((Grow.refl β).mono (by walk_at "om") (by walk_at "om")) b (.refl _) (by walk_at "om"))
        · simp at h
      | app hh h1 h2 h3 h4 h5 =>
        obtain ⟨y, hy, hyw⟩ := h1
        refine evS_cons (ev1_If (evT_Cmp rfl (ev_Do c.X rfl rfl (by decide) rfl c.cls_cTB b.h4 b.h3 c.M_Bank_op na_op c.F_Bank_op (d' := d + 1) (by walk_at "om") (ev_At c.X rfl c.cls_cBR mt.h2 mt.h1 c.A_bank (by with_reducible walk_at "flook") rfl ?_))))
        walk_at "obj"
        refine ⟨rfl, rfl, ?_⟩
        walk_at "loc"
        refine op_spec c b (by walk_at "om") hh (ev_str (w_eqs ⟨_, rfl, fun h => ?_, fun h => ?_⟩))
        · rw [k21] at h; cases h
        · refine evS_cons (ev1_Assign (fun _ => rfl) (ev_IfExp (evT_Cmp rfl (ev_Do c.X rfl rfl (by decide) rfl c.cls_cTB b.h4 b.h3 c.M_Bank_op na_op c.F_Bank_op (d' := d + 1) (by walk_at "om") (ev_At c.X rfl c.cls_cBR mt.h2 mt.h1 c.A_bank (by with_reducible walk_at "flook") rfl ?_)))))
          walk_at "obj"
          refine ⟨rfl, rfl, ?_⟩
          walk_at "loc"
          refine op_spec c b (by walk_at "om") hh (ev_str (w_eqs ⟨_, rfl, fun h => ?_, fun h => ?_⟩))
          · rw [k19] at h; cases h
          · refine ev_Do c.X rfl rfl (by decide) rfl c.cls_cTB b.h4 b.h3 c.M_TermBank_bit na_bit c.F_TermBank_bit (d' := d + 3) (by walk_at "om") (ev_At c.X rfl c.cls_cBR mt.h2 mt.h1 c.A_bank (by with_reducible walk_at "flook") rfl ?_)
            walk_at "obj"
            refine ⟨rfl, rfl, ?_⟩
            walk_at "loc"
            walk_at "loc"
            refine bit_spec c b o.ok (by walk_at "om") hw hy hyw h2 h3 fun r β₁ H₁ g₁ hr1 hr b₁ kp₁ => ?_
            obtain rfl := (o.grow g₁).ok.one hr1 h4 hr (g₁.at h5)
            walk_at "asg"
            exact evS_nil (tail β₁ H₁ g₁ b₁ kp₁ (by walk_at "om"))
      | zext hh h1 h2 h3 =>
        refine evS_cons (ev1_If (evT_Cmp rfl (ev_Do c.X rfl rfl (by decide) rfl c.cls_cTB b.h4 b.h3 c.M_Bank_op na_op c.F_Bank_op (d' := d + 1) (by walk_at "om") (ev_At c.X rfl c.cls_cBR mt.h2 mt.h1 c.A_bank (by with_reducible walk_at "flook") rfl ?_))))
        walk_at "obj"
        refine ⟨rfl, rfl, ?_⟩
        walk_at "loc"
        refine op_spec c b (by walk_at "om") hh (ev_str (w_eqs ⟨_, rfl, fun h => ?_, fun h => ?_⟩))
        · rw [k22] at h; cases h
        · refine evS_cons (ev1_Assign (fun _ => rfl) (ev_IfExp (evT_Cmp rfl (ev_Do c.X rfl rfl (by decide) rfl c.cls_cTB b.h4 b.h3 c.M_Bank_op na_op c.F_Bank_op (d' := d + 1) (by walk_at "om") (ev_At c.X rfl c.cls_cBR mt.h2 mt.h1 c.A_bank (by with_reducible walk_at "flook") rfl ?_)))))
          walk_at "obj"
          refine ⟨rfl, rfl, ?_⟩
          walk_at "loc"
          refine op_spec c b (by walk_at "om") hh (ev_str (w_eqs ⟨_, rfl, fun h => ?_, fun h => ?_⟩))
          · refine ev_At c.X rfl c.cls_cBR mt.h2 mt.h1 c.A_no (by with_reducible walk_at "flook") rfl ?_
            walk_at "obj"
            subst h3
            walk_at "asg"
            exact evS_nil (tail β H' ((Grow.refl β).mono (by walk_at "om") (by walk_at "om")) b (.refl _) (by walk_at "om"))
          · simp at h
  · -- one step more
    cases hv with
    | stop => simp [isNoneV] at h
    | go hx y =>
      rename_i j u n m₁ xx
      refine evS_cons (ev1_Assign (fun _ => rfl) (EvE.mono (Q := fun v H₁ => H₁ = H' ∧ ∃ many' : Nat, v = .int (many' : Int) ∧ many' + m₁ = m) ?_ ?_))
      · refine ev_IfExp (evT_Cmp rfl (ev_Do c.X rfl rfl (by decide) rfl c.cls_cTB b.h4 b.h3 c.M_Bank_op na_op c.F_Bank_op (d' := d + 1) (by walk_at "om") (ev_At c.X rfl c.cls_cBR mt.h2 mt.h1 c.A_bank (by with_reducible walk_at "flook") rfl ?_)))
        walk_at "obj"
        refine ⟨rfl, rfl, ?_⟩
        walk_at "loc"
        refine op_spec c b (by walk_at "om") hx (ev_str (w_eqs ⟨_, rfl, fun h => ?_, fun h => ?_⟩))
        · refine ev_BinOp ?_
          walk_at "loc"
          refine ev_int (w_add ?_)
          rw [h] at hm
          exact ⟨rfl, many + 1, by simp, by simp at hm; walk_at "om"⟩
        · walk_at "loc"
          rw [h] at hm
          exact ⟨rfl, many, rfl, by simp at hm; walk_at "om"⟩
      · rintro v H₁ ⟨rfl, many', rfl, hm'⟩
        walk_at "asg"
        refine evS_cons (ev1_AssignTup (xs := [(Str.ofString "i", _), (Str.ofString "a", _)]) (fun _ => rfl) ?_ ?_)
        · exact fun _ => .inl rfl
        · walk_at "loc"
          refine ⟨_, rfl, rfl, [some (.ref (mk + 1)), some (.int j), some (.int (u : Int)), some (.int (many' : Int)), some (.tup [.int j, .int (u : Int)]), none, none, none, none], ?_, ?_, ?_⟩
          · exact .cons (by with_reducible walk_at "put") (.inl rfl) (.cons (by with_reducible walk_at "put") (.inl rfl) .nil)
          · exact .cons (by with_reducible walk_at "put") (.inl rfl) (.cons (by with_reducible walk_at "put") (.inl rfl) .nil)
          · refine evS_cons (ev1_Assign (fun _ => rfl) (ev_Do c.X rfl rfl (by decide) rfl c.cls_cBR mt.h2 mt.h1 c.M_BitsRewriter_bit_within (na_bit_within _) c.F_BitsRewriter_bit_within (d' := d + 3) (by walk_at "om") ?_))
            walk_at "obj"
            walk_at "loc"
            walk_at "loc"
            refine within_den c mt b (by walk_at "om") hw y fun v hv => ?_
            walk_at "asg"
            exact evS_nil ⟨n, by walk_at "om", rfl, j, u, m₁, many', v, rfl, hv, hm'⟩
end

/-- all but the bank's own and some more stands -/
structure KB (bad : List Nat) (H H' : List O) : Prop where
  len : H.length ≤ H'.length
  at_ : ∀ i, (i < 5 ∨ 15 < i) → i ∉ bad → ∀ o, H[i]? = some o → H'[i]? = some o
theorem KB.refl (bad : List Nat) (H : List O) : KB bad H H := ⟨Nat.le_refl _, fun _ _ _ _ e => e⟩
theorem KB.trans {bad : List Nat} {H H' H'' : List O} (x : KB bad H H') (y : KB bad H' H'') : KB bad H H'' := ⟨Nat.le_trans x.len y.len, fun i h n o e => y.at_ i h n o (x.at_ i h n o e)⟩
theorem KB.mono {bad bad' : List Nat} {H H' : List O} (x : KB bad H H') (h : ∀ i ∈ bad, i ∈ bad') : KB bad' H H' := ⟨x.len, fun i hi n o e => x.at_ i hi (fun q => n (h i q)) o e⟩
theorem Keep.kb {bad : List Nat} {H H' : List O} (x : Keep H H') : KB bad H H' := ⟨x.len, fun i h _ o e => x.at_ i h o e⟩
theorem KB.app {bad : List Nat} {H l : List O} : KB bad H (H ++ l) := ⟨by simp, fun i _ _ o e => app_l e⟩
theorem Keep.app {H l : List O} : Keep H (H ++ l) := ⟨by simp, fun i _ o e => app_l e⟩
theorem KB.set {bad : List Nat} {H : List O} {i : Nat} {x : O} (h : i ∈ bad) : KB bad H (H.set i x) := ⟨by simp, fun j _ hn o e => set_ne e (fun q => hn (q ▸ h))⟩
theorem MkAt.kb {C : Addr} {m k : Nat} {bad : List Nat} {H H' : List O} (x : MkAt C m k H) (kp : KB bad H H') (h1 : m ∉ bad) (h2 : m + 1 ∉ bad) : MkAt C m k H' := ⟨x.big, kp.at_ _ (.inr x.big) h1 _ x.h1, kp.at_ _ (.inr (by have := x.big; walk_at "om")) h2 _ x.h2⟩
/-- a change elsewhere leaves the bank -/
theorem BankAt.set {C : Addr} {fs : List (Str × V)} {β : Bk} {H : List O} {i : Nat} {x : O} (b : BankAt C fs β H) (h : i < 3 ∨ 15 < i) : BankAt C fs β (H.set i x) :=
  ⟨set_ne b.h3 (by walk_at "om"), set_ne b.h4 (by walk_at "om"), set_ne b.h5 (by walk_at "om"), set_ne b.h6 (by walk_at "om"), set_ne b.h7 (by walk_at "om"), set_ne b.h8 (by walk_at "om"), set_ne b.h9 (by walk_at "om"), set_ne b.h10 (by walk_at "om"), set_ne b.h11 (by walk_at "om"), set_ne b.h12 (by walk_at "om"), set_ne b.h13 (by walk_at "om"), set_ne b.h14 (by walk_at "om"), set_ne b.h15 (by walk_at "om")⟩
theorem BankAt.app {C : Addr} {fs : List (Str × V)} {β : Bk} {H l : List O} (b : BankAt C fs β H) : BankAt C fs β (H ++ l) :=
  ⟨app_l b.h3, app_l b.h4, app_l b.h5, app_l b.h6, app_l b.h7, app_l b.h8, app_l b.h9, app_l b.h10, app_l b.h11, app_l b.h12, app_l b.h13, app_l b.h14, app_l b.h15⟩
theorem BankAt.big {C : Addr} {fs : List (Str × V)} {β : Bk} {H : List O} (b : BankAt C fs β H) : 15 < H.length := (List.getElem?_eq_some_iff.mp b.h15).1

/-- the cells and the place among them -/
structure Tin (cells : List Int) (k : Nat) (H : List O) : Prop where
  h1 : H[1]? = some (.list (cells.map .int))
  h2 : H[2]? = some (.list [.ref 1, .int (k : Int)])
  len : cells.length ≤ 1000
theorem Tin.kb {cells : List Int} {k : Nat} {bad : List Nat} {H H' : List O} (x : Tin cells k H) (kp : KB bad H H') (h1 : 1 ∉ bad) (h2 : 2 ∉ bad) : Tin cells k H' := ⟨kp.at_ _ (.inl (by decide)) h1 _ x.h1, kp.at_ _ (.inl (by decide)) h2 _ x.h2, x.len⟩
theorem Tin.keep {cells : List Int} {k : Nat} {H H' : List O} (x : Tin cells k H) (kp : Keep H H') : Tin cells k H' := ⟨kp.at_ _ (.inl (by decide)) _ x.h1, kp.at_ _ (.inl (by decide)) _ x.h2, x.len⟩
theorem bits_small {x : Int} (h : x.natAbs < 2 ^ 62) : Builtin.Int.intBits x ≤ 64 := by
  unfold Builtin.Int.intBits
  split
  · walk_at "om"
  · rename_i h0
    have hx : x.natAbs ≠ 0 := by simp at h0; walk_at "om"
    have := (Nat.log2_lt hx).mpr h
    walk_at "om"

section
variable {w : World} {B : Heap} {d : Nat} {H : List O} {Q : V → List O → Prop} {β : Bk}

theorem next_spec (c : Cx B) {cells : List Int} {k : Nat} {many : Int} (t : Tin cells k H) (hk : k ≤ 10000) (hm : 1 ≤ many)
    (q : ∀ (r : Nat) H', (r : Int) < many → Tin cells (k + 1) H' → (∃ o, H' = H.set 2 o) → Q (.int (r : Int)) H') : CallC prg w B (d + 1) c.f_law_next [.ref 2, .int many] H Q := by
  refine call_def c.F_law_next rfl ?_
  walk_at "vals"
  refine evS_cons (ev1_Assign (fun _ => rfl) (ev_Sub ?_))
  walk_at "loc"
  refine ev_int (i_list t.h2 (by decide) (by decide) rfl ?_)
  walk_at "asg"
  refine evS_cons (ev1_AssignSub (fun _ => rfl) (ev_BinOp ?_))
  walk_at "loc"
  refine ev_int (w_add ?_)
  walk_at "loc"
  refine ev_int (s_list t.h2 (by decide) (by simp) (by simp) ?_)
  have e2 : ([V.ref 1, V.int (k : Int)].set (Int.toNat 1) (.int ((k : Int) + 1))) = [.ref 1, .int ((k + 1 : Nat) : Int)] := rfl
  rw [e2]
  have t2 : Tin cells (k + 1) (H.set 2 (.list [.ref 1, .int ((k + 1 : Nat) : Int)])) := ⟨set_ne t.h1 (by decide), set_eq t.h2, t.len⟩
  have fin : ∀ x : Int, Q (.int (x.fmod many)) (H.set 2 (.list [.ref 1, .int ((k + 1 : Nat) : Int)])) := fun x => by
    have h0 := Int.fmod_nonneg_of_pos x (by walk_at "om" : 0 < many)
    have h1 := Int.fmod_lt_of_pos x (by walk_at "om" : 0 < many)
    obtain ⟨r, hr⟩ := Int.eq_ofNat_of_zero_le h0
    rw [hr]
    exact q r _ (by walk_at "om") t2 ⟨_, rfl⟩
  refine evS_cons (ev1_Return (ev_BinOp (ev_IfExp (evT_Cmp rfl ?_))))
  walk_at "loc"
  refine ev_Bi rfl (by with_reducible walk_at "has") c.U_len (ev_Sub ?_)
  walk_at "loc"
  refine ev_int (i_list t2.h2 (by decide) (by decide) rfl ?_)
  refine c_len_list t2.h1 (by simp; have := t.len; walk_at "om") (w_lt ⟨_, rfl, fun h => ?_, fun h => ?_⟩)
  · have hl := t.len
    have hlt : k < cells.length := by simp at h; walk_at "om"
    refine ev_Sub (ev_Sub ?_)
    walk_at "loc"
    refine ev_int (i_list t2.h2 (by decide) (by decide) rfl ?_)
    walk_at "loc"
    refine i_list t2.h1 (by omega) (by omega) (by rw [tn, List.getElem?_map, List.getElem?_eq_getElem hlt]; rfl) ?_
    walk_at "loc"
    exact w_mod (by walk_at "om") (fin _)
  · refine ev_BinOp (ev_BinOp (ev_BinOp (ev_BinOp (ev_BinOp (ev_int ?_)))))
    walk_at "loc"
    refine w_mul (IntMulOk.of_left (bits_small (by decide))) ?_
    walk_at "loc"
    refine w_mul (IntMulOk.of_left (bits_small (by walk_at "om"))) (ev_BinOp (ev_int ?_))
    walk_at "loc"
    refine w_mul (IntMulOk.of_left (bits_small (by decide))) (w_add (ev_int (w_add (ev_int (w_mod (by decide) ?_)))))
    walk_at "loc"
    exact w_mod (by walk_at "om") (fin _)
end

/-- the truths of a term's places -/
noncomputable def Row (β : Bk) (t : Nat) (bs : List Nat) : Prop := ∀ (k b : Nat), bs[k]? = some b → ∃ n, Den β b n (k : Int) t 0
theorem Row.grow {β β' : Bk} {t a b : Nat} {bs : List Nat} (x : Row β t bs) (g : Grow β β' a b) : Row β' t bs := fun k b h => let ⟨n, e⟩ := x k b h; ⟨n, e.grow g⟩
noncomputable abbrev natsV (bs : List Nat) : List V := bs.map fun b : Nat => V.int (b : Int)
theorem and_one {x : Int} (h : 0 ≤ x) : Builtin.bitAnd x 1 = x.fmod 2 := by
  obtain ⟨n, rfl⟩ := Int.eq_ofNat_of_zero_le h
  unfold Builtin.bitAnd
  rw [decide_eq_true h]
  show ((n &&& 1 : Nat) : Int) = _
  rw [Nat.and_one_is_mod, Int.fmod_eq_emod_of_nonneg _ (by decide)]
  walk_at "om"
theorem Wd.of {β : Bk} {t s : Nat} {x : T} {wd : Int} (h : β.terms[t]? = some x) (e : x.sort = s) (hw : β.widths[s]? = some wd) : Wd β t wd := ⟨x, h, s, e, hw⟩

section
variable {w : World} {B : Heap} {d : Nat} {H : List O} {Q : V → List O → Prop} {β : Bk}

/-- what is drawn: a term and its places' truths -/
noncomputable def Drawn (C : Addr) (β : Bk) (H : List O) (cells : List Int) (k : Nat) (wide : Nat) (Q : V → List O → Prop) : Prop :=
  ∀ (t L : Nat) (bs : List Nat) β' H' k', bs.length = wide → 1 ≤ t → Wd β' t (wide : Int) → Row β' t bs → Grow β β' (wide + 2) 3 → BankAt C fsB β' H' → KB [2] H H' → Tin cells k' H' → k' ≤ k + 1 → H'[L]? = some (.list (natsV bs)) → H.length ≤ L → Q (.tup [.int (t : Int), .ref L]) H'

theorem drawn_known (c : Cx B) (b : BankAt c.cTB fsB β H) (o : Base β) (hl : β.terms.length ≤ 300000) (hw : β.widths.length ≤ 90000) {cells : List Int} {k wide : Nat} (tin : Tin cells k H) (hk : k ≤ 10000) (h1 : 1 ≤ wide) (h2 : wide ≤ 100)
    (q : Drawn c.cTB β H cells k wide Q) : CallC prg w B (d + 4) c.f_law_drawn [.ref 2, .ref 4, .int (wide : Int), .bool true] H Q := by
  refine call_def c.F_law_drawn rfl ?_
  walk_at "vals"
  refine evS_cons (ev1_If (evT_plain (fun _ _ => rfl) ?_))
  walk_at "loc"
  refine wtr_bool ⟨fun _ => ?_, fun h => by cases h⟩
  refine evS_cons (ev1_Assign (fun _ => rfl) (ev_Fn rfl (by with_reducible walk_at "has") c.G_law_next c.F_law_next (d' := d + 1) (by walk_at "om") ?_))
  walk_at "loc"
  refine ev_BinOp (ev_int ?_)
  walk_at "loc"
  have hb2 : Builtin.Int.intBits 2 = 2 := by decide +kernel
  have hp : (0 : Int) < 2 ^ wide := Int.pow_pos (by decide)
  refine w_pow (by walk_at "om") (by rw [hb2]; walk_at "om") ?_
  rw [tn]
  refine next_spec c tin hk (by walk_at "om") fun v H₁ hv tin₁ ⟨o₁, eH⟩ => ?_
  have b₁ : BankAt c.cTB fsB β H₁ := eH ▸ b.set (.inl (by decide))
  have kp₁ : KB [2] H H₁ := eH ▸ KB.set (by simp)
  walk_at "asg"
  refine evS_cons (ev1_Return (ev_Tuple rfl (by decide) ?_))
  refine ev_Do c.X rfl rfl (by decide) rfl c.cls_cTB b₁.h4 b₁.h3 c.M_TermBank_bv_num na_bv_num c.F_TermBank_bv_num (d' := d + 2) (by walk_at "om") ?_
  walk_at "obj"
  walk_at "loc"
  walk_at "loc"
  refine num_spec c b₁ o.ok (by walk_at "om") (by walk_at "om") (by walk_at "om") (by walk_at "om") fun t s β' H₂ g ht1 ht hs b₂ kp₂ => ?_
  rw [tn] at ht
  have big := b₂.big
  let f : Nat → Nat := fun j => if ((v : Int).fdiv (2 ^ j)).fmod 2 == 1 then 1 else 2
  refine ev_CompP (.rng (wide : Int)) _ H₂ (fun j => .int ((f j : Nat) : Int)) (fun _ _ => rfl) rfl (by with_reducible walk_at "rel") (by decide +kernel) (by decide +kernel) (by with_reducible walk_at "cv") ?_ (fun ys i => rng_items wide _ i) (fun ys => rng_live wide _ (by walk_at "om")) (rng_live wide _ (by walk_at "om")) (by simp; walk_at "om") ?_ ?_
  · refine ev_Bi rfl (by with_reducible walk_at "has") c.U_range ?_
    walk_at "loc"
    exact c_range ⟨rfl, .rng⟩
  · intro i u ys hu
    obtain ⟨hi, rfl⟩ := rng_at hu
    refine ⟨_, .name (by with_reducible walk_at "putn"), ?_⟩
    have b₃ : BankAt c.cTB fsB β' (H₂ ++ [.list ys]) := b₂.app
    refine ev_Do c.X rfl rfl (by decide) rfl c.cls_cTB b₃.h4 b₃.h3 c.M_Bank_bool_term na_bool_term c.F_Bank_bool_term (d' := d + 1) (by walk_at "om") ?_
    walk_at "obj"
    refine ev_Cmp rfl (ev_BinOp (ev_BinOp ?_))
    walk_at "loc"
    refine ev_BinOp (ev_int ?_)
    walk_at "loc"
    have hpi : (0 : Int) < 2 ^ i := Int.pow_pos (by decide)
    refine w_pow (by walk_at "om") (by rw [hb2]; walk_at "om") ?_
    rw [tn]
    refine w_div (by walk_at "om") (noPylong_pow (by walk_at "om")) (ev_int (w_mod (by decide) (ev_int (w_eq ?_))))
    refine bool_spec c b₃ _ ⟨?_, rfl⟩
    show V.int _ = V.int _
    congr 1
    show _ = ((if ((v : Int).fdiv (2 ^ i)).fmod 2 == 1 then 1 else 2 : Nat) : Int)
    split <;> rfl
  · refine ⟨by simp, ?_⟩
    have el : (List.range ((List.range wide).map fun j : Nat => V.int (j : Int)).length).map (fun j => V.int ((f j : Nat) : Int)) = natsV ((List.range wide).map f) := by
      simp [natsV]
    rw [el]
    refine q t H₂.length ((List.range wide).map f) β' _ (k + 1) (by simp) ht1 (.of ht rfl hs) ?_ (g.mono (by walk_at "om") (by walk_at "om")) b₂.app ((kp₁.trans kp₂.kb).trans .app) ((tin₁.keep kp₂).keep .app) (by walk_at "om") app_r (by have := kp₁.len; have := kp₂.len; walk_at "om")
    intro j bb hj
    rw [List.getElem?_map] at hj
    obtain ⟨j', e1, e2⟩ := Option.map_eq_some_iff.mp hj
    obtain ⟨e3, e4⟩ := List.getElem?_eq_some_iff.mp e1
    simp at e4
    subst e4
    refine ⟨0, .num ht (by walk_at "om") ?_⟩
    rw [← e2]
    have hfm : ((v : Int)).fmod (1 * 2 ^ wide) = (v : Int) := by
      rw [Int.one_mul, Int.fmod_eq_emod_of_nonneg _ (by walk_at "om")]
      exact Int.emod_eq_of_lt (by walk_at "om") (by walk_at "om")
    rw [hfm]
    have hpj : (0 : Int) < 2 ^ j := Int.pow_pos (by decide)
    have hnn : 0 ≤ (v : Int).fdiv (2 ^ j) := Int.fdiv_nonneg (by walk_at "om") (by walk_at "om")
    unfold bitVal
    rw [tn, and_one hnn]
end

section
variable {w : World} {B : Heap} {d : Nat} {H : List O} {Q : V → List O → Prop} {β : Bk}

theorem drawn_unknown (c : Cx B) (b : BankAt c.cTB fsB β H) (o : Base β) (hl : β.terms.length ≤ 300000) (hw : β.widths.length ≤ 90000) (hf : β.f1.length ≤ 90000 ∧ β.f2.length ≤ 90000 ∧ β.f3.length ≤ 90000) {cells : List Int} {k wide : Nat} (tin : Tin cells k H) (h1 : 1 ≤ wide) (h2 : wide ≤ 100)
    (q : Drawn c.cTB β H cells k wide Q) : CallC prg w B (d + 4) c.f_law_drawn [.ref 2, .ref 4, .int (wide : Int), .bool false] H Q := by
  refine call_def c.F_law_drawn rfl ?_
  walk_at "vals"
  refine evS_cons (ev1_If (evT_plain (fun _ _ => rfl) ?_))
  walk_at "loc"
  refine wtr_bool ⟨fun h => (by cases h), fun _ => ?_⟩
  refine evS_nil (evS_cons (ev1_Assign (fun _ => rfl) (ev_Do c.X rfl rfl (by decide) rfl c.cls_cTB b.h4 b.h3 c.M_Bank_fresh_const na_fresh_const c.F_Bank_fresh_const (d' := d + 2) (by walk_at "om") ?_)))
  walk_at "obj"
  refine ev_str (ev_Do c.X rfl rfl (by decide) rfl c.cls_cTB b.h4 b.h3 c.M_TermBank_bv_sort na_bv_sort c.F_TermBank_bv_sort (d' := d + 1) (by walk_at "om") ?_)
  walk_at "obj"
  walk_at "loc"
  refine sort_spec c b o.ok (by walk_at "om") (by walk_at "om") (by walk_at "om") fun s β₁ H₁ g₁ et hs b₁ kp₁ => ?_
  have fn := g₁.fns
  refine const_spec c b₁ (g₁.ok o.ok) (by rw [et]; walk_at "om") (by walk_at "om") fun t β₂ H₂ g₂ ht1 ht b₂ kp₂ => ?_
  have big := b₂.big
  have hwd : β₂.widths[s]? = some (wide : Int) := g₂.wd hs
  have wdt : Wd β₂ t (wide : Int) := .of ht rfl hwd
  have tl₁ := g₁.tl
  have tl₂ := g₂.tl
  have wl₁ := g₁.wl
  have wl₂ := g₂.wl
  walk_at "asg"
  refine evS_cons (ev1_Return (ev_Tuple rfl (by decide) ?_))
  walk_at "loc"
  refine ev_ListComp (.rng (wide : Int)) H₂.length wide (fun i ys H' => ∃ (bs : List Nat) (β' : Bk), i ≤ wide ∧ bs.length = i ∧ ys = natsV bs ∧ BankAt c.cTB fsB β' H' ∧ Grow β₂ β' i 0 ∧ KB [H₂.length] (H₂ ++ [.list []]) H' ∧ H'[H₂.length]? = some (.list ys) ∧ ∀ (j bb : Nat), bs[j]? = some bb → 1 ≤ bb ∧ β'.terms[bb]? = some (bitT (j : Int) t))
    (fun _ _ => rfl) rfl (by with_reducible walk_at "rel") (by decide +kernel) (by decide +kernel) (by with_reducible walk_at "cv") ?_ ?_ ?_ ?_
  · refine ev_Bi rfl (by with_reducible walk_at "has") c.U_range ?_
    walk_at "loc"
    refine c_range ⟨.rng, rfl, rng_live wide _ (by walk_at "om"), [], β₂, by walk_at "om", rfl, rfl, b₂.app, .refl _, .refl _ _, app_r, by simp⟩
  · rintro i ys H' ⟨bs, β', hi, hbl, rfl, _, _, _, hacc, _⟩
    exact ⟨rng_live wide _ (by walk_at "om"), hi, hacc, by simp; walk_at "om"⟩
  · rintro i ys H' ⟨bs, β', hi, hbl, rfl, b', g', kp', hacc, hb⟩ hn
    rw [rng_items, List.getElem?_eq_none_iff] at hn
    simp at hn
    have e : i = wide := by walk_at "om"
    subst e
    have kph : KB [] H₂ H' := by
      refine ⟨by have := kp'.len; simp at this; walk_at "om", fun j hj _ oo eo => ?_⟩
      have hlt := (List.getElem?_eq_some_iff.mp eo).1
      exact kp'.at_ j hj (by simp; walk_at "om") oo (app_l eo)
    refine ⟨by simp, q t H₂.length bs β' H' k hbl ht1 (wdt.grow g') ?_ (((g₁.trans g₂).trans g').mono (by walk_at "om") (by walk_at "om")) b' ((kp₁.kb.trans kp₂.kb).trans (kph.mono (by simp))) (((tin.keep kp₁).keep kp₂).kb kph (by simp) (by simp)) (by walk_at "om") hacc (by have := kp₁.len; have := kp₂.len; walk_at "om")⟩
    · intro j bb hj
      obtain ⟨e1, e2⟩ := hb j bb hj
      have hjl := (List.getElem?_eq_some_iff.mp hj).1
      exact ⟨0, .app (g'.at ht) (wdt.grow g') (by walk_at "om") (by walk_at "om") e1 e2⟩
  · rintro i ys H' v ⟨bs, β', hi, hbl, rfl, b', g', kp', hacc, hb⟩ hn
    rw [rng_items] at hn
    obtain ⟨hi', rfl⟩ := rng_at hn
    refine ⟨_, .name (by with_reducible walk_at "putn"), fun _ => ?_, fun h => (by cases h)⟩
    have tl' := g'.tl
    have wl' := g'.wl
    obtain ⟨y, hy, hyw⟩ := wdt.grow g'
    refine ev_Do c.X rfl rfl (by decide) rfl c.cls_cTB b'.h4 b'.h3 c.M_TermBank_bit na_bit c.F_TermBank_bit (d' := d + 3) (by walk_at "om") ?_
    walk_at "obj"
    walk_at "loc"
    walk_at "loc"
    refine bit_spec c b' (g'.ok (g₂.ok (g₁.ok o.ok))) (by walk_at "om") (by walk_at "om") hy hyw (by walk_at "om") (by walk_at "om") fun r β'' H'' g'' hr1 hr b'' kp'' => ?_
    have hacc' := kp''.at_ _ (.inr big) _ hacc
    refine ⟨hacc', bs ++ [r], β'', by walk_at "om", by simp [hbl], by simp [natsV], b''.set (.inr big), (g'.trans g'').mono (by walk_at "om") (by walk_at "om"), (kp'.trans kp''.kb).trans (.set (by simp)), set_eq hacc', ?_⟩
    · intro j bb hj
      by_cases hjl : j < bs.length
      · rw [List.getElem?_append_left hjl] at hj
        obtain ⟨e1, e2⟩ := hb j bb hj
        exact ⟨e1, g''.at e2⟩
      · have hje : j = bs.length := by have := (List.getElem?_eq_some_iff.mp hj).1; simp at this; walk_at "om"
        subst hje
        rw [List.getElem?_append_right (Nat.le_refl _), Nat.sub_self] at hj
        simp at hj
        subst hj
        rw [hbl]
        exact ⟨hr1, hr⟩
end

/-- two vectors beside one another -/
theorem Row.cat {β : Bk} {t lo hi : Nat} {s : Int} {bl bh : List Nat} (h : β.terms[t]? = some (catT s hi lo)) (wl : Wd β lo (bl.length : Int)) (rl : Row β lo bl) (rh : Row β hi bh) : Row β t (bl ++ bh) := by
  intro k b hk
  by_cases hlt : k < bl.length
  · rw [List.getElem?_append_left hlt] at hk
    obtain ⟨n, x⟩ := rl k b hk
    exact ⟨n + 1, .step (.low h wl (by walk_at "om")) x⟩
  · rw [List.getElem?_append_right (by walk_at "om")] at hk
    obtain ⟨n, x⟩ := rh _ b hk
    refine ⟨n + 1, .step (.high h wl (by walk_at "om")) ?_⟩
    have e : (k : Int) - (bl.length : Int) = ((k - bl.length : Nat) : Int) := by walk_at "om"
    rw [e]; exact x

section
variable {w : World} {B : Heap} {d : Nat} {H : List O} {Q : V → List O → Prop} {β : Bk}

theorem bottom_spec (c : Cx B) (b : BankAt c.cTB fsB β H) (o : Base β) (hl : β.terms.length ≤ 200000) (hw : β.widths.length ≤ 80000) (hf : β.f1.length ≤ 80000 ∧ β.f2.length ≤ 80000 ∧ β.f3.length ≤ 80000) {cells : List Int} {k : Nat} (tin : Tin cells k H) (hk : k ≤ 9000)
    (q : ∀ (t L : Nat) (bs : List Nat) β' H' k', 2 ≤ bs.length → bs.length ≤ 5 → 1 ≤ t → Wd β' t (bs.length : Int) → Row β' t bs → Grow β β' 20 10 → BankAt c.cTB fsB β' H' → KB [2] H H' → Tin cells k' H' → k' ≤ k + 5 → H'[L]? = some (.list (natsV bs)) → H.length ≤ L → Q (.tup [.int (t : Int), .ref L]) H') :
    CallC prg w B (d + 5) c.f_law_bottom [.ref 2, .ref 4] H Q := by
  refine call_def c.F_law_bottom rfl ?_
  walk_at "vals"
  refine evS_cons (ev1_AssignTup (xs := [(Str.ofString "wide", _), (Str.ofString "late", _)]) (fun _ => rfl) (fun _ => swapped_or rfl) (ev_Tuple rfl (by decide) (ev_BinOp (ev_int (ev_Fn rfl (by with_reducible walk_at "has") c.G_law_next c.F_law_next (d' := d + 1) (by walk_at "om") ?_)))))
  walk_at "loc"
  refine ev_int (next_spec c tin (by walk_at "om") (by decide) fun r1 H₁ hr1 tin₁ ⟨o₁, e₁⟩ => w_add ?_)
  have b₁ : BankAt c.cTB fsB β H₁ := e₁ ▸ b.set (.inl (by decide))
  have kp₁ : KB [2] H H₁ := e₁ ▸ KB.set (by simp)
  refine ev_BinOp (ev_int (ev_Fn rfl (by with_reducible walk_at "has") c.G_law_next c.F_law_next (d' := d + 1) (by walk_at "om") ?_))
  walk_at "loc"
  refine ev_int (next_spec c tin₁ (by walk_at "om") (by decide) fun r2 H₂ hr2 tin₂ ⟨o₂, e₂⟩ => w_add ?_)
  have b₂ : BankAt c.cTB fsB β H₂ := e₂ ▸ b₁.set (.inl (by decide))
  have kp₂ : KB [2] H H₂ := kp₁.trans (e₂ ▸ KB.set (by simp))
  have ew : (1 + (r1 : Int)) = ((1 + r1 : Nat) : Int) := by walk_at "om"
  have el : (1 + (r2 : Int)) = ((1 + r2 : Nat) : Int) := by walk_at "om"
  rw [ew, el]
  refine ⟨by simp, _, rfl, rfl, [some (.ref 2), some (.ref 4), some (.int ((1 + r1 : Nat) : Int)), some (.int ((1 + r2 : Nat) : Int)), none, none, none, none, none, none], ?_, ?_, ?_⟩
  · exact .cons (by with_reducible walk_at "put") (.inl rfl) (.cons (by with_reducible walk_at "put") (.inl rfl) .nil)
  · exact .cons (by with_reducible walk_at "put") (.inl rfl) (.cons (by with_reducible walk_at "put") (.inl rfl) .nil)
  -- the number
  refine evS_cons (ev1_AssignTup (xs := [(Str.ofString "number", _), (Str.ofString "digits", _)]) (fun _ => rfl) (fun _ => .inl rfl) (ev_Fn rfl (by with_reducible walk_at "has") c.G_law_drawn c.F_law_drawn (d' := d + 4) (by walk_at "om") ?_))
  walk_at "loc"
  walk_at "loc"
  walk_at "loc"
  refine ev_bool (drawn_known c b₂ o (by walk_at "om") (by walk_at "om") tin₂ (by walk_at "om") (by walk_at "om") (by walk_at "om") fun t1 L1 bs1 β₃ H₃ k₃ hl1 ht1 wd1 row1 g₃ b₃ kp₃ tin₃ hk₃ hL1 hL1' => ?_)
  refine ⟨_, rfl, rfl, [some (.ref 2), some (.ref 4), some (.int ((1 + r1 : Nat) : Int)), some (.int ((1 + r2 : Nat) : Int)), some (.int (t1 : Int)), some (.ref L1), none, none, none, none], ?_, ?_, ?_⟩
  · exact .cons (by with_reducible walk_at "put") (.inl rfl) (.cons (by with_reducible walk_at "put") (.inl rfl) .nil)
  · exact .cons (by with_reducible walk_at "put") (.inl rfl) (.cons (by with_reducible walk_at "put") (.inl rfl) .nil)
  have tl₃ := g₃.tl
  have wl₃ := g₃.wl
  have fn₃ := g₃.fns
  -- the unknown
  refine evS_cons (ev1_AssignTup (xs := [(Str.ofString "unknown", _), (Str.ofString "truths", _)]) (fun _ => rfl) (fun _ => .inl rfl) (ev_Fn rfl (by with_reducible walk_at "has") c.G_law_drawn c.F_law_drawn (d' := d + 4) (by walk_at "om") ?_))
  walk_at "loc"
  walk_at "loc"
  walk_at "loc"
  refine ev_bool (drawn_unknown c b₃ (o.grow g₃) (by walk_at "om") (by walk_at "om") (by walk_at "om") tin₃ (by walk_at "om") (by walk_at "om") fun t2 L2 bs2 β₄ H₄ k₄ hl2 ht2 wd2 row2 g₄ b₄ kp₄ tin₄ hk₄ hL2 hL2' => ?_)
  refine ⟨_, rfl, rfl, [some (.ref 2), some (.ref 4), some (.int ((1 + r1 : Nat) : Int)), some (.int ((1 + r2 : Nat) : Int)), some (.int (t1 : Int)), some (.ref L1), some (.int (t2 : Int)), some (.ref L2), none, none], ?_, ?_, ?_⟩
  · exact .cons (by with_reducible walk_at "put") (.inl rfl) (.cons (by with_reducible walk_at "put") (.inl rfl) .nil)
  · exact .cons (by with_reducible walk_at "put") (.inl rfl) (.cons (by with_reducible walk_at "put") (.inl rfl) .nil)
  have tl₄ := g₄.tl
  have wl₄ := g₄.wl
  have big := b₂.big
  have big3 := b₃.big
  have big4 := b₄.big
  have wd1' := wd1.grow g₄
  have row1' := row1.grow g₄
  have hL1'' : H₄[L1]? = some (.list (natsV bs1)) := kp₄.at_ _ (.inr (by walk_at "om")) (by simp; walk_at "om") _ hL1
  -- which is ahead
  refine evS_cons (ev1_If (evT_Cmp rfl (ev_Fn rfl (by with_reducible walk_at "has") c.G_law_next c.F_law_next (d' := d + 1) (by walk_at "om") ?_)))
  walk_at "loc"
  refine ev_int (next_spec c tin₄ (by walk_at "om") (by decide) fun r3 H₅ hr3 tin₅ ⟨o₅, e₅⟩ => ev_int (w_eq ?_))
  have b₅ : BankAt c.cTB fsB β₄ H₅ := e₅ ▸ b₄.set (.inl (by decide))
  have kp₅ : KB [2] H H₅ := ((kp₂.trans kp₃).trans kp₄).trans (e₅ ▸ KB.set (by simp))
  have hA : H₅[L1]? = some (.list (natsV bs1)) := e₅ ▸ set_ne hL1'' (by walk_at "om")
  have hB : H₅[L2]? = some (.list (natsV bs2)) := e₅ ▸ set_ne hL2 (by walk_at "om")
  obtain ⟨y1, hy1, hyw1⟩ := wd1'
  obtain ⟨y2, hy2, hyw2⟩ := wd2
  have ln1 : (natsV bs1).length = bs1.length := by simp [natsV]
  have ln2 : (natsV bs2).length = bs2.length := by simp [natsV]
  refine ⟨_, rfl, fun _ => ?_, fun _ => ?_⟩
  · refine evS_cons (ev1_Return (ev_Tuple rfl (by decide) (ev_Do c.X rfl rfl (by decide) rfl c.cls_cTB b₅.h4 b₅.h3 c.M_TermBank_concat na_concat c.F_TermBank_concat (d' := d + 3) (by walk_at "om") ?_)))
    walk_at "obj"
    walk_at "loc"
    walk_at "loc"
    refine concat_spec c b₅ (g₄.ok (g₃.ok o.ok)) (by walk_at "om") (by walk_at "om") hy2 hyw2 hy1 hyw1 (by walk_at "om") (by walk_at "om") fun t s β₆ H₆ g₆ ht htt hss b₆ kp₆ => ev_BinOp ?_
    walk_at "loc"
    walk_at "loc"
    refine w_list_add (kp₆.at_ _ (.inr (by walk_at "om")) _ hA) (kp₆.at_ _ (.inr (by walk_at "om")) _ hB) (by walk_at "om") ⟨by simp, ?_⟩
    rw [← List.map_append]
    refine q t H₆.length (bs1 ++ bs2) β₆ _ _ (by simp; walk_at "om") (by simp; walk_at "om") ht (.of htt rfl (by rw [hss]; simp; walk_at "om")) (.cat htt (by rw [hl1]; exact (wd1.grow g₄).grow g₆) (row1'.grow g₆) (row2.grow g₆)) (((g₃.trans g₄).trans g₆).mono (by walk_at "om") (by walk_at "om")) b₆.app ((kp₅.trans kp₆.kb).trans .app) ((tin₅.keep kp₆).keep .app) (by walk_at "om") app_r ?_
    have := kp₅.len
    have := kp₆.len
    walk_at "om"
  · refine evS_nil (evS_cons (ev1_Return (ev_Tuple rfl (by decide) (ev_Do c.X rfl rfl (by decide) rfl c.cls_cTB b₅.h4 b₅.h3 c.M_TermBank_concat na_concat c.F_TermBank_concat (d' := d + 3) (by walk_at "om") ?_))))
    walk_at "obj"
    walk_at "loc"
    walk_at "loc"
    refine concat_spec c b₅ (g₄.ok (g₃.ok o.ok)) (by walk_at "om") (by walk_at "om") hy1 hyw1 hy2 hyw2 (by walk_at "om") (by walk_at "om") fun t s β₆ H₆ g₆ ht htt hss b₆ kp₆ => ev_BinOp ?_
    walk_at "loc"
    walk_at "loc"
    refine w_list_add (kp₆.at_ _ (.inr (by walk_at "om")) _ hB) (kp₆.at_ _ (.inr (by walk_at "om")) _ hA) (by walk_at "om") ⟨by simp, ?_⟩
    rw [← List.map_append]
    refine q t H₆.length (bs2 ++ bs1) β₆ _ _ (by simp; walk_at "om") (by simp; walk_at "om") ht (.of htt rfl (by rw [hss]; simp; walk_at "om")) (.cat htt (by rw [hl2]; exact Wd.grow ⟨y2, hy2, hyw2⟩ g₆) (row2.grow g₆) (row1'.grow g₆)) (((g₃.trans g₄).trans g₆).mono (by walk_at "om") (by walk_at "om")) b₆.app ((kp₅.trans kp₆.kb).trans .app) ((tin₅.keep kp₆).keep .app) (by walk_at "om") app_r ?_
    have := kp₅.len
    have := kp₆.len
    walk_at "om"
end

noncomputable abbrev Src := Nat × Bool
noncomputable def srcV (x : Src) : V := .tup [.int (x.1 : Int), .bool x.2]
noncomputable abbrev srcsV (l : List Src) : List V := l.map srcV
noncomputable def up1 (low : List Src) (x : Src) : Src := match low[x.1]? with
  | some y => (y.1, y.2 != x.2)
  | none => x
noncomputable def upon (low high : List Src) : List Src := high.map (up1 low)
noncomputable def idl (n : Nat) : List Src := (List.range n).map fun k => (k, false)
noncomputable def pw (p : List Src) : Nat → List Src
  | 0 => idl p.length
  | n + 1 => upon (pw p n) p
theorem upon_len (l h : List Src) : (upon l h).length = h.length := by simp [upon]
theorem idl_len (n : Nat) : (idl n).length = n := by simp [idl]
theorem pw_len (p : List Src) : ∀ n, (pw p n).length = p.length
  | 0 => idl_len _
  | n + 1 => upon_len _ _
theorem upon_assoc (a b c : List Src) (h : a.length = b.length) : upon (upon a b) c = upon a (upon b c) := by
  unfold upon
  rw [List.map_map]
  refine List.map_congr_left fun x _ => ?_
  show up1 (b.map (up1 a)) x = up1 a (up1 b x)
  unfold up1
  rw [List.getElem?_map]
  cases hb : b[x.1]? with
  | some y =>
    simp only [Option.map_some]
    cases ha : a[y.1]? with
    | some z => simp only []; congr 1; cases z.2 <;> cases y.2 <;> cases x.2 <;> rfl
    | none => rfl
  | none =>
    simp only [Option.map_none]
    have : a[x.1]? = none := by rw [List.getElem?_eq_none_iff] at hb ⊢; walk_at "om"
    rw [this]
theorem upon_id (a : List Src) (n : Nat) (h : a.length = n) : upon a (idl n) = a := by
  subst h
  apply List.ext_getElem?
  intro i
  unfold upon idl
  rw [List.map_map, List.getElem?_map]
  by_cases hi : i < a.length
  · rw [List.getElem?_eq_getElem (by simpa using hi)]
    simp only [List.getElem_range, Option.map_some, Function.comp]
    unfold up1
    simp only [List.getElem?_eq_getElem hi, Bool.bne_false]
  · rw [List.getElem?_eq_none (by simpa using hi), List.getElem?_eq_none (by walk_at "om")]; rfl
theorem pw_add (p : List Src) (a : Nat) : ∀ b, upon (pw p a) (pw p b) = pw p (a + b)
  | 0 => upon_id _ _ (pw_len _ _)
  | b + 1 => by
    show upon (pw p a) (upon (pw p b) p) = upon (pw p (a + b)) p
    rw [← upon_assoc _ _ _ (by rw [pw_len, pw_len]), pw_add p a b]
theorem pw_one (p : List Src) : pw p 1 = p := by
  show upon (idl p.length) p = p
  unfold upon
  refine (List.map_congr_left fun x _ => ?_).trans (List.map_id _)
  unfold up1 idl
  rw [List.getElem?_map]
  by_cases h : x.1 < p.length
  · rw [List.getElem?_eq_getElem (by simpa using h)]; simp
  · rw [List.getElem?_eq_none (by simpa using h)]; rfl

section
variable {w : World} {B : Heap} {d : Nat} {H : List O} {Q : V → List O → Prop}
theorem w_neb {a b : Bool} (q : Q (.bool (a != b)) H) : W2 prg w B d (compareOp .NotEq) (.bool a) (.bool b) H Q := by
  intro ρ s x y hs hx hy A E r
  cases hx; cases hy
  refine ne_dataH_same (.bool a) (.bool b) rfl rfl r.units64 rfl ?_
  have e : (!PySem.Spec.same (.bool a) (.bool b)) = (a != b) := by cases a <;> cases b <;> rfl
  rw [e]
  exact fin hs (fun _ _ e => e) (v := .bool _) (.bool _) q
end

section
variable {w : World} {B : Heap} {d : Nat} {H : List O} {Q : V → List O → Prop}

theorem srcs_at {l : List Src} {i : Nat} {v : V} (h : (srcsV l)[i]? = some v) : ∃ x, l[i]? = some x ∧ v = srcV x := by
  rw [List.getElem?_map] at h
  obtain ⟨x, e1, e2⟩ := Option.map_eq_some_iff.mp h
  exact ⟨x, e1, e2.symm⟩

theorem upon_spec (c : Cx B) {n1 n2 : Nat} {low high : List Src} (h1 : H[n1]? = some (.list (srcsV low))) (h2 : H[n2]? = some (.list (srcsV high))) (l1 : low.length ≤ 1000) (l2 : high.length ≤ 1000)
    (q : Q (.ref H.length) (H ++ [.list (srcsV (upon low high))])) : CallC prg w B (d + 1) c.f_law_upon [.ref n1, .ref n2] H Q := by
  refine call_def c.F_law_upon rfl ?_
  walk_at "vals"
  refine evS_cons (ev1_Assign (fun _ => rfl) (ev_List rfl ⟨by simp, ?_⟩))
  walk_at "asg"
  refine evS_cons (ev1_For (.list n2) high.length (fun i vals H' => ∃ v1 v2 : Option V, vals = [some (.ref n1), some (.ref n2), some (.ref H.length), v1, v2, none] ∧ i ≤ high.length ∧ H' = H ++ [.list (srcsV ((upon low high).take i))]) (fun _ _ => rfl) ?_ ?_ ?_ ?_)
  · walk_at "loc"
    exact ⟨.list, none, none, rfl, by walk_at "om", by simp [srcsV]⟩
  · rintro i vals H' ⟨v1, v2, rfl, hi, rfl⟩
    exact ⟨⟨_, app_l h2⟩, hi⟩
  · rintro i vals H' ⟨v1, v2, rfl, hi, rfl⟩ hn
    have ei : itemAt (.list n2) (H ++ [.list (srcsV ((upon low high).take i))]) i = (srcsV high)[i]? := by
      show (match (H ++ [O.list (srcsV ((upon low high).take i))])[n2]? with | some (.list vs) => vs[i]? | _ => none) = _
      rw [app_l h2]
    rw [ei, List.getElem?_eq_none_iff] at hn
    simp [srcsV] at hn
    have e : i = high.length := by walk_at "om"
    subst e
    rw [List.take_of_length_le (by rw [upon_len]; walk_at "om")]
    refine evS_cons (ev1_Return ?_)
    walk_at "loc"
    exact q
  · rintro i vals H' v ⟨v1, v2, rfl, hi, rfl⟩ hv
    have ei : itemAt (.list n2) (H ++ [.list (srcsV ((upon low high).take i))]) i = (srcsV high)[i]? := by
      show (match (H ++ [O.list (srcsV ((upon low high).take i))])[n2]? with | some (.list vs) => vs[i]? | _ => none) = _
      rw [app_l h2]
    rw [ei] at hv
    obtain ⟨x, hx, rfl⟩ := srcs_at hv
    have hlt := (List.getElem?_eq_some_iff.mp hx).1
    have hl2 := (List.getElem?_eq_some_iff.mp h2).1
    have h1' : (H ++ [O.list (srcsV ((upon low high).take i))])[n1]? = some (.list (srcsV low)) := app_l h1
    refine ⟨_, .tup (xs := [(Str.ofString "spot", _), (Str.ofString "is_turned", _)]) rfl (.cons (by with_reducible walk_at "put") (.inl rfl) (.cons (by with_reducible walk_at "put") (.inl rfl) .nil)), ?_⟩
    have nxt : (upon low high).take (i + 1) = (upon low high).take i ++ [up1 low x] := by
      rw [List.take_add_one]
      congr 1
      show ((high.map (up1 low))[i]?).toList = _
      rw [List.getElem?_map, hx]; rfl
    have tl : (srcsV ((upon low high).take i)).length ≤ 1000000 := by simp [srcsV, upon_len]; walk_at "om"
    have done : ∀ y : Src, y = up1 low x → (H ++ [O.list (srcsV ((upon low high).take i))]).set H.length (.list (srcsV ((upon low high).take i) ++ [srcV y])) = H ++ [.list (srcsV ((upon low high).take (i + 1)))] := by
      rintro y rfl
      rw [List.set_append_right _ _ (Nat.le_refl _), Nat.sub_self, nxt]
      simp [srcsV]
    refine evS_cons (ev1_If (evT_Cmp rfl ?_))
    walk_at "loc"
    refine ev_Bi rfl (by with_reducible walk_at "has") c.U_len ?_
    walk_at "loc"
    refine c_len_list h1' (by simp [srcsV]; walk_at "om") (w_lt ⟨_, rfl, fun h => ?_, fun h => ?_⟩)
    · have hlow : x.1 < low.length := by simp [srcsV] at h; walk_at "om"
      have hy : low[x.1]? = some low[x.1] := List.getElem?_eq_getElem hlow
      refine evS_cons (ev1_Expr (fun _ => rfl) (ev_LMeth (n := H.length) slot_list_append type_list_append rfl rfl (by decide) rfl app_r ?_))
      walk_at "obj"
      refine ev_Tuple rfl (by decide) (ev_Sub (ev_Sub ?_))
      walk_at "loc"
      walk_at "loc"
      refine i_list h1' (by omega) (by omega) (by rw [tn, List.getElem?_map, hy]; rfl) (ev_int (i_tup (by decide) (by decide) rfl ?_))
      refine ev_Cmp rfl (ev_Sub (ev_Sub ?_))
      walk_at "loc"
      walk_at "loc"
      refine i_list h1' (by omega) (by omega) (by rw [tn, List.getElem?_map, hy]; rfl) (ev_int (i_tup (by decide) (by decide) rfl ?_))
      walk_at "loc"
      refine w_neb ⟨by simp, c_append app_r tl (evS_nil (evS_nil ?_))⟩
      refine ⟨_, _, rfl, by walk_at "om", done (low[x.1].1, low[x.1].2 != x.2) ?_⟩
      unfold up1; rw [hy]
    · have hge : ¬ x.1 < low.length := by simp [srcsV] at h; walk_at "om"
      refine evS_cons (ev1_Expr (fun _ => rfl) (ev_LMeth (n := H.length) slot_list_append type_list_append rfl rfl (by decide) rfl app_r ?_))
      walk_at "obj"
      refine ev_Tuple rfl (by decide) ?_
      walk_at "loc"
      walk_at "loc"
      refine ⟨by simp, c_append app_r tl (evS_nil (evS_nil ?_))⟩
      refine ⟨_, _, rfl, by walk_at "om", done x ?_⟩
      unfold up1; rw [List.getElem?_eq_none (by walk_at "om")]

/-- the map of so many rounds, by doubling -/
theorem often_spec (c : Cx B) {n1 : Nat} {plan : List Src} {many : Nat} (h1 : H[n1]? = some (.list (srcsV plan))) (l1 : plan.length ≤ 1000) (hm : many ≤ 100000)
    (q : ∀ (L : Nat) H', H'[L]? = some (.list (srcsV (pw plan many))) → KB [] H H' → (∃ l, H' = H ++ l) → H.length ≤ L → Q (.ref L) H') : CallC prg w B (d + 2) c.f_law_often [.ref n1, .int (many : Int)] H Q := by
  refine call_def c.F_law_often rfl ?_
  walk_at "vals"
  refine evS_cons (ev1_AssignTup (xs := [(Str.ofString "found", _), (Str.ofString "twice", _)]) (fun _ => rfl) (fun _ => swapped_or rfl) (ev_Tuple rfl (by decide) ?_))
  refine ev_CompP (.rng (plan.length : Int)) _ H (fun j => srcV (j, false)) (fun _ _ => rfl) rfl (by with_reducible walk_at "rel") (by decide +kernel) (by decide +kernel) (by with_reducible walk_at "cv") ?_ (fun ys i => rng_items plan.length _ i) (fun ys => rng_live plan.length _ (by walk_at "om")) (rng_live plan.length _ (by walk_at "om")) (by simp; walk_at "om") ?_ ?_
  · refine ev_Bi rfl (by with_reducible walk_at "has") c.U_range (ev_Bi rfl (by with_reducible walk_at "has") c.U_len ?_)
    walk_at "loc"
    refine c_len_list h1 (by simp [srcsV]; walk_at "om") ?_
    rw [show ((srcsV plan).length : Int) = (plan.length : Int) by simp [srcsV]]
    exact c_range ⟨rfl, .rng⟩
  · intro i u ys hu
    obtain ⟨hi, rfl⟩ := rng_at hu
    refine ⟨_, .name (by with_reducible walk_at "putn"), ev_Tuple rfl (by decide) ?_⟩
    walk_at "loc"
    exact ev_bool ⟨by simp, rfl, rfl⟩
  have eid : (List.range ((List.range plan.length).map fun j : Nat => V.int (j : Int)).length).map (fun j => srcV (j, false)) = srcsV (idl plan.length) := by simp [srcsV, idl]
  rw [eid]
  walk_at "loc"
  refine ⟨by simp, _, rfl, rfl, [some (.ref n1), some (.int (many : Int)), some (.ref H.length), some (.ref n1), none, none, none], ?_, ?_, ?_⟩
  · exact .cons (by with_reducible walk_at "put") (.inl rfl) (.cons (by with_reducible walk_at "put") (.inl rfl) .nil)
  · exact .cons (by with_reducible walk_at "put") (.inl rfl) (.cons (by with_reducible walk_at "put") (.inl rfl) .nil)
  refine evS_cons (ev1_While (fun n vals H' => ∃ (fi ti a bb : Nat), vals = [some (.ref n1), some (.int (n : Int)), some (.ref fi), some (.ref ti), none, none, none] ∧ (∃ l, H' = H ++ l) ∧ H'[fi]? = some (.list (srcsV (pw plan a))) ∧ H'[ti]? = some (.list (srcsV (pw plan bb))) ∧ a + bb * n = many ∧ H.length ≤ fi) ?_ many ?_)
  · rintro n vals H' ⟨fi, ti, a, bb, rfl, ⟨l, rfl⟩, hf, ht, hab, hfi⟩
    refine evT_Cmp rfl ?_
    walk_at "loc"
    refine ev_int (w_gt ⟨_, rfl, fun h => ?_, fun h => ?_⟩)
    · have hn : n = 0 := by simp at h; walk_at "om"
      subst hn
      refine evS_cons (ev1_Return ?_)
      walk_at "loc"
      have : a = many := by simp at hab; walk_at "om"
      subst this
      exact q fi _ hf .app ⟨l, rfl⟩ hfi
    · have hn : 0 < n := by simp at h; walk_at "om"
      -- the odd one
      refine evS_cons (ev1_If (evT_Cmp rfl (ev_BinOp ?_)))
      walk_at "loc"
      refine ev_int (w_mod (by decide) (ev_int (w_eq ?_)))
      have em : (n : Int).fmod 2 = ((n % 2 : Nat) : Int) := by rw [Int.fmod_eq_emod_of_nonneg _ (by decide)]; walk_at "om"
      rw [em]
      have ed : (n : Int).fdiv 2 = ((n / 2 : Nat) : Int) := by rw [Int.fdiv_eq_ediv_of_nonneg _ (by decide)]; walk_at "om"
      have rest : ∀ (fi' a' : Nat) (l' : List O), (H ++ l')[fi']? = some (.list (srcsV (pw plan a'))) → (H ++ l')[ti]? = some (.list (srcsV (pw plan bb))) → a' + 2 * bb * (n / 2) = many → H.length ≤ fi' →
          EvS prg w B nm_law_often (d + 1) ((whileBody (nthS bd_law_often 1)).tail) [some (.ref n1), some (.int (n : Int)), some (.ref fi'), some (.ref ti), none, none, none] (H ++ l') fun f vals' H' => match f with
            | .next | .cont => ∃ m, m < n ∧ ∃ (fi ti a bb : Nat), vals' = [some (.ref n1), some (.int (m : Int)), some (.ref fi), some (.ref ti), none, none, none] ∧ (∃ l, H' = H ++ l) ∧ H'[fi]? = some (.list (srcsV (pw plan a))) ∧ H'[ti]? = some (.list (srcsV (pw plan bb))) ∧ a + bb * m = many ∧ H.length ≤ fi
            | .brk => thenS prg w B nm_law_often (d + 1) [nthS bd_law_often 2] (fun fl _ H' => match fl with | .ret v => Q v H' | .next => Q .none H' | _ => False) .next vals' H'
            | .ret v => thenS prg w B nm_law_often (d + 1) [nthS bd_law_often 2] (fun fl _ H' => match fl with | .ret v => Q v H' | .next => Q .none H' | _ => False) (.ret v) vals' H' := by
        intro fi' a' l' hf' ht' hab' hfi'
        refine evS_cons (ev1_AssignTup (xs := [(Str.ofString "twice", _), (Str.ofString "many", _)]) (fun _ => rfl) (fun _ => swapped_or rfl) (ev_Tuple rfl (by decide) (ev_Fn rfl (by with_reducible walk_at "has") c.G_law_upon c.F_law_upon (d' := d + 1) (by walk_at "om") ?_)))
        walk_at "loc"
        walk_at "loc"
        refine upon_spec c ht' ht' (by rw [pw_len]; walk_at "om") (by rw [pw_len]; walk_at "om") ?_
        rw [pw_add]
        refine ev_BinOp ?_
        walk_at "loc"
        refine ev_int (w_div (by decide) (PyProof.noPylong_small (by decide)) ?_)
        rw [ed]
        refine ⟨by simp, _, rfl, rfl, [some (.ref n1), some (.int ((n / 2 : Nat) : Int)), some (.ref fi'), some (.ref (H ++ l').length), none, none, none], ?_, ?_, ?_⟩
        · exact .cons (by with_reducible walk_at "put") (.inl rfl) (.cons (by with_reducible walk_at "put") (.inl rfl) .nil)
        · exact .cons (by with_reducible walk_at "put") (.inl rfl) (.cons (by with_reducible walk_at "put") (.inl rfl) .nil)
        refine evS_nil ⟨n / 2, by walk_at "om", fi', (H ++ l').length, a', bb + bb, rfl, ⟨l' ++ [.list (srcsV (pw plan (bb + bb)))], by simp⟩, app_l hf', app_r, ?_, hfi'⟩
        rw [← hab']; congr 2; walk_at "om"
      refine ⟨_, rfl, fun h => ?_, fun h => ?_⟩
      · have hodd : n % 2 = 1 := by simp at h; walk_at "om"
        refine evS_cons (ev1_Assign (fun _ => rfl) (ev_Fn rfl (by with_reducible walk_at "has") c.G_law_upon c.F_law_upon (d' := d + 1) (by walk_at "om") ?_))
        walk_at "loc"
        walk_at "loc"
        refine upon_spec c hf ht (by rw [pw_len]; walk_at "om") (by rw [pw_len]; walk_at "om") ?_
        rw [pw_add]
        walk_at "asg"
        have e := rest (H ++ l).length (a + bb) (l ++ [.list (srcsV (pw plan (a + bb)))]) (by rw [← List.append_assoc]; exact app_r) (by rw [← List.append_assoc]; exact app_l ht) (by
          rw [← hab]
          have : n = 2 * (n / 2) + 1 := by walk_at "om"
          generalize n / 2 = z at this
          subst this
          rw [Nat.mul_add, Nat.mul_one, ← Nat.mul_assoc, Nat.mul_comm bb 2]; walk_at "om") (by simp)
        rw [← List.append_assoc] at e
        exact evS_nil e
      · have heven : n % 2 = 0 := by simp at h; walk_at "om"
        refine evS_nil (rest fi a l hf ht ?_ hfi)
        rw [← hab]
        have : n = 2 * (n / 2) := by walk_at "om"
        generalize n / 2 = z at this
        subst this
        rw [← Nat.mul_assoc, Nat.mul_comm bb 2]
  · refine ⟨H.length, n1, 0, 1, rfl, ⟨_, rfl⟩, app_r, ?_, by walk_at "om", by walk_at "om"⟩
    rw [pw_one]; exact app_l h1
end

inductive Act where
  | mk (op : Str) (before behind : List Nat) (sort : Nat) (data : KI)
  | round (sort p1 p2 : Nat) (h1 l1 h2 l2 : Int)
noncomputable def Act.v : Act → V
  | .mk op before behind sort data => .tup [.str op, .tup (natsV before), .tup (natsV behind), .int (sort : Int), data.v]
  | .round sort p1 p2 h1 l1 h2 l2 => .tup [.str (Str.ofString "round"), .tup [], .tup [], .int (sort : Int), .tup [.tup [.int (p1 : Int), .tup [.int h1, .int l1]], .tup [.int (p2 : Int), .tup [.int h2, .int l2]]]]
noncomputable def Act.ok : Act → Bool
  | .mk op before behind _ data => PyData.strOk op && !(op == Str.ofString "round") && data.ok && decide (before.length + behind.length ≤ 100)
  | .round .. => true
noncomputable abbrev actT (op : Str) (before behind : List Nat) (sort : Nat) (data : KI) (t : Nat) : T := ⟨op, (before ++ [t] ++ behind).map fun b : Nat => (b : Int), (sort : Int), data⟩
inductive Run1 (β : Bk) (t : Nat) : Act → Bk → Nat → Prop
  | mk {op : Str} {before behind : List Nat} {sort : Nat} {data : KI} {β' : Bk} {t' : Nat} : Mk β (actT op before behind sort data t) t' β' → Run1 β t (.mk op before behind sort data) β' t'
  | round {sort p1 p2 : Nat} {h1 l1 h2 l2 : Int} {β1 β2 β3 : Bk} {e1 e2 t' : Nat} : Mk β (extT p1 t h1 l1) e1 β1 → Mk β1 (extT p2 t h2 l2) e2 β2 → Mk β2 (catT sort e1 e2) t' β3 → Run1 β t (.round sort p1 p2 h1 l1 h2 l2) β3 t'
inductive Run : Bk → Nat → List Act → Bk → Nat → Prop
  | nil {β : Bk} {t : Nat} : Run β t [] β t
  | snoc {β β1 β2 : Bk} {t t1 t2 : Nat} {as : List Act} {a : Act} : Run β t as β1 t1 → Run1 β1 t1 a β2 t2 → Run β t (as ++ [a]) β2 t2
inductive Rounds (acts : List Act) : Bk → Nat → Nat → Bk → Nat → Prop
  | zero {β : Bk} {t : Nat} : Rounds acts β t 0 β t
  | succ {β β1 β2 : Bk} {t t1 t2 n : Nat} : Rounds acts β t n β1 t1 → Run β1 t1 acts β2 t2 → Rounds acts β t (n + 1) β2 t2
theorem Run1.grow {β β' : Bk} {t t' : Nat} {a : Act} (x : Run1 β t a β' t') : Grow β β' 3 0 := by
  cases x with
  | mk m => exact m.grow.mono (by walk_at "om") (by walk_at "om")
  | round m1 m2 m3 => exact ((m1.grow.trans m2.grow).trans m3.grow).mono (by walk_at "om") (by walk_at "om")
theorem Run.grow {β β' : Bk} {t t' : Nat} {as : List Act} (x : Run β t as β' t') : Grow β β' (3 * as.length) 0 := by
  induction x with
  | nil => exact .refl _
  | snoc _ y ih => exact (ih.trans y.grow).mono (by simp; walk_at "om") (by walk_at "om")
theorem Rounds.grow {acts : List Act} {β β' : Bk} {t t' n : Nat} (x : Rounds acts β t n β' t') : Grow β β' (3 * acts.length * n) 0 := by
  induction x with
  | zero => exact .refl _
  | succ _ y ih => exact (ih.trans y.grow).mono (by rw [Nat.mul_add]; walk_at "om") (by walk_at "om")
theorem take_snoc {α : Type} {l : List α} {i : Nat} {x : α} (h : l[i]? = some x) : l.take (i + 1) = l.take i ++ [x] := by rw [List.take_add_one, h]; rfl

section
variable {w : World} {B : Heap} {d : Nat} {H : List O} {Q : V → List O → Prop} {β : Bk}

theorem grown_spec (c : Cx B) (b : BankAt c.cTB fsB β H) (o : Base β) {n t rounds : Nat} {acts : List Act} (hn : H[n]? = some (.list (acts.map Act.v))) (hbig : 15 < n) (hok : ∀ a ∈ acts, a.ok = true) (hal : acts.length ≤ 1000) (hr : rounds ≤ 100000) (hl : β.terms.length + 3 * acts.length * rounds ≤ 300000)
    (q : ∀ (t' : Nat) β' H', Rounds acts β t rounds β' t' → BankAt c.cTB fsB β' H' → KB [] H H' → Q (.int (t' : Int)) H') : CallC prg w B (d + 3) c.f_law_grown [.ref 4, .int (t : Int), .ref n, .int (rounds : Int)] H Q := by
  refine call_def c.F_law_grown rfl ?_
  walk_at "vals"
  refine evS_cons (ev1_For (.rng (rounds : Int)) rounds (fun lap vals H' => ∃ (t1 : Nat) (β1 : Bk) (v1 v2 v3 v4 v5 v6 : Option V), vals = [some (.ref 4), some (.int (t1 : Int)), some (.ref n), some (.int (rounds : Int)), v1, v2, v3, v4, v5, v6, none, none] ∧ lap ≤ rounds ∧ Rounds acts β t lap β1 t1 ∧ BankAt c.cTB fsB β1 H' ∧ KB [] H H') (fun _ _ => rfl) ?_ ?_ ?_ ?_)
  · refine ev_Bi rfl (by with_reducible walk_at "has") c.U_range ?_
    walk_at "loc"
    exact c_range ⟨.rng, t, β, none, none, none, none, none, none, rfl, by walk_at "om", .zero, b, .refl _ _⟩
  · rintro lap vals H' ⟨t1, β1, v1, v2, v3, v4, v5, v6, rfl, hle, _⟩
    exact ⟨⟨by walk_at "om", by walk_at "om"⟩, hle⟩
  · rintro lap vals H' ⟨t1, β1, v1, v2, v3, v4, v5, v6, rfl, hle, hR, b1, kp1⟩ hnone
    have e : lap = rounds := by
      simp only [itemAt] at hnone
      split at hnone
      · cases hnone
      · walk_at "om"
    subst e
    refine evS_cons (ev1_Return ?_)
    walk_at "loc"
    exact q t1 β1 H' hR b1 kp1
  · rintro lap vals H' v ⟨t1, β1, v1, v2, v3, v4, v5, v6, rfl, hle, hR, b1, kp1⟩ hv
    have hlt : lap < rounds := by
      simp only [itemAt] at hv
      split at hv
      · walk_at "om"
      · cases hv
    have hg := hR.grow
    have hmul : 3 * acts.length * lap + 3 * acts.length ≤ 3 * acts.length * rounds := by
      rw [← Nat.mul_succ]; exact Nat.mul_le_mul_left _ hlt
    refine ⟨_, .name (by with_reducible walk_at "put") (.inl rfl), ?_⟩
    have hn1 : H'[n]? = some (.list (acts.map Act.v)) := kp1.at_ _ (.inr hbig) (by simp) _ hn
    refine evS_cons (ev1_For (.list n) acts.length (fun i vals H2 => ∃ (t2 : Nat) (β2 : Bk) (v1 v2 v3 v4 v5 v6 : Option V), vals = [some (.ref 4), some (.int (t2 : Int)), some (.ref n), some (.int (rounds : Int)), v1, v2, v3, v4, v5, v6, none, none] ∧ i ≤ acts.length ∧ Run β1 t1 (acts.take i) β2 t2 ∧ BankAt c.cTB fsB β2 H2 ∧ KB [] H' H2) (fun _ _ => rfl) ?_ ?_ ?_ ?_)
    · walk_at "loc"
      exact ⟨.list, t1, β1, _, _, _, _, _, _, rfl, by walk_at "om", .nil, b1, .refl _ _⟩
    · rintro i vals H2 ⟨t2, β2, v1, v2, v3, v4, v5, v6, rfl, hi, _, _, kp2⟩
      exact ⟨⟨_, kp2.at_ _ (.inr hbig) (by simp) _ hn1⟩, hi⟩
    · rintro i vals H2 ⟨t2, β2, v1, v2, v3, v4, v5, v6, rfl, hi, hrun, b2, kp2⟩ hnone
      have hn2 := kp2.at_ _ (.inr hbig) (by simp) _ hn1
      have ei : itemAt (.list n) H2 i = (acts.map Act.v)[i]? := by
        show (match H2[n]? with | some (.list vs) => vs[i]? | _ => none) = _
        rw [hn2]
      rw [ei, List.getElem?_eq_none_iff] at hnone
      simp at hnone
      have e : i = acts.length := by walk_at "om"
      subst e
      rw [List.take_length] at hrun
      exact evS_nil ⟨t2, β2, _, _, _, _, _, _, rfl, by walk_at "om", .succ hR hrun, b2, kp1.trans kp2⟩
    · rintro i vals H2 vv ⟨t2, β2, v1, v2, v3, v4, v5, v6, rfl, hi, hrun, b2, kp2⟩ hv
      have hn2 := kp2.at_ _ (.inr hbig) (by simp) _ hn1
      have ei : itemAt (.list n) H2 i = (acts.map Act.v)[i]? := by
        show (match H2[n]? with | some (.list vs) => vs[i]? | _ => none) = _
        rw [hn2]
      rw [ei, List.getElem?_map] at hv
      obtain ⟨a, ha, rfl⟩ := Option.map_eq_some_iff.mp hv
      have hilt := (List.getElem?_eq_some_iff.mp ha).1
      have haok := hok a (List.mem_of_getElem? ha)
      have g2 := hrun.grow
      have tl1 := hg.tl
      have tl2 := g2.tl
      have htk : (acts.take i).length ≤ acts.length := by simp; walk_at "om"
      have o2 : Base β2 := (o.grow hg).grow g2
      have hroom : β2.terms.length ≤ 300000 := by
        have : 3 * (acts.take i).length ≤ 3 * acts.length := by walk_at "om"
        walk_at "om"
      cases a with
      | mk op before behind sort data =>
        simp only [Act.ok, Bool.and_eq_true, Bool.not_eq_true', decide_eq_true_eq] at haok
        obtain ⟨⟨⟨a1, a2⟩, a3⟩, a4⟩ := haok
        refine ⟨_, .tup (xs := [(Str.ofString "op", _), (Str.ofString "before", _), (Str.ofString "behind", _), (Str.ofString "sort", _), (Str.ofString "told", _)]) rfl (.cons (by with_reducible walk_at "put") (.inl rfl) (.cons (by with_reducible walk_at "put") (.inl rfl) (.cons (by with_reducible walk_at "put") (.inl rfl) (.cons (by with_reducible walk_at "put") (.inl rfl) (.cons (by with_reducible walk_at "put") (.inl rfl) .nil))))), ?_⟩
        refine evS_cons (ev1_If (evT_Cmp rfl ?_))
        walk_at "loc"
        refine ev_str (w_eqs ⟨_, rfl, fun h => ?_, fun h => ?_⟩)
        · rw [a2] at h; cases h
        refine evS_cons (ev1_Assign (fun _ => rfl) (ev_Do c.X rfl rfl (by decide) rfl c.cls_cTB b2.h4 b2.h3 c.M_Bank_make na_make c.F_Bank_make (d' := d + 1) (by walk_at "om") ?_))
        walk_at "obj"
        walk_at "loc"
        refine ev_BinOp (ev_BinOp ?_)
        walk_at "loc"
        refine ev_Tuple rfl (by decide) ?_
        walk_at "loc"
        refine ⟨by simp, w_tup_add (by simp [natsV]; walk_at "om") ?_⟩
        walk_at "loc"
        refine w_tup_add (by simp [natsV]; walk_at "om") ?_
        walk_at "loc"
        walk_at "loc"
        have em : natsV before ++ [V.int (t2 : Int)] ++ natsV behind = ((before ++ [t2] ++ behind).map fun b : Nat => (b : Int)).map .int := by simp [natsV, Function.comp_def]
        rw [em]
        refine make_spec c b2 mkNsB o2.ok (by walk_at "om") (actT op before behind sort data t2) (key_ok _ a1 a3) fun t3 β3 H3 m3 b3 kp3 => ?_
        walk_at "asg"
        refine evS_nil (evS_nil ⟨t3, β3, _, _, _, _, _, _, rfl, by walk_at "om", ?_, b3, kp2.trans kp3.kb⟩)
        rw [take_snoc ha]
        exact .snoc hrun (.mk m3)
      | round sort p1 p2 h1 l1 h2 l2 =>
        refine ⟨_, .tup (xs := [(Str.ofString "op", _), (Str.ofString "before", _), (Str.ofString "behind", _), (Str.ofString "sort", _), (Str.ofString "told", _)]) rfl (.cons (by with_reducible walk_at "put") (.inl rfl) (.cons (by with_reducible walk_at "put") (.inl rfl) (.cons (by with_reducible walk_at "put") (.inl rfl) (.cons (by with_reducible walk_at "put") (.inl rfl) (.cons (by with_reducible walk_at "put") (.inl rfl) .nil))))), ?_⟩
        refine evS_cons (ev1_If (evT_Cmp rfl ?_))
        walk_at "loc"
        refine ev_str (w_eqs ⟨_, rfl, fun h => ?_, fun h => ?_⟩)
        · refine evS_cons (ev1_Assign (fun _ => rfl) (ev_Do c.X rfl rfl (by decide) rfl c.cls_cTB b2.h4 b2.h3 c.M_Bank_make na_make c.F_Bank_make (d' := d + 1) (by walk_at "om") ?_))
          walk_at "obj"
          refine ev_str (ev_Bi rfl (by with_reducible walk_at "has") c.U_tuple ?_)
          have big2 := b2.big
          refine ev_ListComp (.tup [.tup [.int (p1 : Int), .tup [.int h1, .int l1]], .tup [.int (p2 : Int), .tup [.int h2, .int l2]]]) H2.length 2
            (fun i ys H3 => KB [H2.length] (H2 ++ [.list []]) H3 ∧ H3[H2.length]? = some (.list ys) ∧ ((i = 0 ∧ ys = [] ∧ BankAt c.cTB fsB β2 H3) ∨ (i = 1 ∧ ∃ (e1 : Nat) (β3 : Bk), ys = [.int (e1 : Int)] ∧ Mk β2 (extT p1 t2 h1 l1) e1 β3 ∧ BankAt c.cTB fsB β3 H3) ∨
              (i = 2 ∧ ∃ (e1 e2 : Nat) (β3 β4 : Bk), ys = [.int (e1 : Int), .int (e2 : Int)] ∧ Mk β2 (extT p1 t2 h1 l1) e1 β3 ∧ Mk β3 (extT p2 t2 h2 l2) e2 β4 ∧ BankAt c.cTB fsB β4 H3)))
            (fun _ _ => rfl) rfl (by with_reducible walk_at "rel") (by decide +kernel) (by decide +kernel) (by with_reducible walk_at "cv") ?_ ?_ ?_ ?_
          · walk_at "loc"
            exact ⟨.tup, rfl, trivial, .refl _ _, app_r, .inl ⟨rfl, rfl, b2.app⟩⟩
          · rintro i ys H3 ⟨_, hacc, ⟨rfl, rfl, _⟩ | ⟨rfl, e1, β3, rfl, _⟩ | ⟨rfl, e1, e2, β3, β4, rfl, _⟩⟩
            · exact ⟨trivial, by walk_at "om", hacc, by simp⟩
            · exact ⟨trivial, by walk_at "om", hacc, by simp⟩
            · exact ⟨trivial, by walk_at "om", hacc, by simp⟩
          · rintro i ys H3 ⟨kp3, hacc, ⟨rfl, rfl, _⟩ | ⟨rfl, e1, β3, rfl, _⟩ | ⟨rfl, e1, e2, β3, β4, rfl, m1, m2, b3⟩⟩ hnone
            · simp [itemAt] at hnone
            · simp [itemAt] at hnone
            · have kph : KB [] H2 H3 := by
                refine ⟨by have := kp3.len; simp at this; walk_at "om", fun j hj _ oo eo => ?_⟩
                have hlt := (List.getElem?_eq_some_iff.mp eo).1
                exact kp3.at_ j hj (by simp; walk_at "om") oo (app_l eo)
              refine c_tup_list hacc (by simp) ?_
              walk_at "loc"
              refine ev_int ?_
              refine make_spec c b3 mkNsB (m2.grow.ok (m1.grow.ok o2.ok)) (by have := (m1.grow.trans m2.grow).tl; walk_at "om") (catT sort e1 e2) (key_ok _ ok_concat rfl) fun t3 β5 H4 m3 b4 kp4 => ?_
              walk_at "asg"
              refine evS_nil (evS_nil ⟨t3, β5, _, _, _, _, _, _, rfl, by walk_at "om", ?_, b4, (kp2.trans kph).trans kp4.kb⟩)
              rw [take_snoc ha]
              exact .snoc hrun (.round m1 m2 m3)
          · rintro i ys H3 v ⟨kp3, hacc, ⟨rfl, rfl, b3⟩ | ⟨rfl, e1, β3, rfl, m1, b3⟩ | ⟨rfl, e1, e2, β3, β4, rfl, _⟩⟩ hv
            · simp [itemAt] at hv
              subst hv
              refine ⟨_, .tup (xs := [(Str.ofString "part", _), (Str.ofString "cut", _)]) rfl (.cons (by with_reducible walk_at "putn") (.cons (by with_reducible walk_at "putn") .nil)), fun _ => ?_, fun h => (by cases h)⟩
              refine ev_Do c.X rfl rfl (by decide) rfl c.cls_cTB b3.h4 b3.h3 c.M_Bank_make na_make c.F_Bank_make (d' := d + 1) (by walk_at "om") ?_
              walk_at "obj"
              refine ev_str (ev_Tuple rfl (by decide) ?_)
              walk_at "loc"
              refine ⟨by simp, ?_⟩
              walk_at "loc"
              walk_at "loc"
              refine make_spec c b3 mkNsB o2.ok (by walk_at "om") (extT p1 t2 h1 l1) (key_ok _ ok_extract rfl) fun e1 β3 H4 m1 b4 kp4 => ?_
              have hacc4 := kp4.at_ _ (.inr big2) _ hacc
              exact ⟨hacc4, (kp3.trans kp4.kb).trans (.set (by simp)), set_eq hacc4, .inr (.inl ⟨rfl, e1, β3, rfl, m1, b4.set (.inr big2)⟩)⟩
            · simp [itemAt] at hv
              subst hv
              refine ⟨_, .tup (xs := [(Str.ofString "part", _), (Str.ofString "cut", _)]) rfl (.cons (by with_reducible walk_at "putn") (.cons (by with_reducible walk_at "putn") .nil)), fun _ => ?_, fun h => (by cases h)⟩
              refine ev_Do c.X rfl rfl (by decide) rfl c.cls_cTB b3.h4 b3.h3 c.M_Bank_make na_make c.F_Bank_make (d' := d + 1) (by walk_at "om") ?_
              walk_at "obj"
              refine ev_str (ev_Tuple rfl (by decide) ?_)
              walk_at "loc"
              refine ⟨by simp, ?_⟩
              walk_at "loc"
              walk_at "loc"
              refine make_spec c b3 mkNsB (m1.grow.ok o2.ok) (by have := m1.grow.tl; walk_at "om") (extT p2 t2 h2 l2) (key_ok _ ok_extract rfl) fun e2 β4 H4 m2 b4 kp4 => ?_
              have hacc4 := kp4.at_ _ (.inr big2) _ hacc
              exact ⟨hacc4, (kp3.trans kp4.kb).trans (.set (by simp)), set_eq hacc4, .inr (.inr ⟨rfl, e1, e2, β3, β4, rfl, m1, m2, b4.set (.inr big2)⟩)⟩
            · simp [itemAt] at hv
        · simp at h
end

/-- where a place of the higher term comes from -/
structure SrcOk (wide : Nat) (row : List Nat) (β : Bk) (t : Nat) (β' : Bk) (t' : Nat) (p : Nat) (x : Src) (E : Nat) : Prop where
  low : x.1 < wide → ∃ e, e ≤ E ∧ e % 2 = x.2.toNat ∧ ∀ b n m, Den β b n (x.1 : Int) t m → ∃ n', Den β' b n' (p : Int) t' (m + e)
  high : wide ≤ x.1 → ∃ b n e, e ≤ E ∧ e % 2 = x.2.toNat ∧ row[x.1]? = some b ∧ Den β' b n (p : Int) t' e
noncomputable def Good (wide : Nat) (row : List Nat) (β₀ : Bk) (acts : List Act) (step : List Src) (E : Nat) : Prop :=
  step.length = wide ∧ ∀ β t β' t' a b, Grow β₀ β a b → Wd β t (wide : Int) → Run β t acts β' t' → Wd β' t' (wide : Int) ∧ ∀ (p : Nat) x, step[p]? = some x → SrcOk wide row β t β' t' p x E
theorem Good.grow {wide : Nat} {row row' : List Nat} {β₀ β₁ : Bk} {acts : List Act} {step : List Src} {E a b : Nat} (x : Good wide row β₀ acts step E) (g : Grow β₀ β₁ a b) (hr : ∃ l, row' = row ++ l) : Good wide row' β₁ acts step E := by
  refine ⟨x.1, fun β t β' t' a' b' g' hw hrun => ?_⟩
  obtain ⟨h1, h2⟩ := x.2 β t β' t' _ _ (g.trans g') hw hrun
  refine ⟨h1, fun p y hy => ⟨(h2 p y hy).low, fun hh => ?_⟩⟩
  obtain ⟨b, n, e, q1, q2, q3, q4⟩ := (h2 p y hy).high hh
  obtain ⟨l, rfl⟩ := hr
  exact ⟨b, n, e, q1, q2, by rw [List.getElem?_append_left (List.getElem?_eq_some_iff.mp q3).1]; exact q3, q4⟩
theorem snoc_inj {α : Type} {l l' : List α} {a a' : α} (h : l ++ [a] = l' ++ [a']) : l = l' ∧ a = a' := by
  have := List.append_inj' h rfl
  exact ⟨this.1, by simpa using this.2⟩
theorem Run.split {β β' : Bk} {t t' : Nat} {as : List Act} : ∀ {bs : List Act}, Run β t (as ++ bs) β' t' → ∃ β1 t1, Run β t as β1 t1 ∧ Run β1 t1 bs β' t' := by
  intro bs
  induction hn : bs.length generalizing bs β' t' with
  | zero =>
    intro h
    have : bs = [] := List.eq_nil_of_length_eq_zero hn
    subst this
    rw [List.append_nil] at h
    exact ⟨β', t', h, .nil⟩
  | succ n ih =>
    intro h
    obtain ⟨bs', a, rfl⟩ : ∃ bs' a, bs = bs' ++ [a] := by
      have hne : bs ≠ [] := fun e => by rw [e] at hn; simp at hn
      exact ⟨bs.dropLast, bs.getLast hne, (List.dropLast_concat_getLast hne).symm⟩
    rw [← List.append_assoc] at h
    generalize hl : as ++ bs' ++ [a] = l at h
    cases h with
    | nil => simp at hl
    | snoc h1 h2 =>
      obtain ⟨e1, e2⟩ := snoc_inj hl
      subst e1 e2
      obtain ⟨β1, t1, q1, q2⟩ := ih (by simp at hn; exact hn) h1
      exact ⟨β1, t1, q1, .snoc q2 h2⟩
theorem Run.one {β β' : Bk} {t t' : Nat} {a : Act} (h : Run β t [a] β' t') : Run1 β t a β' t' := by
  generalize hl : [a] = l at h
  cases h with
  | nil => cases hl
  | snoc h1 h2 =>
    obtain ⟨e1, e2⟩ := snoc_inj (l := []) hl
    subst e2
    rw [← e1] at h1
    generalize hl' : ([] : List Act) = l' at h1
    cases h1 with
    | nil => exact h2
    | snoc => simp at hl'
theorem src_comp {wide : Nat} {row : List Nat} {β β1 β' : Bk} {t t1 t' p E1 E2 : Nat} {s1 : List Src} {y : Src} (hl : s1.length = wide) (h1 : ∀ (p : Nat) x, s1[p]? = some x → SrcOk wide row β t β1 t1 p x E1) (h2 : SrcOk wide row β1 t1 β' t' p y E2) : SrcOk wide row β t β' t' p (up1 s1 y) (E1 + E2) := by
  unfold up1
  by_cases hy : y.1 < wide
  · have hz : s1[y.1]? = some s1[y.1] := List.getElem?_eq_getElem (by walk_at "om")
    rw [hz]
    generalize s1[y.1] = z at hz
    have k := h1 _ _ hz
    obtain ⟨e2, q1, q2, q3⟩ := h2.low hy
    refine ⟨fun hzl => ?_, fun hzh => ?_⟩
    · obtain ⟨e1, r1, r2, r3⟩ := k.low hzl
      refine ⟨e1 + e2, by walk_at "om", ?_, fun b n m hd => ?_⟩
      · show (e1 + e2) % 2 = (z.2 != y.2).toNat
        cases hz2 : z.2 <;> cases hy2 : y.2 <;> rw [hz2] at r2 <;> rw [hy2] at q2 <;> simp at r2 q2 ⊢ <;> walk_at "om"
      · obtain ⟨n1, d1⟩ := r3 b n m hd
        obtain ⟨n2, d2⟩ := q3 b n1 _ d1
        exact ⟨n2, by rw [← Nat.add_assoc]; exact d2⟩
    · obtain ⟨b, n, e1, r1, r2, r3, r4⟩ := k.high hzh
      obtain ⟨n2, d2⟩ := q3 b n _ r4
      refine ⟨b, n2, e1 + e2, by walk_at "om", ?_, r3, d2⟩
      show (e1 + e2) % 2 = (z.2 != y.2).toNat
      cases hz2 : z.2 <;> cases hy2 : y.2 <;> rw [hz2] at r2 <;> rw [hy2] at q2 <;> simp at r2 q2 ⊢ <;> walk_at "om"
  · have hz : s1[y.1]? = none := List.getElem?_eq_none (by walk_at "om")
    rw [hz]
    refine ⟨fun h => absurd h hy, fun h => ?_⟩
    obtain ⟨b, n, e, q1, q2, q3, q4⟩ := h2.high h
    exact ⟨b, n, e, by walk_at "om", q2, q3, q4⟩
theorem upon_at {l h : List Src} {p : Nat} {x : Src} (hx : (upon l h)[p]? = some x) : ∃ y, h[p]? = some y ∧ x = up1 l y := by
  unfold upon at hx
  rw [List.getElem?_map] at hx
  obtain ⟨y, e1, e2⟩ := Option.map_eq_some_iff.mp hx
  exact ⟨y, e1, e2.symm⟩
theorem Good.comp {wide : Nat} {row : List Nat} {β₀ : Bk} {as bs : List Act} {s1 s2 : List Src} {E1 E2 : Nat} (x : Good wide row β₀ as s1 E1) (y : Good wide row β₀ bs s2 E2) : Good wide row β₀ (as ++ bs) (upon s1 s2) (E1 + E2) := by
  refine ⟨by rw [upon_len]; exact y.1, fun β t β' t' a b g hw hrun => ?_⟩
  obtain ⟨β1, t1, r1, r2⟩ := hrun.split
  obtain ⟨w1, f1⟩ := x.2 β t β1 t1 a b g hw r1
  obtain ⟨w2, f2⟩ := y.2 β1 t1 β' t' _ _ (g.trans r1.grow) w1 r2
  refine ⟨w2, fun p z hz => ?_⟩
  obtain ⟨u, hu, rfl⟩ := upon_at hz
  exact src_comp x.1 f1 (f2 p u hu)
theorem idl_at {n p : Nat} {x : Src} (h : (idl n)[p]? = some x) : p < n ∧ x = (p, false) := by
  unfold idl at h
  rw [List.getElem?_map] at h
  obtain ⟨j, e1, e2⟩ := Option.map_eq_some_iff.mp h
  obtain ⟨h1, h2⟩ := List.getElem?_eq_some_iff.mp e1
  simp at h1 h2
  subst h2
  exact ⟨h1, e2.symm⟩
theorem src_id {wide : Nat} {row : List Nat} {β : Bk} {t p : Nat} {x : Src} (h : (idl wide)[p]? = some x) : SrcOk wide row β t β t p x 0 := by
  obtain ⟨h1, rfl⟩ := idl_at h
  exact ⟨fun _ => ⟨0, by walk_at "om", rfl, fun b n m d => ⟨n, d⟩⟩, fun hh => by simp at hh; walk_at "om"⟩
theorem Good.nil (wide : Nat) (row : List Nat) (β₀ : Bk) : Good wide row β₀ [] (idl wide) 0 := by
  refine ⟨idl_len _, fun β t β' t' a b g hw hrun => ?_⟩
  generalize hl : ([] : List Act) = l at hrun
  cases hrun with
  | nil => exact ⟨hw, fun p x hx => src_id hx⟩
  | snoc => simp at hl
/-- many rounds -/
theorem Good.rounds {wide : Nat} {row : List Nat} {β₀ : Bk} {acts : List Act} {step : List Src} {E : Nat} (x : Good wide row β₀ acts step E) {β β' : Bk} {t t' a b R : Nat} (g : Grow β₀ β a b) (hw : Wd β t (wide : Int)) (hr : Rounds acts β t R β' t') :
    Wd β' t' (wide : Int) ∧ ∀ (p : Nat) y, (pw step R)[p]? = some y → SrcOk wide row β t β' t' p y (E * R) := by
  induction hr with
  | zero => exact ⟨hw, fun p y hy => by
      have : (idl wide)[p]? = some y := by rw [← x.1]; exact hy
      exact src_id this⟩
  | succ h1 h2 ih =>
    obtain ⟨w1, f1⟩ := ih hw
    obtain ⟨w2, f2⟩ := x.2 _ _ _ _ _ _ (g.trans h1.grow) w1 h2
    refine ⟨w2, fun p z hz => ?_⟩
    obtain ⟨u, hu, rfl⟩ := upon_at hz
    have := src_comp (by rw [pw_len]; exact x.1) f1 (f2 p u hu)
    rw [Nat.mul_succ]; exact this

/-- all places turned -/
noncomputable def turnedStep (wide : Nat) : List Src := (List.range wide).map fun k => (k, true)
theorem good_turned {wide s : Nat} {row : List Nat} {β₀ : Bk} (hs : β₀.widths[s]? = some (wide : Int)) : Good wide row β₀ [.mk (Str.ofString "bvnot") [] [] s (.i 0)] (turnedStep wide) 1 := by
  refine ⟨by simp [turnedStep], fun β t β' t' a b g hw hrun => ?_⟩
  cases hrun.one with
  | mk m =>
    have ht : β'.terms[t']? = some (bvnotT s t) := m.at
    refine ⟨.of ht rfl (m.grow.wd (g.wd hs)), fun p x hx => ?_⟩
    unfold turnedStep at hx
    rw [List.getElem?_map] at hx
    obtain ⟨j, e1, e2⟩ := Option.map_eq_some_iff.mp hx
    obtain ⟨h1, h2⟩ := List.getElem?_eq_some_iff.mp e1
    simp at h1 h2
    subst h2 e2
    exact ⟨fun _ => ⟨1, by walk_at "om", rfl, fun b n m' d => ⟨n + 1, .not ht (d.grow m.grow)⟩⟩, fun hh => by simp at hh; walk_at "om"⟩
/-- taken round -/
noncomputable def roundStep (wide least : Nat) : List Src := (List.range wide).map fun k => ((k + least) % wide, false)
theorem good_round {wide least s p1 p2 : Nat} {row : List Nat} {β₀ : Bk} (hs : β₀.widths[s]? = some (wide : Int)) (h1 : β₀.widths[p1]? = some (least : Int)) (h2 : β₀.widths[p2]? = some ((wide - least : Nat) : Int)) (hl : 1 ≤ least) (hlw : least < wide) :
    Good wide row β₀ [.round s p1 p2 ((least : Int) - 1) 0 ((wide : Int) - 1) (least : Int)] (roundStep wide least) 0 := by
  refine ⟨by simp [roundStep], fun β t β' t' a b g hw hrun => ?_⟩
  cases hrun.one with
  | round m1 m2 m3 =>
    rename_i β1 β2 e1 e2
    have he1 : β'.terms[e1]? = some (extT p1 t ((least : Int) - 1) 0) := m3.grow.at (m2.grow.at m1.at)
    have he2 : β'.terms[e2]? = some (extT p2 t ((wide : Int) - 1) (least : Int)) := m3.grow.at m2.at
    have ht := m3.at
    have gg := (m1.grow.trans m2.grow).trans m3.grow
    have w2 : Wd β' e2 ((wide - least : Nat) : Int) := .of he2 rfl (gg.wd (g.wd h2))
    refine ⟨.of ht rfl (gg.wd (g.wd hs)), fun p x hx => ?_⟩
    unfold roundStep at hx
    rw [List.getElem?_map] at hx
    obtain ⟨j, q1, q2⟩ := Option.map_eq_some_iff.mp hx
    obtain ⟨r1, r2⟩ := List.getElem?_eq_some_iff.mp q1
    simp at r1 r2
    subst r2 q2
    refine ⟨fun _ => ⟨0, by walk_at "om", rfl, fun b n m' d => ?_⟩, fun hh => ?_⟩
    · by_cases hp : p < wide - least
      · have em : (p + least) % wide = p + least := Nat.mod_eq_of_lt (by walk_at "om")
        simp only [em] at d
        refine ⟨n + 1 + 1, .step (.low ht w2 (by walk_at "om")) (.step (.ext he2) ?_)⟩
        have e : (p : Int) + (least : Int) = ((p + least : Nat) : Int) := by walk_at "om"
        rw [e]; exact d.grow gg
      · have em : (p + least) % wide = p + least - wide := by
          rw [Nat.mod_eq_sub_mod (by walk_at "om")]; exact Nat.mod_eq_of_lt (by walk_at "om")
        simp only [em] at d
        refine ⟨n + 1 + 1, .step (.high ht w2 (by walk_at "om")) (.step (.ext he1) ?_)⟩
        have e : (p : Int) - ((wide - least : Nat) : Int) + 0 = ((p + least - wide : Nat) : Int) := by walk_at "om"
        rw [e]; exact d.grow gg
    · have : (p + least) % wide < wide := Nat.mod_lt _ (by walk_at "om")
      simp only at hh
      walk_at "om"

theorem good_widened {wide more least sw : Nat} {row : List Nat} {β₀ : Bk} {A : Act} {spots : List Nat} (hs : β₀.widths[sw]? = some (wide : Int)) (hsl : spots.length = wide + more) (hle : least ≤ more)
    (hone : ∀ β t β1 t1 a b, Grow β₀ β a b → Wd β t (wide : Int) → Run1 β t A β1 t1 → ∀ (q sp : Nat), spots[q]? = some sp → SrcOk wide row β t β1 t1 q (sp, false) 0) :
    Good wide row β₀ [A, .mk (Str.ofString "extract") [] [] sw (.t [(least : Int) + (wide : Int) - 1, (least : Int)])] (((spots.drop least).take wide).map fun s => (s, false)) 0 := by
  refine ⟨by simp; walk_at "om", fun β t β' t' a b g hw hrun => ?_⟩
  obtain ⟨β1, t1, r1, r2⟩ := Run.split (as := [A]) (bs := [_]) hrun
  have k := hone β t β1 t1 a b g hw r1.one
  cases r2.one with
  | mk m =>
    have ht : β'.terms[t']? = some (extT sw t1 ((least : Int) + (wide : Int) - 1) (least : Int)) := m.at
    refine ⟨.of ht rfl (m.grow.wd ((g.trans r1.one.grow).wd hs)), fun p x hx => ?_⟩
    rw [List.getElem?_map] at hx
    obtain ⟨sp, q1, rfl⟩ := Option.map_eq_some_iff.mp hx
    rw [List.getElem?_take] at q1
    split at q1
    · rename_i hp
      rw [List.getElem?_drop] at q1
      have kk := k _ _ q1
      have e : (p : Int) + (least : Int) = ((least + p : Nat) : Int) := by walk_at "om"
      refine ⟨fun hlow => ?_, fun hhigh => ?_⟩
      · obtain ⟨e0, z1, z2, z3⟩ := kk.low hlow
        refine ⟨e0, z1, z2, fun b n m' d => ?_⟩
        obtain ⟨n', d'⟩ := z3 b n m' d
        exact ⟨n' + 1, .step (.ext ht) (by rw [e]; exact d'.grow m.grow)⟩
      · obtain ⟨b, n, e0, z1, z2, z3, z4⟩ := kk.high hhigh
        exact ⟨b, n + 1, e0, z1, z2, z3, .step (.ext ht) (by rw [e]; exact z4.grow m.grow)⟩
    · cases q1
theorem one_noughts {wide more s : Nat} {row : List Nat} {β₀ : Bk} (hrow : row[wide]? = some 2) : ∀ β t β1 t1 a b, Grow β₀ β a b → Wd β t (wide : Int) → Run1 β t (.mk (Str.ofString "zero_extend") [] [] s (.i (more : Int))) β1 t1 → ∀ (q sp : Nat), (List.range wide ++ List.replicate more wide)[q]? = some sp → SrcOk wide row β t β1 t1 q (sp, false) 0 := by
  intro β t β1 t1 a b g hw hrun q sp hsp
  cases hrun with
  | mk m =>
    have ht : β1.terms[t1]? = some (zextT s t (more : Int)) := m.at
    have hw1 := hw.grow m.grow
    by_cases hq : q < wide
    · rw [List.getElem?_append_left (by simpa using hq), List.getElem?_eq_getElem (by simpa using hq)] at hsp
      simp at hsp
      subst hsp
      exact ⟨fun _ => ⟨0, by walk_at "om", rfl, fun b n m' d => ⟨n + 1, .step (.zext ht hw1 (by walk_at "om")) (d.grow m.grow)⟩⟩, fun h => by simp at h; walk_at "om"⟩
    · rw [List.getElem?_append_right (by simp; walk_at "om")] at hsp
      have e : sp = wide := by
        obtain ⟨h1, h2⟩ := List.getElem?_eq_some_iff.mp hsp
        simpa using h2.symm
      subst e
      exact ⟨fun h => by simp at h, fun _ => ⟨2, 0, 0, by walk_at "om", rfl, hrow, .zext ht hw1 (by walk_at "om") rfl⟩⟩
theorem one_signs {wide more s : Nat} {row : List Nat} {β₀ : Bk} (h1 : 1 ≤ wide) : ∀ β t β1 t1 a b, Grow β₀ β a b → Wd β t (wide : Int) → Run1 β t (.mk (Str.ofString "sign_extend") [] [] s (.i (more : Int))) β1 t1 → ∀ (q sp : Nat), (List.range wide ++ List.replicate more (wide - 1))[q]? = some sp → SrcOk wide row β t β1 t1 q (sp, false) 0 := by
  intro β t β1 t1 a b g hw hrun q sp hsp
  cases hrun with
  | mk m =>
    have ht : β1.terms[t1]? = some (sextT s t (more : Int)) := m.at
    have hw1 := hw.grow m.grow
    by_cases hq : q < wide
    · rw [List.getElem?_append_left (by simpa using hq), List.getElem?_eq_getElem (by simpa using hq)] at hsp
      simp at hsp
      subst hsp
      refine ⟨fun _ => ⟨0, by walk_at "om", rfl, fun b n m' d => ⟨n + 1, .step (.sext ht hw1) ?_⟩⟩, fun h => by simp at h; walk_at "om"⟩
      rw [if_neg (by walk_at "om")]; exact d.grow m.grow
    · rw [List.getElem?_append_right (by simp; walk_at "om")] at hsp
      have e : sp = wide - 1 := by
        obtain ⟨h1, h2⟩ := List.getElem?_eq_some_iff.mp hsp
        simpa using h2.symm
      subst e
      refine ⟨fun _ => ⟨0, by walk_at "om", rfl, fun b n m' d => ⟨n + 1, .step (.sext ht hw1) ?_⟩⟩, fun h => by simp at h; walk_at "om"⟩
      rw [if_pos (by walk_at "om")]
      have e : ((wide : Nat) : Int) - 1 = ((wide - 1 : Nat) : Int) := by walk_at "om"
      rw [e]; exact d.grow m.grow
theorem one_ahead {wide more s u rl : Nat} {row bs : List Nat} {β₀ : Bk} (hrl : wide ≤ rl) (hbs : bs.length = more) (hr : Row β₀ u bs) (hrow : ∀ j, j < more → row[rl + j]? = bs[j]?) : ∀ β t β1 t1 a b, Grow β₀ β a b → Wd β t (wide : Int) → Run1 β t (.mk (Str.ofString "concat") [u] [] s (.i 0)) β1 t1 → ∀ (q sp : Nat), (List.range wide ++ (List.range more).map fun k => rl + k)[q]? = some sp → SrcOk wide row β t β1 t1 q (sp, false) 0 := by
  intro β t β1 t1 a b g hw hrun q sp hsp
  cases hrun with
  | mk m =>
    have ht : β1.terms[t1]? = some (catT s u t) := m.at
    have hw1 := hw.grow m.grow
    by_cases hq : q < wide
    · rw [List.getElem?_append_left (by simpa using hq), List.getElem?_eq_getElem (by simpa using hq)] at hsp
      simp at hsp
      subst hsp
      exact ⟨fun _ => ⟨0, by walk_at "om", rfl, fun b n m' d => ⟨n + 1, .step (.low ht hw1 (by walk_at "om")) (d.grow m.grow)⟩⟩, fun h => by simp at h; walk_at "om"⟩
    · rw [List.getElem?_append_right (by simp; walk_at "om"), List.getElem?_map] at hsp
      obtain ⟨j, e1, e2⟩ := Option.map_eq_some_iff.mp hsp
      obtain ⟨h1, h2⟩ := List.getElem?_eq_some_iff.mp e1
      simp at h1 h2
      subst h2 e2
      have hj : bs[q - wide]? = some bs[q - wide] := List.getElem?_eq_getElem (by walk_at "om")
      obtain ⟨n, d⟩ := hr _ _ hj
      refine ⟨fun h => by simp at h; walk_at "om", fun _ => ⟨bs[q - wide], n + 1, 0, by walk_at "om", rfl, ?_, .step (.high ht hw1 (by walk_at "om")) ?_⟩⟩
      · show row[rl + (q - wide)]? = _
        rw [hrow _ (by walk_at "om")]; exact hj
      · have e : (q : Int) - (wide : Int) = ((q - wide : Nat) : Int) := by walk_at "om"
        rw [e]; exact (d.grow g).grow m.grow
theorem one_behind {wide more s u rl : Nat} {row bs : List Nat} {β₀ : Bk} (hrl : wide ≤ rl) (hbs : bs.length = more) (hu : Wd β₀ u (more : Int)) (hr : Row β₀ u bs) (hrow : ∀ j, j < more → row[rl + j]? = bs[j]?) : ∀ β t β1 t1 a b, Grow β₀ β a b → Wd β t (wide : Int) → Run1 β t (.mk (Str.ofString "concat") [] [u] s (.i 0)) β1 t1 → ∀ (q sp : Nat), ((List.range more).map (fun k => rl + k) ++ List.range wide)[q]? = some sp → SrcOk wide row β t β1 t1 q (sp, false) 0 := by
  intro β t β1 t1 a b g hw hrun q sp hsp
  cases hrun with
  | mk m =>
    have ht : β1.terms[t1]? = some (catT s t u) := m.at
    have hu1 := (hu.grow g).grow m.grow
    by_cases hq : q < more
    · rw [List.getElem?_append_left (by simpa using hq), List.getElem?_map] at hsp
      obtain ⟨j, e1, e2⟩ := Option.map_eq_some_iff.mp hsp
      obtain ⟨h1, h2⟩ := List.getElem?_eq_some_iff.mp e1
      simp at h1 h2
      subst h2 e2
      have hj : bs[q]? = some bs[q] := List.getElem?_eq_getElem (by walk_at "om")
      obtain ⟨n, d⟩ := hr _ _ hj
      refine ⟨fun h => by simp at h; walk_at "om", fun _ => ⟨bs[q], n + 1, 0, by walk_at "om", rfl, ?_, .step (.low ht hu1 (by walk_at "om")) ((d.grow g).grow m.grow)⟩⟩
      show row[rl + q]? = _
      rw [hrow _ (by walk_at "om")]; exact hj
    · rw [List.getElem?_append_right (by simp; walk_at "om")] at hsp
      obtain ⟨h1, h2⟩ := List.getElem?_eq_some_iff.mp hsp
      simp at h1 h2
      subst h2
      refine ⟨fun _ => ⟨0, by walk_at "om", rfl, fun b n m' d => ⟨n + 1, .step (.high ht hu1 (by walk_at "om")) ?_⟩⟩, fun h => by simp at h; walk_at "om"⟩
      have e : (q : Int) - (more : Int) = ((q - more : Nat) : Int) := by walk_at "om"
      rw [e]; exact d.grow m.grow

section
variable {w : World} {B : Heap} {d : Nat} {H : List O} {Q : V → List O → Prop} {β : Bk}

/-- what a kind of step leaves: the acts and the map of its places -/
noncomputable def KindQ (C : Addr) (β : Bk) (H : List O) (cells : List Int) (k wide R : Nat) (row : List Nat) (Q : V → List O → Prop) : Prop :=
  ∀ (La Ls : Nat) (acts : List Act) (step : List Src) (row' : List Nat) β' H' k', Good wide row' β' acts step 1 → (∀ a ∈ acts, a.ok = true) → 1 ≤ acts.length → acts.length ≤ 2 → (∃ l, row' = row ++ l ∧ l.length ≤ 3) → Grow β β' 60 20 → BankAt C fsB β' H' → KB [2, R] H H' → Tin cells k' H' → k' ≤ k + 6 →
    H'[R]? = some (.list (natsV row')) → H'[La]? = some (.list (acts.map Act.v)) → H'[Ls]? = some (.list (srcsV step)) → H.length ≤ La → H.length ≤ Ls → Q (.tup [.ref La, .ref Ls]) H'

theorem round_spec (c : Cx B) (b : BankAt c.cTB fsB β H) (o : Base β) (hl : β.terms.length ≤ 200000) (hw : β.widths.length ≤ 80000) {cells : List Int} {k wide R : Nat} {row : List Nat} (tin : Tin cells k H) (hk : k ≤ 9000) (h2 : 2 ≤ wide) (h5 : wide ≤ 100)
    (hR : H[R]? = some (.list (natsV row))) (hRb : 15 < R) (q : KindQ c.cTB β H cells k wide R row Q) : CallC prg w B (d + 3) c.f_law_round [.ref 2, .ref 4, .int (wide : Int)] H Q := by
  refine call_def c.F_law_round rfl ?_
  walk_at "vals"
  refine evS_cons (ev1_Assign (fun _ => rfl) (ev_BinOp (ev_int (ev_Fn rfl (by with_reducible walk_at "has") c.G_law_next c.F_law_next (d' := d + 1) (by walk_at "om") ?_))))
  walk_at "loc"
  refine ev_BinOp ?_
  walk_at "loc"
  refine ev_int (w_sub (next_spec c tin (by walk_at "om") (by walk_at "om") fun r1 H₁ hr1 tin₁ ⟨o₁, e₁⟩ => w_add ?_))
  have b₁ : BankAt c.cTB fsB β H₁ := e₁ ▸ b.set (.inl (by decide))
  have kp₁ : KB [2, R] H H₁ := e₁ ▸ KB.set (by simp)
  have hR₁ : H₁[R]? = some (.list (natsV row)) := e₁ ▸ set_ne hR (by walk_at "om")
  rw [show (1 + (r1 : Int)) = ((1 + r1 : Nat) : Int) by walk_at "om"]
  generalize hle : 1 + r1 = least
  walk_at "asg"
  -- the cuts
  refine evS_cons (ev1_Assign (fun _ => rfl) (ev_Tuple rfl (by decide) (ev_Tuple rfl (by decide) ?_)))
  refine ev_Do c.X rfl rfl (by decide) rfl c.cls_cTB b₁.h4 b₁.h3 c.M_TermBank_bv_sort na_bv_sort c.F_TermBank_bv_sort (d' := d + 1) (by walk_at "om") ?_
  walk_at "obj"
  walk_at "loc"
  refine sort_spec c b₁ o.ok (by walk_at "om") (by walk_at "om") (by walk_at "om") fun p1 β₂ H₂ g₂ et₂ hs₂ b₂ kp₂ => ?_
  have wl₂ := g₂.wl
  refine ev_Tuple rfl (by decide) (ev_BinOp ?_)
  walk_at "loc"
  refine ev_int (w_sub ?_)
  refine ev_int ?_
  refine ⟨by simp, ?_⟩
  refine ⟨by simp, ?_⟩
  refine ev_Tuple rfl (by decide) ?_
  refine ev_Do c.X rfl rfl (by decide) rfl c.cls_cTB b₂.h4 b₂.h3 c.M_TermBank_bv_sort na_bv_sort c.F_TermBank_bv_sort (d' := d + 1) (by walk_at "om") ?_
  walk_at "obj"
  refine ev_BinOp ?_
  walk_at "loc"
  walk_at "loc"
  refine w_sub ?_
  refine sort_spec c b₂ (g₂.ok o.ok) (by walk_at "om") (by walk_at "om") (by walk_at "om") fun p2 β₃ H₃ g₃ et₃ hs₃ b₃ kp₃ => ?_
  have wl₃ := g₃.wl
  refine ev_Tuple rfl (by decide) (ev_BinOp ?_)
  walk_at "loc"
  refine ev_int (w_sub ?_)
  walk_at "loc"
  refine ⟨by simp, ?_⟩
  refine ⟨by simp, ?_⟩
  refine ⟨by simp, ?_⟩
  walk_at "asg"
  -- what is given back
  refine evS_cons ?_
  refine ev1_Return ?_
  refine ev_Tuple rfl (by simp) ?_
  refine ev_List rfl ?_
  refine ev_Tuple rfl (by decide) ?_
  refine ev_str ?_
  refine ev_Tuple rfl (by decide) ?_
  refine ⟨by simp, ?_⟩
  refine ev_Tuple rfl (by decide) ?_
  refine ⟨by simp, ?_⟩
  refine ev_Do c.X rfl rfl (by decide) rfl c.cls_cTB b₃.h4 b₃.h3 c.M_TermBank_bv_sort na_bv_sort c.F_TermBank_bv_sort (d' := d + 1) (by walk_at "om") ?_
  walk_at "obj"
  walk_at "loc"
  refine sort_spec c b₃ (g₃.ok (g₂.ok o.ok)) (by walk_at "om") (by walk_at "om") (by walk_at "om") fun s β₄ H₄ g₄ et₄ hs₄ b₄ kp₄ => ?_
  walk_at "loc"
  refine ⟨by simp, ?_⟩
  refine ⟨by simp, ?_⟩
  have big := b₄.big
  refine ev_CompR wide (fun j => srcV ((j + least) % wide, false)) (by walk_at "om") (fun _ _ => rfl) rfl (by with_reducible walk_at "rel") (by decide +kernel) (by decide +kernel) (by with_reducible walk_at "cv") ?_ ?_ ?_
  · refine ev_Bi rfl (by with_reducible walk_at "has") c.U_range ?_
    walk_at "loc"
    exact c_range ⟨rfl, rfl⟩
  · intro i ys hi
    refine ⟨_, .name (by with_reducible walk_at "putn"), ev_Tuple rfl (by decide) (ev_BinOp (ev_BinOp ?_))⟩
    walk_at "loc"
    walk_at "loc"
    refine w_add ?_
    walk_at "loc"
    refine w_mod (by walk_at "om") ?_
    refine ev_bool ?_
    refine ⟨by simp, ?_, rfl⟩
    have e : ((i : Int) + (least : Int)).fmod (wide : Int) = (((i + least) % wide : Nat) : Int) := by
      rw [Int.fmod_eq_emod_of_nonneg _ (by walk_at "om"), show (i : Int) + (least : Int) = ((i + least : Nat) : Int) by walk_at "om"]
      first | exact (Int.natCast_emod _ _).symm | exact (Int.natCast_mod _ _).symm | exact (Int.ofNat_emod _ _).symm
    rw [e]; rfl
  · refine ⟨by simp, ?_⟩
    have el : (List.range wide).map (fun j => srcV ((j + least) % wide, false)) = srcsV (roundStep wide least) := by simp [srcsV, roundStep]
    rw [el]
    have hlw : least < wide := by walk_at "om"
    have gg : Grow β β₄ 0 3 := (g₂.trans g₃).trans g₄
    refine q H₄.length _ [.round s p1 p2 ((least : Int) - 1) 0 ((wide : Int) - 1) (least : Int)] (roundStep wide least) row β₄ _ (k + 1) ?_ (by simp [Act.ok]) (by simp) (by simp) ⟨[], by simp⟩ (gg.mono (by walk_at "om") (by walk_at "om")) b₄.app.app (((((kp₁.trans kp₂.kb).trans kp₃.kb).trans kp₄.kb).trans .app).trans .app) (((((tin₁.keep kp₂).keep kp₃).keep kp₄).keep .app).keep .app) (by walk_at "om") (app_l (app_l (kp₄.at_ _ (.inr hRb) _ (kp₃.at_ _ (.inr hRb) _ (kp₂.at_ _ (.inr hRb) _ hR₁))))) (app_l app_r) app_r ?_ ?_
    · have gd := good_round (row := row) (β₀ := β₄) hs₄ (g₄.wd (g₃.wd hs₂)) (by rw [g₄.wd hs₃]; congr 1; walk_at "om") (by walk_at "om") hlw
      exact ⟨gd.1, fun β t β' t' a b g hw hrun => let ⟨x1, x2⟩ := gd.2 β t β' t' a b g hw hrun; ⟨x1, fun p x hx => ⟨fun h => let ⟨e, y1, y2, y3⟩ := (x2 p x hx).low h; ⟨e, by walk_at "om", y2, y3⟩, fun h => let ⟨b, n, e, y1, y2, y3, y4⟩ := (x2 p x hx).high h; ⟨b, n, e, by walk_at "om", y2, y3, y4⟩⟩⟩⟩
    · have := kp₁.len; have := kp₂.len; have := kp₃.len; have := kp₄.len; walk_at "om"
    · have := kp₁.len; have := kp₂.len; have := kp₃.len; have := kp₄.len; simp; walk_at "om"
end

section
variable {w : World} {B : Heap} {d : Nat} {H : List O} {Q : V → List O → Prop} {β : Bk}

theorem cut_tail (c : Cx B) (b : BankAt c.cTB fsB β H) (o : Base β) (hl : β.terms.length ≤ 200000) (hw : β.widths.length ≤ 85000) {cells : List Int} {k wide more least R Sp : Nat} {row spots : List Nat} {A : Act} {v1 v2 v3 v4 v5 v6 : Option V} (tin : Tin cells k H) (h2 : 2 ≤ wide) (h5 : wide ≤ 100) (hm : more ≤ 100) (hle : least ≤ more)
    (hR : H[R]? = some (.list (natsV row))) (hRb : 15 < R) (hS : H[Sp]? = some (.list (natsV spots))) (hSb : 15 < Sp) (hsl : spots.length = wide + more) (hA : A.ok = true)
    (hone : ∀ β₁ t β1 t1 a b, Grow β β₁ a b → Wd β₁ t (wide : Int) → Run1 β₁ t A β1 t1 → ∀ (q sp : Nat), spots[q]? = some sp → SrcOk wide row β₁ t β1 t1 q (sp, false) 0)
    (q : ∀ (La Ls : Nat) (acts : List Act) (step : List Src) β' H', Good wide row β' acts step 1 → (∀ a ∈ acts, a.ok = true) → 1 ≤ acts.length → acts.length ≤ 2 → Grow β β' 0 1 → BankAt c.cTB fsB β' H' → KB [2] H H' → Tin cells k H' →
      H'[R]? = some (.list (natsV row)) → H'[La]? = some (.list (acts.map Act.v)) → H'[Ls]? = some (.list (srcsV step)) → H.length ≤ La → H.length ≤ Ls → Q (.tup [.ref La, .ref Ls]) H') :
    EvS prg w B nm_law_widened (d + 3) (bd_law_widened.drop 4) [some (.ref 2), some (.ref 4), v1, some (.int (wide : Int)), some (.ref R), some (.int (more : Int)), v2, v3, some (.int (least : Int)), some A.v, some (.ref Sp), v4, v5, v6, none, none, none, none] H fun fl _ H' => match fl with | .ret v => Q v H' | .next => Q .none H' | _ => False := by
  refine evS_cons (ev1_Assign (fun _ => rfl) (ev_Tuple rfl (by decide) (ev_str (ev_Tuple rfl (by decide) ⟨by simp, ev_Tuple rfl (by decide) ⟨by simp, ?_⟩⟩))))
  refine ev_Do c.X rfl rfl (by decide) rfl c.cls_cTB b.h4 b.h3 c.M_TermBank_bv_sort na_bv_sort c.F_TermBank_bv_sort (d' := d + 1) (by walk_at "om") ?_
  walk_at "obj"
  walk_at "loc"
  refine sort_spec c b o.ok (by walk_at "om") (by walk_at "om") (by walk_at "om") fun s β₁ H₁ g₁ et hs b₁ kp₁ => ?_
  refine ev_Tuple rfl (by decide) (ev_BinOp (ev_BinOp ?_))
  walk_at "loc"
  walk_at "loc"
  refine w_add (ev_int (w_sub ?_))
  walk_at "loc"
  refine ⟨by simp, by simp, ?_⟩
  walk_at "asg"
  refine evS_cons (ev1_Return (ev_Tuple rfl (by decide) (ev_List rfl ?_)))
  walk_at "loc"
  walk_at "loc"
  refine ⟨by simp, ?_⟩
  have big := b₁.big
  have hS₁ := kp₁.at_ _ (.inr hSb) _ hS
  let H₂ := H₁ ++ [O.list [A.v, (Act.mk (Str.ofString "extract") [] [] s (.t [(least : Int) + (wide : Int) - 1, (least : Int)])).v]]
  have hpk : pickL (natsV spots) (some (least : Int)) (some ((least : Int) + (wide : Int))) = natsV ((spots.drop least).take wide) := by
    rw [show (least : Int) + (wide : Int) = ((least + wide : Nat) : Int) by walk_at "om", pick_run _ _ _ (by walk_at "om") (by simp [natsV]; walk_at "om")]
    simp only [natsV, ← List.map_drop, ← List.map_take]
    congr 2; walk_at "om"
  refine ev_CompP (.list H₂.length) (natsV ((spots.drop least).take wide)) (H₂ ++ [.list (natsV ((spots.drop least).take wide))]) (fun j => srcV (((spots.drop least).take wide).getD j 0, false)) (fun _ _ => rfl) rfl (by with_reducible walk_at "rel") (by decide +kernel) (by decide +kernel) (by with_reducible walk_at "cv") ?_ ?_ ?_ ?_ (by simp [natsV]; walk_at "om") ?_ ?_
  · refine ev_Slice (n := Sp) (vs := natsV spots) ?_
    walk_at "loc"
    refine ⟨rfl, ?_⟩
    show EvE _ _ _ _ _ _ _ _ _
    walk_at "loc"
    show EvE _ _ _ _ _ _ _ _ _
    refine ev_BinOp ?_
    walk_at "loc"
    walk_at "loc"
    refine w_add ⟨_, _, .int, .int, app_l hS₁, by simp [natsV]; walk_at "om", ?_⟩
    rw [hpk]
    exact ⟨rfl, .list⟩
  · intro ys i
    show (match (H₂ ++ [O.list (natsV ((spots.drop least).take wide))] ++ [O.list ys])[H₂.length]? with | some (.list vs) => vs[i]? | _ => none) = _
    rw [app_l app_r]
  · exact fun ys => ⟨_, app_l app_r⟩
  · exact ⟨_, app_r⟩
  · intro i u ys hu
    refine ⟨_, .name (by with_reducible walk_at "putn"), ev_Tuple rfl (by decide) ?_⟩
    walk_at "loc"
    refine ev_bool ⟨by simp, ?_, rfl⟩
    rw [List.getElem?_map] at hu
    obtain ⟨sp, e1, rfl⟩ := Option.map_eq_some_iff.mp hu
    show V.tup [V.int (sp : Int), V.bool false] = V.tup [V.int ((((spots.drop least).take wide).getD i 0 : Nat) : Int), V.bool false]
    rw [List.getD_eq_getElem?_getD, e1]; rfl
  · refine ⟨by simp, ?_⟩
    have el : (List.range (natsV ((spots.drop least).take wide)).length).map (fun j => srcV (((spots.drop least).take wide).getD j 0, false)) = srcsV (((spots.drop least).take wide).map fun s => (s, false)) := by
      apply List.ext_getElem?
      intro i
      simp only [natsV, List.length_map, srcsV, List.getElem?_map, List.map_map]
      by_cases hi : i < ((spots.drop least).take wide).length
      · rw [List.getElem?_eq_getElem (by simpa using hi), List.getElem?_eq_getElem hi]
        simp [List.getD_eq_getElem?_getD, List.getElem?_eq_getElem hi]
      · rw [List.getElem?_eq_none (by simpa using hi), List.getElem?_eq_none (by walk_at "om")]; rfl
    rw [el]
    refine q H₁.length _ [A, .mk (Str.ofString "extract") [] [] s (.t [(least : Int) + (wide : Int) - 1, (least : Int)])] (((spots.drop least).take wide).map fun s => (s, false)) β₁ _ ?_ ?_ (by simp) (by simp) g₁ b₁.app.app.app (((kp₁.kb.trans .app).trans .app).trans .app) ((((tin.keep kp₁).keep .app).keep .app).keep .app) (app_l (app_l (app_l (kp₁.at_ _ (.inr hRb) _ hR)))) (app_l (app_l app_r)) app_r ?_ ?_
    · have gd := good_widened (row := row) (β₀ := β₁) (A := A) hs hsl hle fun β₂ t β1 t1 a b g hw hr => hone β₂ t β1 t1 _ _ (g₁.trans g) hw hr
      exact ⟨gd.1, fun β t β' t' a b g hw hrun => let ⟨x1, x2⟩ := gd.2 β t β' t' a b g hw hrun; ⟨x1, fun p x hx => ⟨fun h => let ⟨e, y1, y2, y3⟩ := (x2 p x hx).low h; ⟨e, by walk_at "om", y2, y3⟩, fun h => let ⟨b, n, e, y1, y2, y3, y4⟩ := (x2 p x hx).high h; ⟨b, n, e, by walk_at "om", y2, y3, y4⟩⟩⟩⟩
    · intro a ha
      rcases List.mem_cons.mp ha with rfl | ha
      · exact hA
      · simp at ha; subst ha
        have ek : (Str.ofString "extract" == Str.ofString "round") = false := by decide +kernel
        simp [Act.ok, ok_extract, ek, KI.ok]
    · have := kp₁.len; walk_at "om"
    · have := kp₁.len; simp [H₂]; walk_at "om"
end

section
variable {w : World} {B : Heap} {d : Nat} {H : List O} {Q : V → List O → Prop} {β : Bk}

theorem cut_tail2 (c : Cx B) (b : BankAt c.cTB fsB β H) (o : Base β) (hl : β.terms.length ≤ 200000) (hw : β.widths.length ≤ 85000) {cells : List Int} {k wide more least R Sp : Nat} {row spots : List Nat} {A : Act} {v1 v2 v3 v4 v5 v6 : Option V} (tin : Tin cells k H) (hk : k ≤ 9500) (h2 : 2 ≤ wide) (h5 : wide ≤ 100) (hm : more ≤ 100) (hle : least ≤ more)
    (hR : H[R]? = some (.list (natsV row))) (hRb : 15 < R) (hS : H[Sp]? = some (.list (natsV spots))) (hSb : 15 < Sp) (hsl : spots.length = wide + more) (hA : A.ok = true)
    (hone : ∀ β₁ t β1 t1 a b, Grow β β₁ a b → Wd β₁ t (wide : Int) → Run1 β₁ t A β1 t1 → ∀ (q sp : Nat), spots[q]? = some sp → SrcOk wide row β₁ t β1 t1 q (sp, false) 0)
    (q : ∀ (La Ls : Nat) (acts : List Act) (step : List Src) β' H' k', Good wide row β' acts step 1 → (∀ a ∈ acts, a.ok = true) → 1 ≤ acts.length → acts.length ≤ 2 → Grow β β' 0 1 → BankAt c.cTB fsB β' H' → KB [2] H H' → Tin cells k' H' → k' ≤ k + 2 →
      H'[R]? = some (.list (natsV row)) → H'[La]? = some (.list (acts.map Act.v)) → H'[Ls]? = some (.list (srcsV step)) → H.length ≤ La → H.length ≤ Ls → Q (.tup [.ref La, .ref Ls]) H') :
    EvS prg w B nm_law_widened (d + 3) (bd_law_widened.drop 3) [some (.ref 2), some (.ref 4), v1, some (.int (wide : Int)), some (.ref R), some (.int (more : Int)), v2, v3, some (.int (least : Int)), some A.v, some (.ref Sp), v4, v5, v6, none, none, none, none] H fun fl _ H' => match fl with | .ret v => Q v H' | .next => Q .none H' | _ => False := by
  refine evS_cons (ev1_If (evT_Cmp rfl (ev_Fn rfl (by with_reducible walk_at "has") c.G_law_next c.F_law_next (d' := d + 1) (by walk_at "om") ?_)))
  walk_at "loc"
  refine ev_int (next_spec c tin (by walk_at "om") (by decide) fun r1 H₁ hr1 tin₁ ⟨o₁, e₁⟩ => ev_int (w_eq ⟨_, rfl, fun _ => ?_, fun _ => ?_⟩))
  · have b₁ : BankAt c.cTB fsB β H₁ := e₁ ▸ b.set (.inl (by decide))
    have kp₁ : KB [2] H H₁ := e₁ ▸ KB.set (by simp)
    have hR₁ : H₁[R]? = some (.list (natsV row)) := e₁ ▸ set_ne hR (by walk_at "om")
    have hS₁ : H₁[Sp]? = some (.list (natsV spots)) := e₁ ▸ set_ne hS (by walk_at "om")
    refine evS_cons (ev1_Assign (fun _ => rfl) (ev_Fn rfl (by with_reducible walk_at "has") c.G_law_next c.F_law_next (d' := d + 1) (by walk_at "om") ?_))
    walk_at "loc"
    refine ev_BinOp ?_
    walk_at "loc"
    refine ev_int (w_add (next_spec c tin₁ (by walk_at "om") (by walk_at "om") fun r2 H₂ hr2 tin₂ ⟨o₂, e₂⟩ => ?_))
    have b₂ : BankAt c.cTB fsB β H₂ := e₂ ▸ b₁.set (.inl (by decide))
    have kp₂ : KB [2] H₁ H₂ := e₂ ▸ KB.set (by simp)
    walk_at "asg"
    refine evS_nil (cut_tail c b₂ o hl hw tin₂ h2 h5 hm (by walk_at "om") (e₂ ▸ set_ne hR₁ (by walk_at "om")) hRb (e₂ ▸ set_ne hS₁ (by walk_at "om")) hSb hsl hA hone ?_)
    intro La Ls acts step β' H' g1 g2 g3 g4 g5 g6 g7 g8 g9 g10 g11 g12 g13
    have := kp₁.len
    have := kp₂.len
    exact q La Ls acts step β' H' _ g1 g2 g3 g4 g5 g6 ((kp₁.trans kp₂).trans g7) g8 (by walk_at "om") g9 g10 g11 (by walk_at "om") (by walk_at "om")
  · have b₁ : BankAt c.cTB fsB β H₁ := e₁ ▸ b.set (.inl (by decide))
    have kp₁ : KB [2] H H₁ := e₁ ▸ KB.set (by simp)
    refine evS_nil (cut_tail c b₁ o hl hw tin₁ h2 h5 hm hle (e₁ ▸ set_ne hR (by walk_at "om")) hRb (e₁ ▸ set_ne hS (by walk_at "om")) hSb hsl hA hone ?_)
    intro La Ls acts step β' H' g1 g2 g3 g4 g5 g6 g7 g8 g9 g10 g11 g12 g13
    have := kp₁.len
    exact q La Ls acts step β' H' _ g1 g2 g3 g4 g5 g6 (kp₁.trans g7) g8 (by walk_at "om") g9 g10 g11 (by walk_at "om") (by walk_at "om")
end

section
variable {w : World} {B : Heap} {d : Nat} {H : List O} {Q : V → List O → Prop} {β : Bk}

theorem drawn_any (c : Cx B) (b : BankAt c.cTB fsB β H) (o : Base β) (hl : β.terms.length ≤ 300000) (hw : β.widths.length ≤ 90000) (hf : β.f1.length ≤ 90000 ∧ β.f2.length ≤ 90000 ∧ β.f3.length ≤ 90000) {cells : List Int} {k wide : Nat} (tin : Tin cells k H) (hk : k ≤ 10000) (h1 : 1 ≤ wide) (h2 : wide ≤ 100) (kn : Bool)
    (q : Drawn c.cTB β H cells k wide Q) : CallC prg w B (d + 4) c.f_law_drawn [.ref 2, .ref 4, .int (wide : Int), .bool kn] H Q := by
  cases kn with
  | true => exact drawn_known c b o hl hw tin hk h1 h2 q
  | false => exact drawn_unknown c b o hl hw hf tin h1 h2 q
end

section
variable {w : World} {B : Heap} {d : Nat} {H : List O} {Q : V → List O → Prop} {β : Bk}

/-- the head of _law_widened: how much more, the sort, the places -/
theorem widened_head (c : Cx B) (b : BankAt c.cTB fsB β H) (o : Base β) (hl : β.terms.length ≤ 150000) (hw : β.widths.length ≤ 70000) {cells : List Int} {k wide R : Nat} {kind : Str} {row : List Nat} (tin : Tin cells k H) (hk : k ≤ 9000) (h2 : 2 ≤ wide) (h5 : wide ≤ 90)
    (hR : H[R]? = some (.list (natsV row))) (hRb : 15 < R)
    (q : ∀ (more s P : Nat) β' H', 1 ≤ more → more ≤ 3 → Grow β β' 0 1 → β'.terms = β.terms → β'.widths[s]? = some ((wide : Int) + (more : Int)) → BankAt c.cTB fsB β' H' → KB [2] H H' → Tin cells (k + 1) H' → H'[R]? = some (.list (natsV row)) → H'[P]? = some (.list (natsV (List.range wide))) → 15 < P → H.length ≤ P → P < H'.length → P ≠ R →
      EvS prg w B nm_law_widened (d + 5) (bd_law_widened.drop 2) [some (.ref 2), some (.ref 4), some (.str kind), some (.int (wide : Int)), some (.ref R), some (.int (more : Int)), some (.int (s : Int)), some (.ref P), some (.int 0), none, none, none, none, none, none, none, none, none] H' fun fl _ H' => match fl with | .ret v => Q v H' | .next => Q .none H' | _ => False) :
    CallC prg w B (d + 6) c.f_law_widened [.ref 2, .ref 4, .str kind, .int (wide : Int), .ref R] H Q := by
  refine call_def c.F_law_widened rfl ?_
  walk_at "vals"
  refine evS_cons (ev1_Assign (fun _ => rfl) (ev_BinOp (ev_int (ev_Fn rfl (by with_reducible walk_at "has") c.G_law_next c.F_law_next (d' := d + 1) (by walk_at "om") ?_))))
  walk_at "loc"
  refine ev_int (next_spec c tin (by walk_at "om") (by decide) fun r1 H₁ hr1 tin₁ ⟨o₁, e₁⟩ => w_add ?_)
  have b₁ : BankAt c.cTB fsB β H₁ := e₁ ▸ b.set (.inl (by decide))
  have kp₁ : KB [2] H H₁ := e₁ ▸ KB.set (by simp)
  have hR₁ : H₁[R]? = some (.list (natsV row)) := e₁ ▸ set_ne hR (by walk_at "om")
  rw [show (1 + (r1 : Int)) = ((1 + r1 : Nat) : Int) by walk_at "om"]
  generalize hmo : 1 + r1 = more
  walk_at "asg"
  refine evS_cons (ev1_AssignTup (xs := [(Str.ofString "sort", _), (Str.ofString "places", _), (Str.ofString "least", _)]) (fun _ => rfl) (fun _ => swapped_or rfl) ?_)
  refine ev_Tuple rfl (by simp) ?_
  refine ev_Do c.X rfl rfl (by decide) rfl c.cls_cTB b₁.h4 b₁.h3 c.M_TermBank_bv_sort na_bv_sort c.F_TermBank_bv_sort (d' := d + 1) (by walk_at "om") ?_
  walk_at "obj"
  refine ev_BinOp ?_
  walk_at "loc"
  walk_at "loc"
  refine w_add ?_
  refine sort_spec c b₁ o.ok (by walk_at "om") (by walk_at "om") (by walk_at "om") fun s β₂ H₂ g₂ et₂ hs₂ b₂ kp₂ => ?_
  refine ev_Bi rfl (by with_reducible walk_at "has") c.U_list (ev_Bi rfl (by with_reducible walk_at "has") c.U_range ?_)
  walk_at "loc"
  refine c_range (c_list_rng (by walk_at "om") ?_)
  have big := b₂.big
  have hRl := (List.getElem?_eq_some_iff.mp (kp₂.at_ _ (.inr hRb) _ hR₁)).1
  refine ev_int ⟨by simp, _, rfl, rfl, [some (.ref 2), some (.ref 4), some (.str kind), some (.int (wide : Int)), some (.ref R), some (.int (more : Int)), some (.int (s : Int)), some (.ref H₂.length), some (.int 0), none, none, none, none, none, none, none, none, none], ?_, ?_, ?_⟩
  · exact .cons (by with_reducible walk_at "put") (.inl rfl) (.cons (by with_reducible walk_at "put") (.inl rfl) (.cons (by with_reducible walk_at "put") (.inl rfl) .nil))
  · exact .cons (by with_reducible walk_at "put") (.inl rfl) (.cons (by with_reducible walk_at "put") (.inl rfl) (.cons (by with_reducible walk_at "put") (.inl rfl) .nil))
  · refine q more s H₂.length β₂ _ (by walk_at "om") (by walk_at "om") g₂ et₂ hs₂ b₂.app ((kp₁.trans kp₂.kb).trans .app) ((tin₁.keep kp₂).keep .app) (app_l (kp₂.at_ _ (.inr hRb) _ hR₁)) app_r big ?_ (by simp) (by walk_at "om")
    have := kp₁.len
    have := kp₂.len
    walk_at "om"
end

theorem kindw_ne : (Str.ofString "signs" == Str.ofString "noughts") = false ∧ (Str.ofString "ahead" == Str.ofString "noughts") = false ∧ (Str.ofString "ahead" == Str.ofString "signs") = false ∧ (Str.ofString "behind" == Str.ofString "noughts") = false ∧ (Str.ofString "behind" == Str.ofString "signs") = false ∧ (Str.ofString "behind" == Str.ofString "ahead") = false ∧
  (Str.ofString "zero_extend" == Str.ofString "round") = false ∧ (Str.ofString "sign_extend" == Str.ofString "round") = false ∧ (Str.ofString "concat" == Str.ofString "round") = false := by decide +kernel
section
variable {w : World} {B : Heap} {d : Nat} {H : List O} {Q : V → List O → Prop} {β : Bk}

theorem widened_noughts (c : Cx B) (b : BankAt c.cTB fsB β H) (o : Base β) (hl : β.terms.length ≤ 150000) (hw : β.widths.length ≤ 70000) {cells : List Int} {k wide R : Nat} {row : List Nat} (tin : Tin cells k H) (hk : k ≤ 9000) (h2 : 2 ≤ wide) (h5 : wide ≤ 90)
    (hR : H[R]? = some (.list (natsV row))) (hRb : 15 < R) (hrow : row[wide]? = some 2) (q : KindQ c.cTB β H cells k wide R row Q) : CallC prg w B (d + 6) c.f_law_widened [.ref 2, .ref 4, .str (Str.ofString "noughts"), .int (wide : Int), .ref R] H Q := by
  obtain ⟨n1, n2, n3, n4, n5, n6, n7, n8, n9⟩ := kindw_ne
  refine widened_head c b o hl hw tin hk h2 h5 hR hRb fun more s P β₁ H₁ hm1 hm3 g₁ et hs b₁ kp₁ tin₁ hR₁ hP hPb hPl hPu hPR => ?_
  have tl := g₁.tl
  have wl := g₁.wl
  refine evS_cons (ev1_If (evT_Cmp rfl ?_))
  walk_at "loc"
  refine ev_str (w_eqs ⟨_, rfl, fun _ => ?_, fun h => ?_⟩)
  · refine evS_cons (ev1_AssignTup (xs := [(Str.ofString "one", _), (Str.ofString "spots", _)]) (fun _ => rfl) (fun _ => swapped_or rfl) ?_)
    refine ev_Tuple rfl (by simp) ?_
    refine ev_Tuple rfl (by simp) ?_
    refine ev_str ?_
    refine ev_Tuple rfl (by simp) ?_
    refine ⟨by simp, ?_⟩
    refine ev_Tuple rfl (by simp) ?_
    refine ⟨by simp, ?_⟩
    walk_at "loc"
    walk_at "loc"
    refine ⟨by simp, ?_⟩
    refine ev_BinOp ?_
    walk_at "loc"
    refine ev_BinOp ?_
    refine ev_List rfl ?_
    walk_at "loc"
    refine ⟨by simp, ?_⟩
    walk_at "loc"
    refine w_list_mul app_r (by walk_at "om") (by walk_at "om") ?_
    rw [tn]
    refine w_list_add (app_l (app_l hP)) app_r (by simp [natsV]; walk_at "om") ?_
    have es : natsV (List.range wide) ++ List.replicate more (V.int (wide : Int)) = natsV (List.range wide ++ List.replicate more wide) := by simp [natsV]
    rw [es]
    refine ⟨by simp, _, rfl, rfl, [some (.ref 2), some (.ref 4), some (.str (Str.ofString "noughts")), some (.int (wide : Int)), some (.ref R), some (.int (more : Int)), some (.int (s : Int)), some (.ref P), some (.int 0), some (.tup [.str (Str.ofString "zero_extend"), .tup [], .tup [], .int (s : Int), .int (more : Int)]), some (.ref (H₁ ++ [O.list [V.int (wide : Int)]] ++ [O.list (List.replicate more (V.int (wide : Int)))]).length), none, none, none, none, none, none, none], ?_, ?_, ?_⟩
    · exact .cons (by with_reducible walk_at "put") (.inl rfl) (.cons (by with_reducible walk_at "put") (.inl rfl) .nil)
    · exact .cons (by with_reducible walk_at "put") (.inl rfl) (.cons (by with_reducible walk_at "put") (.inl rfl) .nil)
    · refine evS_nil (cut_tail2 (A := .mk (Str.ofString "zero_extend") [] [] s (.i (more : Int))) (least := 0) c b₁.app.app.app (o.grow g₁) (by walk_at "om") (by walk_at "om") (((tin₁.keep .app).keep .app).keep .app) (by walk_at "om") h2 (by walk_at "om") (by walk_at "om") (by walk_at "om") (app_l (app_l (app_l hR₁))) hRb app_r (by have := b₁.big; simp; walk_at "om") (by simp) (by simp [Act.ok, ok_zero_extend, n7, KI.ok]) (one_noughts (row := row) (β₀ := β₁) hrow) ?_)
      intro La Ls acts step β' H' k' g1 g2 g3 g4 g5 g6 g7 g8 g9 g10 g11 g12 g13 g14
      simp only [List.length_append, List.length_cons, List.length_nil] at g13 g14
      exact q La Ls acts step row β' H' k' g1 g2 g3 g4 ⟨[], by simp⟩ ((g₁.trans g5).mono (by walk_at "om") (by walk_at "om")) g6 ((kp₁.mono (by simp)).trans ((((KB.app.trans .app).trans .app).trans g7).mono (by simp))) g8 (by walk_at "om") g10 g11 g12 (by walk_at "om") (by walk_at "om")
  · simp at h
end

section
variable {w : World} {B : Heap} {d : Nat} {H : List O} {Q : V → List O → Prop} {β : Bk}

theorem widened_signs (c : Cx B) (b : BankAt c.cTB fsB β H) (o : Base β) (hl : β.terms.length ≤ 150000) (hw : β.widths.length ≤ 70000) {cells : List Int} {k wide R : Nat} {row : List Nat} (tin : Tin cells k H) (hk : k ≤ 9000) (h2 : 2 ≤ wide) (h5 : wide ≤ 90)
    (hR : H[R]? = some (.list (natsV row))) (hRb : 15 < R) (q : KindQ c.cTB β H cells k wide R row Q) : CallC prg w B (d + 6) c.f_law_widened [.ref 2, .ref 4, .str (Str.ofString "signs"), .int (wide : Int), .ref R] H Q := by
  obtain ⟨n1, n2, n3, n4, n5, n6, n7, n8, n9⟩ := kindw_ne
  refine widened_head c b o hl hw tin hk h2 h5 hR hRb fun more s P β₁ H₁ hm1 hm3 g₁ et hs b₁ kp₁ tin₁ hR₁ hP hPb hPl hPu hPR => ?_
  have tl := g₁.tl
  have wl := g₁.wl
  refine evS_cons (ev1_If (evT_Cmp rfl ?_))
  walk_at "loc"
  refine ev_str (w_eqs ⟨_, rfl, fun h => ?_, fun _ => ?_⟩)
  · rw [n1] at h; cases h
  refine evS_cons (ev1_If (evT_Cmp rfl ?_))
  walk_at "loc"
  refine ev_str (w_eqs ⟨_, rfl, fun _ => ?_, fun h => ?_⟩)
  · refine evS_cons (ev1_AssignTup (xs := [(Str.ofString "one", _), (Str.ofString "spots", _)]) (fun _ => rfl) (fun _ => swapped_or rfl) ?_)
    refine ev_Tuple rfl (by simp) ?_
    refine ev_Tuple rfl (by simp) ?_
    refine ev_str ?_
    refine ev_Tuple rfl (by simp) ?_
    refine ⟨by simp, ?_⟩
    refine ev_Tuple rfl (by simp) ?_
    refine ⟨by simp, ?_⟩
    walk_at "loc"
    walk_at "loc"
    refine ⟨by simp, ?_⟩
    refine ev_BinOp ?_
    walk_at "loc"
    refine ev_BinOp ?_
    refine ev_List rfl ?_
    refine ev_BinOp ?_
    walk_at "loc"
    refine ev_int (w_sub ?_)
    rw [show (wide : Int) - 1 = ((wide - 1 : Nat) : Int) by walk_at "om"]
    refine ⟨by simp, ?_⟩
    walk_at "loc"
    refine w_list_mul app_r (by walk_at "om") (by walk_at "om") ?_
    rw [tn]
    refine w_list_add (app_l (app_l hP)) app_r (by simp [natsV]; walk_at "om") ?_
    have es : natsV (List.range wide) ++ List.replicate more (V.int ((wide - 1 : Nat) : Int)) = natsV (List.range wide ++ List.replicate more (wide - 1)) := by simp [natsV]
    rw [es]
    refine ⟨by simp, _, rfl, rfl, [some (.ref 2), some (.ref 4), some (.str (Str.ofString "signs")), some (.int (wide : Int)), some (.ref R), some (.int (more : Int)), some (.int (s : Int)), some (.ref P), some (.int 0), some (.tup [.str (Str.ofString "sign_extend"), .tup [], .tup [], .int (s : Int), .int (more : Int)]), some (.ref (H₁ ++ [O.list [V.int ((wide - 1 : Nat) : Int)]] ++ [O.list (List.replicate more (V.int ((wide - 1 : Nat) : Int)))]).length), none, none, none, none, none, none, none], ?_, ?_, ?_⟩
    · exact .cons (by with_reducible walk_at "put") (.inl rfl) (.cons (by with_reducible walk_at "put") (.inl rfl) .nil)
    · exact .cons (by with_reducible walk_at "put") (.inl rfl) (.cons (by with_reducible walk_at "put") (.inl rfl) .nil)
    · refine evS_nil (evS_nil (cut_tail2 (A := .mk (Str.ofString "sign_extend") [] [] s (.i (more : Int))) (least := 0) c b₁.app.app.app (o.grow g₁) (by walk_at "om") (by walk_at "om") (((tin₁.keep .app).keep .app).keep .app) (by walk_at "om") h2 (by walk_at "om") (by walk_at "om") (by walk_at "om") (app_l (app_l (app_l hR₁))) hRb app_r (by have := b₁.big; simp; walk_at "om") (by simp) (by simp [Act.ok, ok_sign_extend, n8, KI.ok]) (one_signs (row := row) (β₀ := β₁) (by walk_at "om")) ?_))
      intro La Ls acts step β' H' k' g1 g2 g3 g4 g5 g6 g7 g8 g9 g10 g11 g12 g13 g14
      simp only [List.length_append, List.length_cons, List.length_nil] at g13 g14
      exact q La Ls acts step row β' H' k' g1 g2 g3 g4 ⟨[], by simp⟩ ((g₁.trans g5).mono (by walk_at "om") (by walk_at "om")) g6 ((kp₁.mono (by simp)).trans ((((KB.app.trans .app).trans .app).trans g7).mono (by simp))) g8 (by walk_at "om") g10 g11 g12 (by walk_at "om") (by walk_at "om")
  · simp at h
end

section
variable {w : World} {B : Heap} {d : Nat} {H : List O} {Q : V → List O → Prop} {β : Bk}

/-- the two kinds with another vector: till the last choice -/
theorem widened_aside (c : Cx B) (b : BankAt c.cTB fsB β H) (o : Base β) (hl : β.terms.length ≤ 150000) (hw : β.widths.length ≤ 70000) (hf : β.f1.length ≤ 70000 ∧ β.f2.length ≤ 70000 ∧ β.f3.length ≤ 70000) {cells : List Int} {k wide R : Nat} {row : List Nat} {kind : Str} (tin : Tin cells k H) (hk : k ≤ 8000) (h2 : 2 ≤ wide) (h5 : wide ≤ 90)
    (hR : H[R]? = some (.list (natsV row))) (hRb : 15 < R) (hrl : row.length ≤ 1000) (e1 : (kind == Str.ofString "noughts") = false) (e2 : (kind == Str.ofString "signs") = false)
    (q : ∀ (more s P S t : Nat) (bs : List Nat) (L : Nat) β' H' k', 1 ≤ more → more ≤ 3 → bs.length = more → Grow β β' 20 10 → β'.widths[s]? = some ((wide : Int) + (more : Int)) → Wd β' t (more : Int) → Row β' t bs → BankAt c.cTB fsB β' H' → KB [2, R] H H' → Tin cells k' H' → k' ≤ k + 3 → H'[R]? = some (.list (natsV (row ++ bs))) → H'[P]? = some (.list (natsV (List.range wide))) → H'[S]? = some (.list (natsV ((List.range more).map fun j => row.length + j))) → 15 < P → 15 < S → H.length ≤ H'.length → P ≠ S →
      EvS prg w B nm_law_widened (d + 5) ((ifElse (nthS (ifElse (nthS (bd_law_widened.drop 2) 0)) 0)).drop 3) [some (.ref 2), some (.ref 4), some (.str kind), some (.int (wide : Int)), some (.ref R), some (.int (more : Int)), some (.int (s : Int)), some (.ref P), some (.int 0), none, some (.ref S), some (.int (t : Int)), some (.ref L), none, none, none, none, none] H' fun f vals' H'' => match f with
        | .next => EvS prg w B nm_law_widened (d + 5) (bd_law_widened.drop 3) vals' H'' fun fl _ H' => match fl with | .ret v => Q v H' | .next => Q .none H' | _ => False
        | .ret v => Q v H''
        | _ => False) :
    CallC prg w B (d + 6) c.f_law_widened [.ref 2, .ref 4, .str kind, .int (wide : Int), .ref R] H Q := by
  refine widened_head c b o hl hw tin (by walk_at "om") h2 h5 hR hRb fun more s P β₁ H₁ hm1 hm3 g₁ et hs b₁ kp₁ tin₁ hR₁ hP hPb hPl hPu hPR => ?_
  have tl := g₁.tl
  have wl := g₁.wl
  have fn := g₁.fns
  refine evS_cons (ev1_If (evT_Cmp rfl ?_))
  walk_at "loc"
  refine ev_str (w_eqs ⟨_, rfl, fun h => ?_, fun _ => ?_⟩)
  · rw [e1] at h; cases h
  refine evS_cons (ev1_If (evT_Cmp rfl ?_))
  walk_at "loc"
  refine ev_str (w_eqs ⟨_, rfl, fun h => ?_, fun _ => ?_⟩)
  · rw [e2] at h; cases h
  refine evS_cons (ev1_AssignTup (xs := [(Str.ofString "aside", _), (Str.ofString "truths", _)]) (fun _ => rfl) (fun _ => .inl rfl) ?_)
  refine ev_Fn rfl (by with_reducible walk_at "has") c.G_law_drawn c.F_law_drawn (d' := d + 4) (by walk_at "om") ?_
  walk_at "loc"
  walk_at "loc"
  walk_at "loc"
  refine ev_Cmp rfl ?_
  refine ev_Fn rfl (by with_reducible walk_at "has") c.G_law_next c.F_law_next (d' := d + 1) (by walk_at "om") ?_
  walk_at "loc"
  refine ev_int (next_spec c tin₁ (by walk_at "om") (by decide) fun r2 H₂ hr2 tin₂ ⟨o₂, e₂'⟩ => ev_int (w_eq ?_))
  have b₂ : BankAt c.cTB fsB β₁ H₂ := e₂' ▸ b₁.set (.inl (by decide))
  have kp₂ : KB [2] H₁ H₂ := e₂' ▸ KB.set (by simp)
  have hR₂ : H₂[R]? = some (.list (natsV row)) := e₂' ▸ set_ne hR₁ (by walk_at "om")
  have hP₂ : H₂[P]? = some (.list (natsV (List.range wide))) := e₂' ▸ set_ne hP (by walk_at "om")
  have big2 := b₂.big
  refine drawn_any c b₂ (o.grow g₁) (by walk_at "om") (by walk_at "om") (by walk_at "om") tin₂ (by walk_at "om") (by walk_at "om") (by walk_at "om") _ fun t L bs β₃ H₃ k₃ hlb ht wdt row₃ g₃ b₃ kp₃ tin₃ hk₃ hL hLl => ?_
  refine ⟨_, rfl, rfl, [some (.ref 2), some (.ref 4), some (.str kind), some (.int (wide : Int)), some (.ref R), some (.int (more : Int)), some (.int (s : Int)), some (.ref P), some (.int 0), none, none, some (.int (t : Int)), some (.ref L), none, none, none, none, none], ?_, ?_, ?_⟩
  · exact .cons (by with_reducible walk_at "put") (.inl rfl) (.cons (by with_reducible walk_at "put") (.inl rfl) .nil)
  · exact .cons (by with_reducible walk_at "put") (.inl rfl) (.cons (by with_reducible walk_at "put") (.inl rfl) .nil)
  have big3 := b₃.big
  have hPl2 := (List.getElem?_eq_some_iff.mp hP₂).1
  have hRl2 := (List.getElem?_eq_some_iff.mp hR₂).1
  have hR₃ : H₃[R]? = some (.list (natsV row)) := kp₃.at_ _ (.inr hRb) (by simp; walk_at "om") _ hR₂
  have hP₃ : H₃[P]? = some (.list (natsV (List.range wide))) := kp₃.at_ _ (.inr hPb) (by simp; walk_at "om") _ hP₂
  have hLu := (List.getElem?_eq_some_iff.mp hL).1
  refine evS_cons (ev1_AssignCompP (.rng (more : Int)) _ H₃ (fun j => .int ((row.length + j : Nat) : Int)) (fun _ _ => rfl) rfl (by with_reducible walk_at "rel") (by decide +kernel) (by decide +kernel) (by with_reducible walk_at "cv") (by with_reducible walk_at "has") rfl rfl ?_ (fun ys i => rng_items more _ i) (fun ys => rng_live more _ (by walk_at "om")) (rng_live more _ (by walk_at "om")) (by simp; walk_at "om") ?_ ?_)
  · refine ev_Bi rfl (by with_reducible walk_at "has") c.U_range ?_
    walk_at "loc"
    exact c_range ⟨rfl, .rng⟩
  · intro i u ys hu
    obtain ⟨hi, rfl⟩ := rng_at hu
    refine ⟨_, .name (by with_reducible walk_at "putn"), ev_BinOp (ev_Bi rfl (by with_reducible walk_at "has") c.U_len ?_)⟩
    walk_at "loc"
    refine c_len_list (app_l hR₃) (by simp; walk_at "om") ?_
    walk_at "loc"
    refine w_add ⟨?_, rfl⟩
    simp
  · refine ⟨_, by with_reducible walk_at "put", ?_⟩
    have eS : (List.range ((List.range more).map fun j : Nat => V.int (j : Int)).length).map (fun j => V.int ((row.length + j : Nat) : Int)) = natsV ((List.range more).map fun j => row.length + j) := by simp [natsV]
    rw [eS]
    refine evS_cons (ev1_Expr (fun _ => rfl) (ev_LMeth (n := R) PySem.F.slot_list_extend PySem.F.type_list_extend rfl rfl (by decide) rfl (app_l hR₃) ?_))
    walk_at "obj"
    walk_at "loc"
    refine c_extend (app_l hR₃) (app_l hL) (by simp; walk_at "om") ?_
    have eR : natsV row ++ natsV bs = natsV (row ++ bs) := by simp [natsV]
    rw [eR]
    have hRl3 := (List.getElem?_eq_some_iff.mp hR₃).1
    have hPl3 := (List.getElem?_eq_some_iff.mp hP₃).1
    have l1 := kp₁.len
    have l2 := kp₂.len
    have l3 := kp₃.len
    refine WS.mono (q more s P H₃.length t bs L β₃ _ k₃ hm1 hm3 hlb ((g₁.trans g₃).mono (by walk_at "om") (by walk_at "om")) (g₃.wd hs) wdt row₃ (b₃.app.set (.inr hRb)) ((((kp₁.trans kp₂).trans kp₃).mono (by simp)).trans (KB.app.trans (.set (by simp)))) ?_ (by walk_at "om") (set_eq (app_l hR₃)) (set_ne (app_l hP₃) (by walk_at "om")) (set_ne app_r (by walk_at "om")) hPb (by walk_at "om") (by simp; walk_at "om") (by walk_at "om")) ?_
    · exact (tin₃.keep (.app (l := [.list (natsV ((List.range more).map fun j => row.length + j))]))).kb (bad := [R]) (KB.set (by simp)) (by simp; walk_at "om") (by simp; walk_at "om")
    · intro f v H' h
      cases f with
      | next => exact evS_nil h
      | ret u => exact h
      | brk => exact h
      | cont => exact h
end

section
variable {w : World} {B : Heap} {d : Nat} {H : List O} {Q : V → List O → Prop} {β : Bk}

theorem widened_ahead (c : Cx B) (b : BankAt c.cTB fsB β H) (o : Base β) (hl : β.terms.length ≤ 150000) (hw : β.widths.length ≤ 70000) (hf : β.f1.length ≤ 70000 ∧ β.f2.length ≤ 70000 ∧ β.f3.length ≤ 70000) {cells : List Int} {k wide R : Nat} {row : List Nat} (tin : Tin cells k H) (hk : k ≤ 8000) (h2 : 2 ≤ wide) (h5 : wide ≤ 90)
    (hR : H[R]? = some (.list (natsV row))) (hRb : 15 < R) (hrl : row.length ≤ 1000) (hrw : wide ≤ row.length) (q : KindQ c.cTB β H cells k wide R row Q) : CallC prg w B (d + 6) c.f_law_widened [.ref 2, .ref 4, .str (Str.ofString "ahead"), .int (wide : Int), .ref R] H Q := by
  obtain ⟨n1, n2, n3, n4, n5, n6, n7, n8, n9⟩ := kindw_ne
  refine widened_aside c b o hl hw hf tin hk h2 h5 hR hRb hrl n2 n3 fun more s P S t bs L β₁ H₁ k₁ hm1 hm3 hlb g₁ hs wdt rowt b₁ kp₁ tin₁ hk₁ hR₁ hP hS hPb hSb hlen hPS => ?_
  have tl := g₁.tl
  have wl := g₁.wl
  refine evS_cons (ev1_If (evT_Cmp rfl ?_))
  walk_at "loc"
  refine ev_str (w_eqs ⟨_, rfl, fun _ => ?_, fun h => ?_⟩)
  · refine evS_cons (ev1_AssignTup (xs := [(Str.ofString "one", _), (Str.ofString "spots", _)]) (fun _ => rfl) (fun _ => swapped_or rfl) ?_)
    refine ev_Tuple rfl (by simp) ?_
    refine ev_Tuple rfl (by simp) ?_
    refine ev_str ?_
    refine ev_Tuple rfl (by simp) ?_
    walk_at "loc"
    refine ⟨by simp, ?_⟩
    refine ev_Tuple rfl (by simp) ?_
    refine ⟨by simp, ?_⟩
    walk_at "loc"
    refine ev_int ?_
    refine ⟨by simp, ?_⟩
    refine ev_BinOp ?_
    walk_at "loc"
    walk_at "loc"
    refine w_list_add hP hS (by simp [natsV]; walk_at "om") ?_
    have es : natsV (List.range wide) ++ natsV ((List.range more).map fun j => row.length + j) = natsV (List.range wide ++ (List.range more).map fun j => row.length + j) := by simp [natsV]
    rw [es]
    refine ⟨by simp, _, rfl, rfl, [some (.ref 2), some (.ref 4), some (.str (Str.ofString "ahead")), some (.int (wide : Int)), some (.ref R), some (.int (more : Int)), some (.int (s : Int)), some (.ref P), some (.int 0), some (.tup [.str (Str.ofString "concat"), .tup [.int (t : Int)], .tup [], .int (s : Int), .int 0]), some (.ref H₁.length), some (.int (t : Int)), some (.ref L), none, none, none, none, none], ?_, ?_, ?_⟩
    · exact .cons (by with_reducible walk_at "put") (.inl rfl) (.cons (by with_reducible walk_at "put") (.inl rfl) .nil)
    · exact .cons (by with_reducible walk_at "put") (.inl rfl) (.cons (by with_reducible walk_at "put") (.inl rfl) .nil)
    · refine evS_nil (evS_nil ?_)
      refine cut_tail2 (A := .mk (Str.ofString "concat") [t] [] s (.i 0)) (least := 0) (row := row ++ bs) (Q := Q) c b₁.app (o.grow g₁) (by walk_at "om") (by walk_at "om") (tin₁.keep .app) (by walk_at "om") h2 (by walk_at "om") (by walk_at "om") (by walk_at "om") (app_l hR₁) hRb app_r (by have := b₁.big; walk_at "om") (by simp) (by simp [Act.ok, ok_concat, n9, KI.ok]) (one_ahead (row := row ++ bs) (β₀ := β₁) hrw hlb rowt ?_) ?_
      · intro j hj
        rw [List.getElem?_append_right (by walk_at "om")]
        congr 1; walk_at "om"
      · intro La Ls acts step β' H' k' g1 g2 g3 g4 g5 g6 g7 g8 g9 g10 g11 g12 g13 g14
        simp only [List.length_append, List.length_cons, List.length_nil] at g13 g14
        exact q La Ls acts step (row ++ bs) β' H' k' g1 g2 g3 g4 ⟨bs, rfl, by walk_at "om"⟩ ((g₁.trans g5).mono (by walk_at "om") (by walk_at "om")) g6 (kp₁.trans ((KB.app.trans g7).mono (by simp))) g8 (by walk_at "om") g10 g11 g12 (by walk_at "om") (by walk_at "om")
  · simp at h

theorem widened_behind (c : Cx B) (b : BankAt c.cTB fsB β H) (o : Base β) (hl : β.terms.length ≤ 150000) (hw : β.widths.length ≤ 70000) (hf : β.f1.length ≤ 70000 ∧ β.f2.length ≤ 70000 ∧ β.f3.length ≤ 70000) {cells : List Int} {k wide R : Nat} {row : List Nat} (tin : Tin cells k H) (hk : k ≤ 8000) (h2 : 2 ≤ wide) (h5 : wide ≤ 90)
    (hR : H[R]? = some (.list (natsV row))) (hRb : 15 < R) (hrl : row.length ≤ 1000) (hrw : wide ≤ row.length) (q : KindQ c.cTB β H cells k wide R row Q) : CallC prg w B (d + 6) c.f_law_widened [.ref 2, .ref 4, .str (Str.ofString "behind"), .int (wide : Int), .ref R] H Q := by
  obtain ⟨n1, n2, n3, n4, n5, n6, n7, n8, n9⟩ := kindw_ne
  refine widened_aside c b o hl hw hf tin hk h2 h5 hR hRb hrl n4 n5 fun more s P S t bs L β₁ H₁ k₁ hm1 hm3 hlb g₁ hs wdt rowt b₁ kp₁ tin₁ hk₁ hR₁ hP hS hPb hSb hlen hPS => ?_
  have tl := g₁.tl
  have wl := g₁.wl
  refine evS_cons (ev1_If (evT_Cmp rfl ?_))
  walk_at "loc"
  refine ev_str (w_eqs ⟨_, rfl, fun h => ?_, fun _ => ?_⟩)
  · rw [n6] at h; cases h
  · refine evS_cons (ev1_AssignTup (xs := [(Str.ofString "one", _), (Str.ofString "spots", _), (Str.ofString "least", _)]) (fun _ => rfl) (fun _ => swapped_or rfl) ?_)
    refine ev_Tuple rfl (by simp) ?_
    refine ev_Tuple rfl (by simp) ?_
    refine ev_str ?_
    refine ev_Tuple rfl (by simp) ?_
    refine ⟨by simp, ?_⟩
    refine ev_Tuple rfl (by simp) ?_
    walk_at "loc"
    refine ⟨by simp, ?_⟩
    walk_at "loc"
    refine ev_int ?_
    refine ⟨by simp, ?_⟩
    refine ev_BinOp ?_
    walk_at "loc"
    walk_at "loc"
    refine w_list_add hS hP (by simp [natsV]; walk_at "om") ?_
    have es : natsV ((List.range more).map fun j => row.length + j) ++ natsV (List.range wide) = natsV ((List.range more).map (fun j => row.length + j) ++ List.range wide) := by simp [natsV]
    rw [es]
    walk_at "loc"
    refine ⟨by simp, _, rfl, rfl, [some (.ref 2), some (.ref 4), some (.str (Str.ofString "behind")), some (.int (wide : Int)), some (.ref R), some (.int (more : Int)), some (.int (s : Int)), some (.ref P), some (.int (more : Int)), some (.tup [.str (Str.ofString "concat"), .tup [], .tup [.int (t : Int)], .int (s : Int), .int 0]), some (.ref H₁.length), some (.int (t : Int)), some (.ref L), none, none, none, none, none], ?_, ?_, ?_⟩
    · exact .cons (by with_reducible walk_at "put") (.inl rfl) (.cons (by with_reducible walk_at "put") (.inl rfl) (.cons (by with_reducible walk_at "put") (.inl rfl) .nil))
    · exact .cons (by with_reducible walk_at "put") (.inl rfl) (.cons (by with_reducible walk_at "put") (.inl rfl) (.cons (by with_reducible walk_at "put") (.inl rfl) .nil))
    · refine evS_nil (evS_nil ?_)
      refine cut_tail2 (A := .mk (Str.ofString "concat") [] [t] s (.i 0)) (least := more) (row := row ++ bs) (Q := Q) c b₁.app (o.grow g₁) (by walk_at "om") (by walk_at "om") (tin₁.keep .app) (by walk_at "om") h2 (by walk_at "om") (by walk_at "om") (by walk_at "om") (app_l hR₁) hRb app_r (by have := b₁.big; walk_at "om") (by simp; walk_at "om") (by simp [Act.ok, ok_concat, n9, KI.ok]) (one_behind (row := row ++ bs) (β₀ := β₁) hrw hlb wdt rowt ?_) ?_
      · intro j hj
        rw [List.getElem?_append_right (by walk_at "om")]
        congr 1; walk_at "om"
      · intro La Ls acts step β' H' k' g1 g2 g3 g4 g5 g6 g7 g8 g9 g10 g11 g12 g13 g14
        simp only [List.length_append, List.length_cons, List.length_nil] at g13 g14
        exact q La Ls acts step (row ++ bs) β' H' k' g1 g2 g3 g4 ⟨bs, rfl, by walk_at "om"⟩ ((g₁.trans g5).mono (by walk_at "om") (by walk_at "om")) g6 (kp₁.trans ((KB.app.trans g7).mono (by simp))) g8 (by walk_at "om") g10 g11 g12 (by walk_at "om") (by walk_at "om")
end

noncomputable def sixK : List Str := [Str.ofString "noughts", Str.ofString "signs", Str.ofString "ahead", Str.ofString "turned", Str.ofString "behind", Str.ofString "round"]
theorem six_eq : (Str.ofString "noughts" == Str.ofString "turned") = false ∧ (Str.ofString "signs" == Str.ofString "turned") = false ∧ (Str.ofString "ahead" == Str.ofString "turned") = false ∧ (Str.ofString "behind" == Str.ofString "turned") = false ∧ (Str.ofString "round" == Str.ofString "turned") = false ∧
  (Str.ofString "noughts" == Str.ofString "round") = false ∧ (Str.ofString "signs" == Str.ofString "round") = false ∧ (Str.ofString "ahead" == Str.ofString "round") = false ∧ (Str.ofString "behind" == Str.ofString "round") = false ∧ (Str.ofString "turned" == Str.ofString "round") = false ∧ (Str.ofString "bvnot" == Str.ofString "round") = false := by decide +kernel
structure CI (C : Addr) (β₀ : Bk) (H₀ : List O) (cells : List Int) (k₀ wide R : Nat) (row₀ : List Nat) (lap K Lc Lp : Nat) (ks : List Str) (acts : List Act) (plan : List Src) (row : List Nat) (β : Bk) (k lv : Nat) (H : List O) : Prop where
  good : Good wide row β acts plan lap
  ok : ∀ a ∈ acts, a.ok = true
  lv1 : lap ≤ lv
  lv2 : lv ≤ 2 * lap
  al : acts.length ≤ 2 * lap
  rw : ∃ l, row = row₀ ++ l ∧ l.length ≤ 3 * lap
  grow : Grow β₀ β (60 * lap) (20 * lap)
  bank : BankAt C fsB β H
  kb : KB [2, R, K] H₀ H
  tin : Tin cells k H
  hk : k ≤ k₀ + 7 * lap
  hR : H[R]? = some (.list (natsV row))
  hK : H[K]? = some (.list (ks.map .str))
  hc : H[Lc]? = some (.list (acts.map Act.v))
  hp : H[Lp]? = some (.list (srcsV plan))
  kl : ks.length = 6 - lap
  km : ∀ x ∈ ks, x ∈ sixK
  hRl : R < H₀.length
  lK : H₀.length ≤ K
  lc : H₀.length ≤ Lc
  lp : H₀.length ≤ Lp
  nc : Lc ≠ K
  np : Lp ≠ K
theorem CI.lt {C : Addr} {β₀ β : Bk} {H₀ H : List O} {cells : List Int} {k₀ wide R lap K Lc Lp k lv : Nat} {row₀ row : List Nat} {ks : List Str} {acts : List Act} {plan : List Src} (x : CI C β₀ H₀ cells k₀ wide R row₀ lap K Lc Lp ks acts plan row β k lv H) : K < H.length ∧ Lc < H.length ∧ Lp < H.length ∧ H₀.length ≤ H.length :=
  ⟨(List.getElem?_eq_some_iff.mp x.hK).1, (List.getElem?_eq_some_iff.mp x.hc).1, (List.getElem?_eq_some_iff.mp x.hp).1, x.kb.len⟩
section
variable {w : World} {B : Heap} {d : Nat} {H : List O} {Q : V → List O → Prop} {β : Bk}

theorem widened_any (c : Cx B) (b : BankAt c.cTB fsB β H) (o : Base β) (hl : β.terms.length ≤ 150000) (hw : β.widths.length ≤ 70000) (hf : β.f1.length ≤ 70000 ∧ β.f2.length ≤ 70000 ∧ β.f3.length ≤ 70000) {cells : List Int} {k wide R : Nat} {row : List Nat} {kind : Str} (tin : Tin cells k H) (hk : k ≤ 8000) (h2 : 2 ≤ wide) (h5 : wide ≤ 90)
    (hR : H[R]? = some (.list (natsV row))) (hRb : 15 < R) (hrl : row.length ≤ 1000) (hrow : row[wide]? = some 2) (hk6 : kind ∈ sixK) (n1 : (kind == Str.ofString "turned") = false) (n2 : (kind == Str.ofString "round") = false) (q : KindQ c.cTB β H cells k wide R row Q) : CallC prg w B (d + 6) c.f_law_widened [.ref 2, .ref 4, .str kind, .int (wide : Int), .ref R] H Q := by
  have hrw : wide ≤ row.length := by have := (List.getElem?_eq_some_iff.mp hrow).1; walk_at "om"
  simp only [sixK, List.mem_cons, List.not_mem_nil, or_false] at hk6
  rcases hk6 with rfl | rfl | rfl | rfl | rfl | rfl
  · exact widened_noughts c b o hl hw tin (by walk_at "om") h2 h5 hR hRb hrow q
  · exact widened_signs c b o hl hw tin (by walk_at "om") h2 h5 hR hRb q
  · exact widened_ahead c b o hl hw hf tin (by walk_at "om") h2 h5 hR hRb hrl hrw q
  · simp at n1
  · exact widened_behind c b o hl hw hf tin (by walk_at "om") h2 h5 hR hRb hrl hrw q
  · simp at n2

noncomputable abbrev courseV (wide R K Lc Lp lv : Nat) (v1 v2 v3 v4 : Option V) : Vals := [some (.ref 2), some (.ref 4), some (.int (wide : Int)), some (.ref R), some (.ref K), some (.ref Lc), some (.int (lv : Int)), some (.ref Lp), v1, v2, v3, v4, none, none, none, none, none, none]

/-- the end of a lap: the course, the plan and the levels grow -/
theorem lap_tail (c : Cx B) {β₀ : Bk} {H₀ : List O} {cells : List Int} {k₀ wide R lap K Lc Lp k lv : Nat} {row₀ row : List Nat} {ks ks' : List Str} {acts : List Act} {plan : List Src} {kind : Str} {v1 : Option V} (x : CI c.cTB β₀ H₀ cells k₀ wide R row₀ lap K Lc Lp ks acts plan row β k lv H) (h5 : wide ≤ 90) (h3 : lap < 3)
    {H1 H' : List O} {La Ls k' : Nat} {acts' : List Act} {step : List Src} {row' : List Nat} {β' : Bk} (hks : H1[K]? = some (.list (ks'.map .str))) (hkl : ks'.length = 6 - (lap + 1)) (hkm : ∀ x ∈ ks', x ∈ sixK) (kp1 : KB [2, R, K] H H1) (hR15 : 15 < R)
    (g1 : Good wide row' β' acts' step 1) (g2 : ∀ a ∈ acts', a.ok = true) (g4 : acts'.length ≤ 2) (g5 : ∃ l, row' = row ++ l ∧ l.length ≤ 3) (g6 : Grow β β' 60 20) (g7 : BankAt c.cTB fsB β' H') (g8 : KB [2, R] H1 H') (g9 : Tin cells k' H') (g10 : k' ≤ k + 7)
    (g11 : H'[R]? = some (.list (natsV row'))) (g12 : H'[La]? = some (.list (acts'.map Act.v))) (g13 : H'[Ls]? = some (.list (srcsV step)))
    {Q : Fl → Vals → List O → Prop} (q : ∀ K Lc Lp ks acts plan row β k lv H v4, CI c.cTB β₀ H₀ cells k₀ wide R row₀ (lap + 1) K Lc Lp ks acts plan row β k lv H → Q .next (courseV wide R K Lc Lp lv v1 (some (.str kind)) (some (.ref La)) v4) H) :
    EvS prg w B nm_law_course (d + 6) ((whileBody (nthS bd_law_course 2)).drop 2) (courseV wide R K Lc Lp lv v1 (some (.str kind)) (some (.ref La)) (some (.ref Ls))) H' Q := by
  obtain ⟨lt1, lt2, lt3, lt4⟩ := x.lt
  have lk := x.lK
  have lc := x.lc
  have lp := x.lp
  have rl := x.hRl
  have nc := x.nc
  have np := x.np
  have hb := x.bank.big
  have kk : KB [2, R, K] H H' := kp1.trans (g8.mono (by simp))
  have hc' : H'[Lc]? = some (.list (acts.map Act.v)) := kk.at_ _ (.inr (by walk_at "om")) (by simp; walk_at "om") _ x.hc
  have hp' : H'[Lp]? = some (.list (srcsV plan)) := kk.at_ _ (.inr (by walk_at "om")) (by simp; walk_at "om") _ x.hp
  have hK' : H'[K]? = some (.list (ks'.map .str)) := g8.at_ _ (.inr (by walk_at "om")) (by simp; walk_at "om") _ hks
  have al := x.al
  have pl := x.good.1
  have sl := g1.1
  have hl4 := kk.len
  have hl5 := (List.getElem?_eq_some_iff.mp hK').1
  obtain ⟨l1, e1, hl1⟩ := x.rw
  obtain ⟨l2', e2, hl2⟩ := g5
  refine evS_cons (ev1_AssignTup (xs := [(Str.ofString "course", _), (Str.ofString "plan", _), (Str.ofString "levels", _)]) (fun _ => rfl) (fun _ => swapped_or rfl) ?_)
  refine ev_Tuple rfl (by simp) ?_
  refine ev_BinOp ?_
  walk_at "loc"
  walk_at "loc"
  refine w_list_add hc' g12 (by simp; walk_at "om") ?_
  refine ev_Fn rfl (by with_reducible walk_at "has") c.G_law_upon c.F_law_upon (d' := d + 1) (by walk_at "om") ?_
  walk_at "loc"
  walk_at "loc"
  refine upon_spec c (app_l hp') (app_l g13) (by walk_at "om") (by walk_at "om") ?_
  refine ev_BinOp ?_
  walk_at "loc"
  rw [← List.map_append]
  generalize hH2 : H' ++ [O.list ((acts ++ acts').map Act.v)] = H2
  have hc2 : H2[H'.length]? = some (.list ((acts ++ acts').map Act.v)) := hH2 ▸ app_r
  have l2 : H2.length = H'.length + 1 := by rw [← hH2]; simp
  have k2 : KB [] H' (H2 ++ [O.list (srcsV (upon plan step))]) := by rw [← hH2]; exact KB.app.trans .app
  have kk2 : KB [] H' H2 := by rw [← hH2]; exact .app
  have fin : ∀ lv', lap + 1 ≤ lv' → lv' ≤ 2 * (lap + 1) → CI c.cTB β₀ H₀ cells k₀ wide R row₀ (lap + 1) K H'.length H2.length ks' (acts ++ acts') (upon plan step) row' β' k' lv' (H2 ++ [O.list (srcsV (upon plan step))]) := by
    intro lv' hv1 hv2
    have hk0 := x.hk
    refine ⟨(x.good.grow g6 ⟨l2', e2⟩).comp g1, ?_, hv1, hv2, by simp; walk_at "om", ⟨l1 ++ l2', by rw [e2, e1, List.append_assoc], by simp; walk_at "om"⟩, (x.grow.trans g6).mono (by walk_at "om") (by walk_at "om"), ?_, (x.kb.trans kk).trans (k2.mono (by simp)), ?_, by walk_at "om",
      k2.at_ _ (.inr hR15) (by simp) _ g11, k2.at_ _ (.inr (by walk_at "om")) (by simp) _ hK', app_l hc2, app_r, hkl, hkm, rl, lk, by walk_at "om", by walk_at "om", by walk_at "om", by walk_at "om"⟩
    · intro a ha
      rcases List.mem_append.mp ha with h | h
      · exact x.ok a h
      · exact g2 a h
    · rw [← hH2]; exact g7.app.app
    · rw [← hH2]; exact (g9.keep .app).keep .app
  have lv1 := x.lv1
  have lv2 := x.lv2
  refine ev_IfExp (evT_Cmp rfl ?_)
  walk_at "loc"
  refine ev_str (w_eqs ⟨_, rfl, fun _ => ev_int (w_add ?_), fun _ => ev_int (w_add ?_)⟩)
  · rw [show (lv : Int) + 1 = ((lv + 1 : Nat) : Int) by walk_at "om"]
    refine ⟨by simp, _, rfl, rfl, courseV wide R K H'.length H2.length (lv + 1) v1 (some (.str kind)) (some (.ref La)) (some (.ref Ls)), ?_, ?_, ?_⟩
    · exact .cons (by with_reducible walk_at "put") (.inl rfl) (.cons (by with_reducible walk_at "put") (.inl rfl) (.cons (by with_reducible walk_at "put") (.inl rfl) .nil))
    · exact .cons (by with_reducible walk_at "put") (.inl rfl) (.cons (by with_reducible walk_at "put") (.inl rfl) (.cons (by with_reducible walk_at "put") (.inl rfl) .nil))
    · exact evS_nil (q _ _ _ _ _ _ _ _ _ _ _ _ (fin _ (by walk_at "om") (by walk_at "om")))
  · rw [show (lv : Int) + 2 = ((lv + 2 : Nat) : Int) by walk_at "om"]
    refine ⟨by simp, _, rfl, rfl, courseV wide R K H'.length H2.length (lv + 2) v1 (some (.str kind)) (some (.ref La)) (some (.ref Ls)), ?_, ?_, ?_⟩
    · exact .cons (by with_reducible walk_at "put") (.inl rfl) (.cons (by with_reducible walk_at "put") (.inl rfl) (.cons (by with_reducible walk_at "put") (.inl rfl) .nil))
    · exact .cons (by with_reducible walk_at "put") (.inl rfl) (.cons (by with_reducible walk_at "put") (.inl rfl) (.cons (by with_reducible walk_at "put") (.inl rfl) .nil))
    · exact evS_nil (q _ _ _ _ _ _ _ _ _ _ _ _ (fin _ (by walk_at "om") (by walk_at "om")))
end

theorem erase_map {α γ : Type} (f : α → γ) : ∀ (l : List α) (i : Nat), (l.map f).eraseIdx i = (l.eraseIdx i).map f
  | [], _ => rfl
  | _ :: _, 0 => rfl
  | a :: l, i + 1 => by rw [List.map_cons, List.eraseIdx_cons_succ, List.eraseIdx_cons_succ, List.map_cons, erase_map f l i]
section
variable {w : World} {B : Heap} {d : Nat} {H : List O} {Q : V → List O → Prop} {β : Bk}

/-- one lap -/
theorem lap_spec (c : Cx B) {β₀ : Bk} {H₀ : List O} {cells : List Int} {k₀ wide R lap K Lc Lp k lv : Nat} {row₀ row : List Nat} {ks : List Str} {acts : List Act} {plan : List Src} {v1 v2 v3 v4 : Option V} (x : CI c.cTB β₀ H₀ cells k₀ wide R row₀ lap K Lc Lp ks acts plan row β k lv H) (h2 : 2 ≤ wide) (h5 : wide ≤ 90) (h3 : lap < 3)
    (o₀ : Base β₀) (hl : β₀.terms.length ≤ 140000) (hw : β₀.widths.length ≤ 60000) (hf : β₀.f1.length ≤ 60000 ∧ β₀.f2.length ≤ 60000 ∧ β₀.f3.length ≤ 60000) (hk : k₀ ≤ 7000) (hRb : 15 < R) (hrl : row₀.length ≤ 900) (hrow : row₀[wide]? = some 2)
    {Q : Fl → Vals → List O → Prop} (q : ∀ K Lc Lp ks acts plan row β k lv H v2 v3 v4, CI c.cTB β₀ H₀ cells k₀ wide R row₀ (lap + 1) K Lc Lp ks acts plan row β k lv H → Q .next (courseV wide R K Lc Lp lv v1 v2 v3 v4) H) :
    EvS prg w B nm_law_course (d + 6) (whileBody (nthS bd_law_course 2)) (courseV wide R K Lc Lp lv v1 v2 v3 v4) H Q := by
  obtain ⟨lt1, lt2, lt3, lt4⟩ := x.lt
  obtain ⟨s1, s2, s3, s4, s5, s6, s7, s8, s9, s10, s11⟩ := six_eq
  have lk := x.lK
  have lc := x.lc
  have lp := x.lp
  have rl := x.hRl
  have kl := x.kl
  have hk0 := x.hk
  have gt := x.grow.tl
  have gw := x.grow.wl
  have gf := x.grow.fns
  have ob := o₀.grow x.grow
  obtain ⟨l1, e1, hl1⟩ := x.rw
  have hrow' : row[wide]? = some 2 := by rw [e1, List.getElem?_append_left (List.getElem?_eq_some_iff.mp hrow).1]; exact hrow
  have hrl' : row.length ≤ 1000 := by rw [e1]; simp; walk_at "om"
  -- the kind
  refine evS_cons (ev1_Assign (fun _ => rfl) (ev_LMeth (n := K) PySem.F.slot_list_pop PySem.F.type_list_pop rfl rfl (by decide) rfl x.hK ?_))
  walk_at "loc"
  refine ⟨rfl, rfl, ?_⟩
  refine ev_Fn rfl (by with_reducible walk_at "has") c.G_law_next c.F_law_next (d' := d + 1) (by walk_at "om") ?_
  walk_at "loc"
  refine ev_Bi rfl (by with_reducible walk_at "has") c.U_len ?_
  walk_at "loc"
  refine c_len_list x.hK (by simp; walk_at "om") ?_
  refine next_spec c x.tin (by walk_at "om") (by simp; walk_at "om") fun r1 H1 hr1 tin1 ⟨o1, eH⟩ => ?_
  have hr1' : r1 < ks.length := by simp at hr1; walk_at "om"
  have b1 : BankAt c.cTB fsB β H1 := eH ▸ x.bank.set (.inl (by decide))
  have hb := x.bank.big
  have hK1 : H1[K]? = some (.list (ks.map .str)) := eH ▸ set_ne x.hK (by walk_at "om")
  have hR1 : H1[R]? = some (.list (natsV row)) := eH ▸ set_ne x.hR (by walk_at "om")
  have kp1 : KB [2, R, K] H H1 := eH ▸ KB.set (by simp)
  have hkk : ks[r1]? = some ks[r1] := List.getElem?_eq_getElem hr1'
  generalize ks[r1] = kind at hkk
  have hkm : kind ∈ sixK := x.km _ (List.mem_of_getElem? hkk)
  refine c_pop_at (v := .str kind) hK1 (by walk_at "om") (by rw [tn, List.getElem?_map, hkk]; rfl) (by simp; walk_at "om") ?_
  rw [tn]
  have ek : (List.map V.str ks).eraseIdx r1 = (ks.eraseIdx r1).map V.str := erase_map V.str ks r1
  rw [ek]
  generalize hks' : ks.eraseIdx r1 = ks'
  have hkl' : ks'.length = 6 - (lap + 1) := by rw [← hks', List.length_eraseIdx_of_lt hr1']; walk_at "om"
  have hkm' : ∀ y ∈ ks', y ∈ sixK := fun y hy => x.km _ (List.mem_of_mem_eraseIdx (hks' ▸ hy))
  generalize hH2 : H1.set K (O.list (ks'.map V.str)) = H2
  have l1h : H1.length = H.length := by rw [eH]; simp
  have b2 : BankAt c.cTB fsB β H2 := hH2 ▸ b1.set (.inr (by walk_at "om"))
  have tin2 : Tin cells (k + 1) H2 := hH2 ▸ tin1.kb (bad := [K]) (KB.set (by simp)) (by simp; walk_at "om") (by simp; walk_at "om")
  have hK2 : H2[K]? = some (.list (ks'.map .str)) := hH2 ▸ set_eq hK1
  have hR2 : H2[R]? = some (.list (natsV row)) := hH2 ▸ set_ne hR1 (by walk_at "om")
  have kp2 : KB [2, R, K] H H2 := kp1.trans (hH2 ▸ KB.set (by simp))
  have l2h : H2.length = H.length := by rw [← hH2]; simp [l1h]
  walk_at "asg"
  -- which
  refine evS_cons (ev1_If (evT_Cmp rfl ?_))
  walk_at "loc"
  refine ev_str (w_eqs ⟨_, rfl, fun ht => ?_, fun ht => ?_⟩)
  · refine evS_cons (ev1_AssignTup (xs := [(Str.ofString "some", _), (Str.ofString "step", _)]) (fun _ => rfl) (fun _ => swapped_or rfl) ?_)
    refine ev_Tuple rfl (by simp) ?_
    refine ev_List rfl ?_
    refine ev_Tuple rfl (by simp) ?_
    refine ev_str ?_
    refine ev_Tuple rfl (by simp) ?_
    refine ⟨by simp, ?_⟩
    refine ev_Tuple rfl (by simp) ?_
    refine ⟨by simp, ?_⟩
    refine ev_Do c.X rfl rfl (by decide) rfl c.cls_cTB b2.h4 b2.h3 c.M_TermBank_bv_sort na_bv_sort c.F_TermBank_bv_sort (d' := d + 1) (by walk_at "om") ?_
    walk_at "obj"
    walk_at "loc"
    refine sort_spec c b2 ob.ok (by walk_at "om") (by walk_at "om") (by walk_at "om") fun s β3 H3 g3 et3 hs3 b3 kp3 => ?_
    refine ev_int ?_
    refine ⟨by simp, ?_⟩
    refine ⟨by simp, ?_⟩
    have b3b := b3.big
    refine ev_CompR wide (fun j => srcV (j, true)) (by walk_at "om") (fun _ _ => rfl) rfl (by with_reducible walk_at "rel") (by decide +kernel) (by decide +kernel) (by with_reducible walk_at "cv") ?_ ?_ ?_
    · refine ev_Bi rfl (by with_reducible walk_at "has") c.U_range ?_
      walk_at "loc"
      exact c_range ⟨rfl, rfl⟩
    · intro i ys hi
      refine ⟨_, .name (by with_reducible walk_at "putn"), ev_Tuple rfl (by simp) ?_⟩
      walk_at "loc"
      refine ev_bool ?_
      exact ⟨by simp, rfl, rfl⟩
    · have el : (List.range wide).map (fun j => srcV (j, true)) = srcsV (turnedStep wide) := by simp [srcsV, turnedStep]
      rw [el]
      have eL : (H3 ++ [O.list [V.tup [V.str (Str.ofString "bvnot"), V.tup [], V.tup [], V.int (s : Int), V.int 0]]]).length = H3.length + 1 := by simp
      rw [eL]
      refine ⟨by simp, _, rfl, rfl, courseV wide R K Lc Lp lv v1 (some (.str kind)) (some (.ref H3.length)) (some (.ref (H3.length + 1))), ?_, ?_, ?_⟩
      · exact .cons (by with_reducible walk_at "put") (.inl rfl) (.cons (by with_reducible walk_at "put") (.inl rfl) .nil)
      · exact .cons (by with_reducible walk_at "put") (.inl rfl) (.cons (by with_reducible walk_at "put") (.inl rfl) .nil)
      · refine evS_nil (lap_tail c x h5 h3 (H1 := H2) (ks' := ks') (acts' := [.mk (Str.ofString "bvnot") [] [] s (.i 0)]) (step := turnedStep wide) (row' := row) (β' := β3) hK2 hkl' hkm' kp2 hRb (good_turned hs3) ?_ (by simp) ⟨[], by simp⟩ (g3.mono (by walk_at "om") (by walk_at "om")) b3.app.app ((kp3.kb.trans .app).trans .app) (((tin2.keep kp3).keep .app).keep .app) (by walk_at "om") (app_l (app_l (kp3.at_ _ (.inr hRb) _ hR2))) (app_l app_r) ?_ fun K' Lc' Lp' ks2 acts2 plan2 row2 β2 k2 lv2 H2 v4' y => q _ _ _ _ _ _ _ _ _ _ _ _ _ _ y)
        · intro a ha
          simp at ha
          subst ha
          simp [Act.ok, ok_bvnot, s11, KI.ok]
        · have : H3.length + 1 = (H3 ++ [O.list [(Act.mk (Str.ofString "bvnot") [] [] s (.i 0)).v]]).length := by simp
          rw [this]; exact app_r
  · refine evS_cons (ev1_If (evT_Cmp rfl ?_))
    walk_at "loc"
    refine ev_str (w_eqs ⟨_, rfl, fun hr => ?_, fun hr => ?_⟩)
    · refine evS_cons (ev1_AssignTup (xs := [(Str.ofString "some", _), (Str.ofString "step", _)]) (fun _ => rfl) (fun _ => .inl rfl) ?_)
      refine ev_Fn rfl (by with_reducible walk_at "has") c.G_law_round c.F_law_round (d' := d + 3) (by walk_at "om") ?_
      walk_at "loc"
      walk_at "loc"
      walk_at "loc"
      refine round_spec c b2 ob (by walk_at "om") (by walk_at "om") tin2 (by walk_at "om") h2 (by walk_at "om") hR2 hRb fun La Ls acts' step row' β3 H3 k3 g1 g2 g3 g4 g5 g6 g7 g8 g9 g10 g11 g12 g13 g14 g15 => ?_
      refine ⟨_, rfl, rfl, courseV wide R K Lc Lp lv v1 (some (.str kind)) (some (.ref La)) (some (.ref Ls)), ?_, ?_, ?_⟩
      · exact .cons (by with_reducible walk_at "put") (.inl rfl) (.cons (by with_reducible walk_at "put") (.inl rfl) .nil)
      · exact .cons (by with_reducible walk_at "put") (.inl rfl) (.cons (by with_reducible walk_at "put") (.inl rfl) .nil)
      · exact evS_nil (evS_nil (lap_tail c x h5 h3 (H1 := H2) (ks' := ks') hK2 hkl' hkm' kp2 hRb g1 g2 g4 g5 g6 g7 g8 g9 (by walk_at "om") g11 g12 g13 fun K' Lc' Lp' ks2 acts2 plan2 row2 β2 k2 lv2 H2 v4' y => q _ _ _ _ _ _ _ _ _ _ _ _ _ _ y))
    · refine evS_cons (ev1_AssignTup (xs := [(Str.ofString "some", _), (Str.ofString "step", _)]) (fun _ => rfl) (fun _ => .inl rfl) ?_)
      refine ev_Fn rfl (by with_reducible walk_at "has") c.G_law_widened c.F_law_widened (d' := d + 6) (by walk_at "om") ?_
      walk_at "loc"
      walk_at "loc"
      walk_at "loc"
      walk_at "loc"
      walk_at "loc"
      refine widened_any c b2 ob (by walk_at "om") (by walk_at "om") (by walk_at "om") tin2 (by walk_at "om") h2 (by walk_at "om") hR2 hRb hrl' hrow' hkm ht hr fun La Ls acts' step row' β3 H3 k3 g1 g2 g3 g4 g5 g6 g7 g8 g9 g10 g11 g12 g13 g14 g15 => ?_
      refine ⟨_, rfl, rfl, courseV wide R K Lc Lp lv v1 (some (.str kind)) (some (.ref La)) (some (.ref Ls)), ?_, ?_, ?_⟩
      · exact .cons (by with_reducible walk_at "put") (.inl rfl) (.cons (by with_reducible walk_at "put") (.inl rfl) .nil)
      · exact .cons (by with_reducible walk_at "put") (.inl rfl) (.cons (by with_reducible walk_at "put") (.inl rfl) .nil)
      · exact evS_nil (evS_nil (lap_tail c x h5 h3 (H1 := H2) (ks' := ks') hK2 hkl' hkm' kp2 hRb g1 g2 g4 g5 g6 g7 g8 g9 (by walk_at "om") g11 g12 g13 fun K' Lc' Lp' ks2 acts2 plan2 row2 β2 k2 lv2 H2 v4' y => q _ _ _ _ _ _ _ _ _ _ _ _ _ _ y))
end

section
variable {w : World} {B : Heap} {d : Nat} {H : List O} {Q : V → List O → Prop} {β : Bk}

theorem course_spec (c : Cx B) (b : BankAt c.cTB fsB β H) (o : Base β) (hl : β.terms.length ≤ 140000) (hw : β.widths.length ≤ 60000) (hf : β.f1.length ≤ 60000 ∧ β.f2.length ≤ 60000 ∧ β.f3.length ≤ 60000) {cells : List Int} {k wide R : Nat} {row : List Nat} (tin : Tin cells k H) (hk : k ≤ 7000) (h2 : 2 ≤ wide) (h5 : wide ≤ 90)
    (hR : H[R]? = some (.list (natsV row))) (hRb : 15 < R) (hrl : row.length ≤ 900) (hrow : row[wide]? = some 2)
    (q : ∀ (Lc Lp : Nat) (acts : List Act) (plan : List Src) (row' : List Nat) β' H' k' (lv : Nat), Good wide row' β' acts plan 3 → (∀ a ∈ acts, a.ok = true) → 3 ≤ lv → lv ≤ 6 → acts.length ≤ 6 → (∃ l, row' = row ++ l ∧ l.length ≤ 9) → Grow β β' 180 60 → BankAt c.cTB fsB β' H' → KB [2, R] H H' → Tin cells k' H' → k' ≤ k + 21 →
      H'[R]? = some (.list (natsV row')) → H'[Lc]? = some (.list (acts.map Act.v)) → H'[Lp]? = some (.list (srcsV plan)) → H.length ≤ Lc → H.length ≤ Lp → Q (.tup [.ref Lc, .int (lv : Int), .ref Lp]) H') : CallC prg w B (d + 7) c.f_law_course [.ref 2, .ref 4, .int (wide : Int), .ref R] H Q := by
  refine call_def c.F_law_course rfl ?_
  walk_at "vals"
  have big := b.big
  have hRl := (List.getElem?_eq_some_iff.mp hR).1
  refine evS_cons (ev1_AssignTup (xs := [(Str.ofString "kinds", _), (Str.ofString "course", _), (Str.ofString "levels", _)]) (fun _ => rfl) (fun _ => swapped_or rfl) ?_)
  refine ev_Tuple rfl (by simp) ?_
  refine ev_List rfl ?_
  refine ev_str ?_
  refine ev_str ?_
  refine ev_str ?_
  refine ev_str ?_
  refine ev_str ?_
  refine ev_str ?_
  refine ⟨by simp, ?_⟩
  refine ev_List rfl ?_
  refine ⟨by simp, ?_⟩
  refine ev_int ?_
  have eK : (H ++ [O.list [V.str (Str.ofString "noughts"), V.str (Str.ofString "signs"), V.str (Str.ofString "ahead"), V.str (Str.ofString "turned"), V.str (Str.ofString "behind"), V.str (Str.ofString "round")]]) = H ++ [O.list (sixK.map .str)] := rfl
  rw [eK]
  have eL : (H ++ [O.list (sixK.map V.str)]).length = H.length + 1 := by simp
  rw [eL]
  refine ⟨by simp, _, rfl, rfl, [some (.ref 2), some (.ref 4), some (.int (wide : Int)), some (.ref R), some (.ref H.length), some (.ref (H.length + 1)), some (.int 0), none, none, none, none, none, none, none, none, none, none, none], ?_, ?_, ?_⟩
  · exact .cons (by with_reducible walk_at "put") (.inl rfl) (.cons (by with_reducible walk_at "put") (.inl rfl) (.cons (by with_reducible walk_at "put") (.inl rfl) .nil))
  · exact .cons (by with_reducible walk_at "put") (.inl rfl) (.cons (by with_reducible walk_at "put") (.inl rfl) (.cons (by with_reducible walk_at "put") (.inl rfl) .nil))
  generalize hH1 : H ++ [O.list (sixK.map V.str)] ++ [O.list []] = H1
  have l1 : H1.length = H.length + 2 := by rw [← hH1]; simp
  refine evS_cons (ev1_AssignCompP (.rng (wide : Int)) _ H1 (fun j => srcV (j, false)) (fun _ _ => rfl) rfl (by with_reducible walk_at "rel") (by decide +kernel) (by decide +kernel) (by with_reducible walk_at "cv") (by with_reducible walk_at "has") rfl rfl ?_ (fun ys i => rng_items wide _ i) (fun ys => rng_live wide _ (by walk_at "om")) (rng_live wide _ (by walk_at "om")) (by simp; walk_at "om") ?_ ?_)
  · refine ev_Bi rfl (by with_reducible walk_at "has") c.U_range ?_
    walk_at "loc"
    exact c_range ⟨rfl, .rng⟩
  · intro i u ys hu
    obtain ⟨hi, rfl⟩ := rng_at hu
    refine ⟨_, .name (by with_reducible walk_at "putn"), ev_Tuple rfl (by simp) ?_⟩
    walk_at "loc"
    refine ev_bool ?_
    exact ⟨by simp, rfl, rfl⟩
  · refine ⟨_, by with_reducible walk_at "put", ?_⟩
    have eS : (List.range ((List.range wide).map fun j : Nat => V.int (j : Int)).length).map (fun j => srcV (j, false)) = srcsV (idl wide) := by simp [srcsV, idl]
    rw [eS]
    have start : CI c.cTB β H cells k wide R row 0 H.length (H.length + 1) H1.length sixK [] (idl wide) row β k 0 (H1 ++ [O.list (srcsV (idl wide))]) := by
      have e0 : H1[H.length]? = some (O.list (sixK.map V.str)) := hH1 ▸ app_l app_r
      have e1 : H1[H.length + 1]? = some (O.list []) := by rw [← hH1, ← eL]; exact app_r
      have kk : KB [2, R, H.length] H H1 := by rw [← hH1]; exact KB.app.trans .app
      refine ⟨.nil _ _ _, by simp, by walk_at "om", by walk_at "om", by simp, ⟨[], by simp⟩, .refl _, by rw [← hH1]; exact b.app.app.app, kk.trans .app, by rw [← hH1]; exact ((tin.keep .app).keep .app).keep .app, by walk_at "om", ?_, app_l e0, app_l e1, app_r, rfl, fun x hx => hx, hRl, by walk_at "om", by walk_at "om", by walk_at "om", by walk_at "om", by walk_at "om"⟩
      rw [← hH1]; exact app_l (app_l (app_l hR))
    refine evS_cons (ev1_For (.rng 3) 3 (fun lap vals H' => ∃ (K Lc Lp : Nat) (ks : List Str) (acts : List Act) (plan : List Src) (row' : List Nat) (β' : Bk) (k' lv : Nat) (v1 v2 v3 v4 : Option V), vals = courseV wide R K Lc Lp lv v1 v2 v3 v4 ∧ lap ≤ 3 ∧ CI c.cTB β H cells k wide R row lap K Lc Lp ks acts plan row' β' k' lv H') (fun _ _ => rfl) ?_ ?_ ?_ ?_)
    · refine ev_Bi rfl (by with_reducible walk_at "has") c.U_range ?_
      refine ev_int ?_
      exact c_range ⟨.rng, _, _, _, _, _, _, _, _, _, _, _, _, _, _, rfl, by walk_at "om", start⟩
    · rintro lap vals H' ⟨K, Lc, Lp, ks, acts, plan, row', β', k', lv, v1, v2, v3, v4, rfl, hle, _⟩
      exact ⟨⟨by decide, by decide⟩, hle⟩
    · rintro lap vals H' ⟨K, Lc, Lp, ks, acts, plan, row', β', k', lv, v1, v2, v3, v4, rfl, hle, x⟩ hnone
      have e : lap = 3 := by
        simp only [itemAt] at hnone
        split at hnone
        · cases hnone
        · walk_at "om"
      subst e
      refine evS_cons ?_
      refine ev1_Return ?_
      refine ev_Tuple rfl (by simp) ?_
      walk_at "loc"
      walk_at "loc"
      walk_at "loc"
      refine ⟨by simp, ?_⟩
      have lk := x.lK
      refine q Lc Lp acts plan row' β' H' k' lv x.good x.ok x.lv1 x.lv2 x.al x.rw x.grow x.bank ⟨x.kb.len, fun i hi hn oo eo => ?_⟩ x.tin x.hk x.hR x.hc x.hp x.lc x.lp
      have := (List.getElem?_eq_some_iff.mp eo).1
      exact x.kb.at_ i hi (by simp at hn ⊢; walk_at "om") oo eo
    · rintro lap vals H' v ⟨K, Lc, Lp, ks, acts, plan, row', β', k', lv, v1, v2, v3, v4, rfl, hle, x⟩ hv
      have hlt : lap < 3 := by
        simp only [itemAt] at hv
        split at hv
        · walk_at "om"
        · cases hv
      refine ⟨_, .name (by with_reducible walk_at "put") (.inl rfl), ?_⟩
      exact lap_spec c x h2 h5 hlt o hl hw hf hk hRb hrl hrow fun K' Lc' Lp' ks' acts' plan' row'' β'' k'' lv' H'' v2' v3' v4' y => ⟨K', Lc', Lp', ks', acts', plan', row'', β'', k'', lv', _, v2', v3', v4', rfl, by walk_at "om", y⟩
end

section
variable {w : World} {B : Heap} {d : Nat} {H : List O} {Q : V → List O → Prop} {β : Bk}

theorem due_spec (c : Cx B) (b : BankAt c.cTB fsB β H) (o : Base β) (hl : β.terms.length ≤ 400000) {R : Nat} {row : List Nat} (hR : H[R]? = some (.list (natsV row))) {x : Src} {bb : Nat} (hx : x.1 < 100000) (hb : row[x.1]? = some bb) (lit : Lit β bb)
    (q : ∀ (r : Nat) β' H', Grow β β' 1 0 → (x.2 = false → r = bb) → (x.2 = true → Neg β' bb r) → BankAt c.cTB fsB β' H' → Keep H H' → Q (.int (r : Int)) H') : CallC prg w B (d + 3) c.f_law_due [.ref 4, .ref R, srcV x] H Q := by
  obtain ⟨p, tu⟩ := x
  refine call_def c.F_law_due rfl ?_
  walk_at "vals"
  have hi : (natsV row)[((p : Int)).toNat]? = some (.int (bb : Int)) := by rw [tn, List.getElem?_map, hb]; rfl
  refine evS_cons ?_
  refine ev1_Return ?_
  refine ev_IfExp ?_
  refine evT_plain (fun _ _ => rfl) ?_
  refine ev_Sub ?_
  walk_at "loc"
  refine ev_int (i_tup (vs := [.int (p : Int), .bool tu]) (v := .bool tu) (by decide) (by decide) rfl ?_)
  refine wtr_bool ⟨fun ht => ?_, fun hf => ?_⟩
  · refine ev_Do c.X rfl rfl (by decide) rfl c.cls_cTB b.h4 b.h3 c.M_BoolBank_not_of na_not_of c.F_BoolBank_not_of (d' := d + 2) (by walk_at "om") ?_
    walk_at "obj"
    refine ev_Sub ?_
    walk_at "loc"
    refine ev_Sub ?_
    walk_at "loc"
    refine ev_int (i_tup (vs := [.int (p : Int), .bool tu]) (v := .int (p : Int)) (by decide) (by decide) rfl ?_)
    refine i_list (v := .int (bb : Int)) hR (by omega) (by simp at hx; omega) hi ?_
    refine not_lit_spec c b o (by walk_at "om") lit fun r β' H' g n b' kp => ?_
    exact q r β' H' g (fun h => by rw [show tu = false from h] at ht; cases ht) (fun _ => n) b' kp
  · refine ev_Sub ?_
    walk_at "loc"
    refine ev_Sub ?_
    walk_at "loc"
    refine ev_int (i_tup (vs := [.int (p : Int), .bool tu]) (v := .int (p : Int)) (by decide) (by decide) rfl ?_)
    refine i_list (v := .int (bb : Int)) hR (by omega) (by simp at hx; omega) hi ?_
    exact q bb β H ((Grow.refl β).mono (by walk_at "om") (by walk_at "om")) (fun _ => rfl) (fun h => by rw [show tu = true from h] at hf; cases hf) b (.refl _)

/-- what a place of the tower is, by the row -/
theorem src_den {wide E : Nat} {row bs : List Nat} {β β' : Bk} {t t' p : Nat} {x : Src} (s : SrcOk wide row β t β' t' p x E) (rb : Row β t bs) (hbs : bs.length = wide) (hrow : ∀ j, j < wide → row[j]? = bs[j]?) :
    ∃ b n e, e ≤ E ∧ e % 2 = x.2.toNat ∧ row[x.1]? = some b ∧ Den β' b n (p : Int) t' e := by
  by_cases h : x.1 < wide
  · obtain ⟨e, h1, h2, h3⟩ := s.low h
    have hb : bs[x.1]? = some bs[x.1] := List.getElem?_eq_getElem (by walk_at "om")
    obtain ⟨n, d⟩ := rb _ _ hb
    obtain ⟨n', d'⟩ := h3 _ n 0 d
    exact ⟨bs[x.1], n', e, h1, h2, by rw [hrow _ h, hb], by rw [Nat.zero_add] at d'; exact d'⟩
  · obtain ⟨b, n, e, h1, h2, h3, h4⟩ := s.high (by walk_at "om")
    exact ⟨b, n, e, h1, h2, h3, h4⟩

/-- one place asked of both: the same -/
theorem asked_same {β β' : Bk} {a b bb r r' e : Nat} {tu : Bool} (o : Base β) (g : Grow β β' a b) (he : e % 2 = tu.toNat) (h1 : e % 2 = 0 → r = bb) (h2 : e % 2 = 1 → Neg β bb r) (h3 : tu = false → r' = bb) (h4 : tu = true → Neg β' bb r') : r = r' := by
  cases tu with
  | false => rw [h1 he, h3 rfl]
  | true => exact ((h2 he).grow g).uniq (o.grow g) (h4 rfl)
end

theorem dput_new {K : Type} [DecidableEq K] {fs : List (K × V)} {x : K} {v : V} (h : x ∉ fs.map (·.1)) : dput fs x v = fs ++ [(x, v)] := by
  unfold dput
  rw [if_neg]
  intro ha
  obtain ⟨kv, h1, h2⟩ := List.any_eq_true.mp ha
  exact h (List.mem_map.mpr ⟨kv, h1, by simpa using h2⟩)
section
variable {w : World} {B : Heap} {d : Nat} {H : List O} {Q : V → List O → Prop} {β : Bk} {names : Names} {vals : Vals}

/-- an attribute of the own bank, new -/
theorem ev1_selfL (c : Cx B) {value : PySem.Expr} {attr x : Str} {k : NameKind} {xp p' pos : Pos} {fs : List (Str × V)} {o0 o1 o2 : O} {r : List O} {v : V} {Q : Fl → Vals → List O → Prop} (tk : TakeIs c.K c.cTB attr) (hs : ∀ env, swapsWith value (some (.Attribute (.Name x xp) attr p')) pos.line env = pure false)
    (l : Look names vals x k (.ref 4)) (hk : k = .local ∨ k = .cell ∨ k = .free) (hl : fs.length ≤ 900) (na : attr ∉ fs.map (·.1))
    (h : EvE prg w B names d value vals H fun v' H₁ => v' = v ∧ H₁ = o0 :: o1 :: o2 :: .ns fs :: .inst c.cTB 3 :: r)
    (q : Q .next vals (o0 :: o1 :: o2 :: .ns (fs ++ [(attr, v)]) :: .inst c.cTB 3 :: r)) : Ev1 prg w B names d (.Assign [.Attribute (.Name x xp) attr p'] value pos) vals H Q := by
  refine ev1_AssignAttr c.X hs (h.mono fun v' H₁ ⟨e1, e2⟩ => ?_)
  subst e1 e2
  refine ev_local l hk ⟨4, c.cTB, 3, fs, rfl, c.sto_cTB, tk, rfl, rfl, hl, ?_⟩
  rw [dput_new na]
  exact q
theorem ev1_selfA (c : Cx B) {value : PySem.Expr} {attr x : Str} {k : NameKind} {xp p' pos : Pos} {fs : List (Str × V)} {Q : Fl → Vals → List O → Prop} (tk : TakeIs c.K c.cTB attr) (hs : ∀ env, swapsWith value (some (.Attribute (.Name x xp) attr p')) pos.line env = pure false)
    (l : Look names vals x k (.ref 4)) (hk : k = .local ∨ k = .cell ∨ k = .free) (hl : fs.length ≤ 900) (na : attr ∉ fs.map (·.1))
    (h : EvE prg w B names d value vals H fun v H₁ => H₁[4]? = some (.inst c.cTB 3) ∧ H₁[3]? = some (.ns fs) ∧ Q .next vals (H₁.set 3 (.ns (fs ++ [(attr, v)])))) : Ev1 prg w B names d (.Assign [.Attribute (.Name x xp) attr p'] value pos) vals H Q := by
  refine ev1_AssignAttr c.X hs (h.mono fun v' H₁ ⟨e1, e2, e3⟩ => ?_)
  refine ev_local l hk ⟨4, c.cTB, 3, fs, rfl, c.sto_cTB, tk, e1, e2, hl, ?_⟩
  rw [dput_new na]
  exact e3
theorem BankPre.setNs {C : Addr} {fs fs' : List (Str × V)} (b : BankPre C fs β H) : BankPre C fs' β (H.set 3 (.ns fs')) :=
  ⟨set_eq b.h3, set_ne b.h4 (by decide), set_ne b.h5 (by decide), set_ne b.h6 (by decide), set_ne b.h7 (by decide), set_ne b.h8 (by decide), set_ne b.h9 (by decide), set_ne b.h10 (by decide), set_ne b.h11 (by decide), set_ne b.h12 (by decide), set_ne b.h13 (by decide), set_ne b.h14 (by decide)⟩
noncomputable abbrev fs9 : List (Str × V) := [(Str.ofString "sort_names", .ref 5), (Str.ofString "sort_widths", .ref 6), (Str.ofString "fun_names", .ref 7), (Str.ofString "fun_args", .ref 8), (Str.ofString "fun_results", .ref 9), (Str.ofString "fresh_count", .int 0)]
noncomputable abbrev fs14 : List (Str × V) := fs9 ++ [(Str.ofString "term_ops", .ref 10), (Str.ofString "term_args", .ref 11), (Str.ofString "term_sorts", .ref 12), (Str.ofString "term_datas", .ref 13), (Str.ofString "numbers", .ref 14)]
noncomputable abbrev beta0 : Bk := ⟨[.str (Str.ofString "Bool"), .str (Str.ofString "Int"), .str (Str.ofString "Real")], [0, 0, 0], [], [], [], [⟨Str.ofString "", [], 0, .i 0⟩], []⟩
noncomputable abbrev beta2 : Bk := { beta0 with terms := [⟨Str.ofString "", [], 0, .i 0⟩, trueT, falseT] }
theorem mkNs14 : MkNs fs14 := ⟨by walk_at "flook", by walk_at "flook", by walk_at "flook", by walk_at "flook", by walk_at "flook"⟩
theorem mkNs15 : MkNs (fs14 ++ [(Str.ofString "true_number", .int 1)]) := ⟨by walk_at "flook", by walk_at "flook", by walk_at "flook", by walk_at "flook", by walk_at "flook"⟩
theorem beta0_ok : BkOk beta0 := ⟨by decide, List.nodup_nil, rfl, (fun wd v h => nomatch h), by decide⟩
theorem true_false : trueT ≠ falseT := by decide +kernel

noncomputable abbrev H14 (C : Addr) (o0 o1 o2 : O) : List O := [o0, o1, o2, .ns fs14, .inst C 3, .list beta0.names, .list (beta0.widths.map .int), .list beta0.f1, .list beta0.f2, .list beta0.f3, .list (beta0.terms.map fun x => .str x.op), .list (beta0.terms.map fun x => .tup (x.args.map .int)), .list (beta0.terms.map fun x => .int x.sort),
  .list (beta0.terms.map fun x => x.data.v), .kdict []]
theorem H14_at (C : Addr) (o0 o1 o2 : O) : BankPre C fs14 beta0 (H14 C o0 o1 o2) := ⟨rfl, rfl, rfl, rfl, rfl, rfl, rfl, rfl, rfl, rfl, rfl, rfl⟩

theorem bank_init (c : Cx B) {o0 o1 o2 : O} (q : ∀ H', BankPre c.cTB (fs14 ++ [(Str.ofString "true_number", .int 1)] ++ [(Str.ofString "false_number", .int 2)]) beta2 H' → H'.length = 15 → (∀ i, i < 3 → H'[i]? = [o0, o1, o2][i]?) → Q .none H') :
    CallC prg w B (d + 2) c.f_Bank_init [.ref 4] [o0, o1, o2, .ns [], .inst c.cTB 3] Q := by
  refine call_def c.F_Bank_init rfl ?_
  walk_at "vals"
  refine evS_cons (ev1_selfL c (v := .ref 5) (fs := []) c.T_sort_names (fun _ => rfl) (by with_reducible walk_at "look") (.inl rfl) (by decide) (by decide +kernel) (ev_List rfl (ev_str (ev_str (ev_str ⟨by simp, rfl, rfl⟩)))) ?_)
  refine evS_cons (ev1_selfL c (v := .ref 6) c.T_sort_widths (fun _ => rfl) (by with_reducible walk_at "look") (.inl rfl) (by decide) (by decide +kernel) (ev_List rfl (ev_int (ev_int (ev_int ⟨by simp, rfl, rfl⟩)))) ?_)
  refine evS_cons (ev1_selfL c (v := .ref 7) c.T_fun_names (fun _ => rfl) (by with_reducible walk_at "look") (.inl rfl) (by decide) (by decide +kernel) (ev_List rfl ⟨by simp, rfl, rfl⟩) ?_)
  refine evS_cons (ev1_selfL c (v := .ref 8) c.T_fun_args (fun _ => rfl) (by with_reducible walk_at "look") (.inl rfl) (by decide) (by decide +kernel) (ev_List rfl ⟨by simp, rfl, rfl⟩) ?_)
  refine evS_cons (ev1_selfL c (v := .ref 9) c.T_fun_results (fun _ => rfl) (by with_reducible walk_at "look") (.inl rfl) (by decide) (by decide +kernel) (ev_List rfl ⟨by simp, rfl, rfl⟩) ?_)
  refine evS_cons (ev1_selfL c (v := .int 0) c.T_fresh_count (fun _ => rfl) (by with_reducible walk_at "look") (.inl rfl) (by decide) (by decide +kernel) (ev_int ⟨rfl, rfl⟩) ?_)
  refine evS_cons (ev1_selfL c (v := .ref 10) c.T_term_ops (fun _ => rfl) (by with_reducible walk_at "look") (.inl rfl) (by decide) (by decide +kernel) (ev_List rfl (ev_str ⟨by simp, rfl, rfl⟩)) ?_)
  refine evS_cons (ev1_selfL c (v := .ref 11) c.T_term_args (fun _ => rfl) (by with_reducible walk_at "look") (.inl rfl) (by decide) (by decide +kernel) (ev_List rfl (ev_Tuple rfl (by decide) ⟨by simp, ⟨by simp, rfl, rfl⟩⟩)) ?_)
  obtain ⟨tb, gb⟩ := c.G_BOOL
  refine evS_cons (ev1_selfL c (v := .ref 12) c.T_term_sorts (fun _ => rfl) (by with_reducible walk_at "look") (.inl rfl) (by decide) (by decide +kernel) (ev_List rfl (ev_globInt (by with_reducible walk_at "has") gb ⟨by simp, rfl, rfl⟩)) ?_)
  refine evS_cons (ev1_selfL c (v := .ref 13) c.T_term_datas (fun _ => rfl) (by with_reducible walk_at "look") (.inl rfl) (by decide) (by decide +kernel) (ev_List rfl (ev_int ⟨by simp, rfl, rfl⟩)) ?_)
  refine evS_cons (ev1_selfL c (v := .ref 14) c.T_numbers (fun _ => rfl) (by with_reducible walk_at "look") (.inl rfl) (by decide) (by decide +kernel) (ev_Dict0 (.kdict []) new_kdict ⟨rfl, rfl⟩) ?_)
  show EvS prg w B _ _ _ _ (H14 c.cTB o0 o1 o2) _
  have b0 := H14_at c.cTB o0 o1 o2
  have l0 : (H14 c.cTB o0 o1 o2).length = 15 := rfl
  have a0 : ∀ i, i < 3 → (H14 c.cTB o0 o1 o2)[i]? = [o0, o1, o2][i]? := fun i hi => by
    match i, hi with
    | 0, _ => rfl
    | 1, _ => rfl
    | 2, _ => rfl
  have s0 : ∀ i, i < 3 → ∃ o, [o0, o1, o2][i]? = some o := fun i hi => by
    match i, hi with
    | 0, _ => exact ⟨_, rfl⟩
    | 1, _ => exact ⟨_, rfl⟩
    | 2, _ => exact ⟨_, rfl⟩
  generalize H14 c.cTB o0 o1 o2 = H0 at b0 l0 a0
  refine evS_cons (ev1_selfA c (fs := fs14) c.T_true_number (fun _ => rfl) (by with_reducible walk_at "look") (.inl rfl) (by decide) (by decide +kernel) ?_)
  refine ev_Do c.X rfl rfl (by decide) rfl c.cls_cTB b0.h4 b0.h3 c.M_Bank_make (by decide +kernel) c.F_Bank_make (d' := d + 1) (by walk_at "om") ?_
  walk_at "obj"
  refine ev_str (ev_Tuple rfl (by decide) ⟨by simp, ev_globInt (by with_reducible walk_at "has") gb (ev_int ?_)⟩)
  refine make_pre c b0 mkNs14 beta0_ok (by decide) trueT (key_ok _ ok_true rfl) fun t β1 H1 m1 b1 kp1 => ?_
  obtain ⟨rfl, rfl⟩ : t = 1 ∧ β1 = beta0.add trueT := by
    cases m1 with
    | old h1 h2 => match t, h1, h2 with
      | t + 1, _, h2 => simp at h2
    | new _ => exact ⟨rfl, rfl⟩
  refine ⟨b1.h4, b1.h3, ?_⟩
  rw [show ((1 : Nat) : Int) = 1 from rfl]
  have b2 : BankPre c.cTB (fs14 ++ [(Str.ofString "true_number", .int 1)]) (beta0.add trueT) (H1.set 3 (.ns (fs14 ++ [(Str.ofString "true_number", .int 1)]))) := b1.setNs
  have l2 : (H1.set 3 (.ns (fs14 ++ [(Str.ofString "true_number", .int 1)]))).length = 15 := by rw [List.length_set, kp1.len, l0]
  have a2 : ∀ i, i < 3 → (H1.set 3 (.ns (fs14 ++ [(Str.ofString "true_number", .int 1)])))[i]? = [o0, o1, o2][i]? := fun i hi => by
    obtain ⟨o, ho⟩ := s0 i hi
    rw [ho]
    exact set_ne (kp1.at_ i (by walk_at "om") o (by rw [a0 i hi]; exact ho)) (by walk_at "om")
  generalize H1.set 3 (.ns (fs14 ++ [(Str.ofString "true_number", .int 1)])) = H2 at b2 l2 a2
  refine evS_cons (ev1_selfA c (fs := fs14 ++ [(Str.ofString "true_number", .int 1)]) c.T_false_number (fun _ => rfl) (by with_reducible walk_at "look") (.inl rfl) (by decide) (by decide +kernel) ?_)
  refine ev_Do c.X rfl rfl (by decide) rfl c.cls_cTB b2.h4 b2.h3 c.M_Bank_make (by decide +kernel) c.F_Bank_make (d' := d + 1) (by walk_at "om") ?_
  walk_at "obj"
  refine ev_str (ev_Tuple rfl (by decide) ⟨by simp, ev_globInt (by with_reducible walk_at "has") gb (ev_int ?_)⟩)
  refine make_pre c b2 mkNs15 (m1.grow.ok beta0_ok) (by decide) falseT (key_ok _ ok_false rfl) fun t β2 H3 m2 b3 kp3 => ?_
  obtain ⟨rfl, rfl⟩ : t = 2 ∧ β2 = beta2 := by
    cases m2 with
    | old h1 h2 => match t, h1, h2 with
      | 1, _, h2 => exact absurd (Option.some.inj h2) true_false
      | t + 2, _, h2 => simp [Bk.add] at h2
    | new _ => exact ⟨rfl, rfl⟩
  refine ⟨b3.h4, b3.h3, ?_⟩
  rw [show ((2 : Nat) : Int) = 2 from rfl]
  refine evS_nil (q _ b3.setNs (by rw [List.length_set, kp3.len, l2]) fun i hi => ?_)
  obtain ⟨o, ho⟩ := s0 i hi
  rw [ho]
  exact set_ne (kp3.at_ i (by walk_at "om") o (by rw [a2 i hi]; exact ho)) (by walk_at "om")
end

theorem at_mid {H r : List O} {x : O} : (H ++ x :: r)[H.length]? = some x := by simp
theorem at_mid1 {H r : List O} {x y : O} : (H ++ x :: y :: r)[H.length + 1]? = some y := by
  rw [List.getElem?_append_right (by walk_at "om")]; simp
theorem set_mid {x y : O} : ∀ {H r : List O}, (H ++ x :: r).set H.length y = H ++ y :: r
  | [], _ => rfl
  | a :: H, r => by rw [List.cons_append, List.length_cons, List.set_cons_succ, set_mid, List.cons_append]
section
variable {w : World} {B : Heap} {d : Nat} {H : List O} {Q : V → List O → Prop} {β : Bk} {names : Names} {vals : Vals}

theorem bank_made (c : Cx B) {o0 o1 o2 : O} (q : ∀ H', BankAt c.cTB fsB beta2 H' → H'.length = 16 → (∀ i, i < 3 → H'[i]? = [o0, o1, o2][i]?) → Q (.ref 4) H') : CalV prg w B (d + 4) (.val (.ref c.cTB)) [] [o0, o1, o2] Q := by
  obtain ⟨p, loose, mg, mb, T⟩ := c.top
  refine calV_make (d' := d + 3) c.X c.mak_cTB (by walk_at "om") ?_
  show CallC prg w B (d + 3) c.f_TermBank_init [.ref 4] [o0, o1, o2, .ns [], .inst c.cTB 3] _
  refine c.sup.call c.X T (n := 4) rfl (bank_init c fun H1 b1 l1 a1 => ?_)
  refine evS_cons (ev1_selfA c (fs := fs14 ++ [(Str.ofString "true_number", .int 1)] ++ [(Str.ofString "false_number", .int 2)]) c.T_bv_numbers (fun _ => rfl) (by with_reducible walk_at "look") (.inl rfl) (by decide) (by decide +kernel) (ev_Dict0 (.idict []) new_idict ⟨app_l b1.h4, app_l b1.h3, ?_⟩))
  rw [l1]
  refine evS_nil ⟨rfl, ?_⟩
  have b2 : BankPre c.cTB (fs14 ++ [(Str.ofString "true_number", .int 1)] ++ [(Str.ofString "false_number", .int 2)]) beta2 (H1 ++ [O.idict []]) := ⟨app_l b1.h3, app_l b1.h4, app_l b1.h5, app_l b1.h6, app_l b1.h7, app_l b1.h8, app_l b1.h9, app_l b1.h10, app_l b1.h11, app_l b1.h12, app_l b1.h13, app_l b1.h14⟩
  have h15 : (H1 ++ [O.idict []])[15]? = some (O.idict []) := by rw [← l1]; exact app_r
  refine q _ (BankPre.full (fs := fsB) (b2.setNs (fs' := fsB)) (set_ne h15 (by decide))) (by simp [l1]) fun i hi => ?_
  obtain ⟨o, ho⟩ : ∃ o, [o0, o1, o2][i]? = some o := ⟨_, List.getElem?_eq_getElem hi⟩
  rw [ho]
  exact set_ne (app_l (by rw [a1 i hi]; exact ho)) (by walk_at "om")

theorem ev1_selfR (c : Cx B) {value : PySem.Expr} {attr x : Str} {k : NameKind} {xp p' pos : Pos} {fs : List (Str × V)} {H0 r : List O} {v : V} {Q : Fl → Vals → List O → Prop} (tk : TakeIs c.K c.cBR attr) (hs : ∀ env, swapsWith value (some (.Attribute (.Name x xp) attr p')) pos.line env = pure false)
    (l : Look names vals x k (.ref (H0.length + 1))) (hk : k = .local ∨ k = .cell ∨ k = .free) (hl : fs.length ≤ 900) (na : attr ∉ fs.map (·.1))
    (h : EvE prg w B names d value vals H fun v' H₁ => v' = v ∧ H₁ = H0 ++ .ns fs :: .inst c.cBR H0.length :: r)
    (q : Q .next vals (H0 ++ .ns (fs ++ [(attr, v)]) :: .inst c.cBR H0.length :: r)) : Ev1 prg w B names d (.Assign [.Attribute (.Name x xp) attr p'] value pos) vals H Q := by
  refine ev1_AssignAttr c.X hs (h.mono fun v' H₁ ⟨e1, e2⟩ => ?_)
  subst e1 e2
  refine ev_local l hk ⟨H0.length + 1, c.cBR, H0.length, fs, rfl, c.sto_cBR, tk, at_mid1, at_mid, hl, ?_⟩
  rw [dput_new na, set_mid]
  exact q

theorem maker_made (c : Cx B) (b : BankAt c.cTB fsB β H) (q : ∀ H', MkAt c.cBR H.length (H.length + 2) H' → BankAt c.cTB fsB β H' → (∃ l, H' = H ++ l) → Q (.ref (H.length + 1)) H') : CalV prg w B (d + 3) (.val (.ref c.cBR)) [.ref 4] H Q := by
  have big := b.big
  refine calV_make (d' := d + 2) c.X c.mak_cBR (by walk_at "om") ?_
  refine call_def c.F_BoolRewriter_init rfl ?_
  walk_at "vals"
  have eH : H ++ [O.ns []] ++ [O.inst c.cBR H.length] = H ++ O.ns [] :: O.inst c.cBR H.length :: [] := by simp
  rw [eH]
  have bx : ∀ r, BankAt c.cTB fsB β (H ++ r) := fun r => b.app
  refine evS_cons (ev1_selfR c (fs := []) (v := .ref 4) (r := []) c.T_bank (fun _ => rfl) (by with_reducible walk_at "look") (.inl rfl) (by decide) (by decide +kernel) ?_ ?_)
  · walk_at "loc"
    exact ⟨rfl, rfl⟩
  refine evS_cons (ev1_selfR c (fs := [(Str.ofString "bank", .ref 4)]) (v := .int 1) (r := []) c.T_yes (fun _ => rfl) (by with_reducible walk_at "look") (.inl rfl) (by decide) (by decide +kernel) ?_ ?_)
  · refine ev_Do c.X rfl rfl (by decide) rfl c.cls_cTB (bx _).h4 (bx _).h3 c.M_Bank_true_term na_true_term c.F_Bank_true_term (d' := d + 1) (by walk_at "om") ?_
    walk_at "obj"
    exact true_spec c (bx _) ⟨rfl, rfl⟩
  refine evS_cons (ev1_selfR c (fs := [(Str.ofString "bank", .ref 4), (Str.ofString "yes", .int 1)]) (v := .int 2) (r := []) c.T_no (fun _ => rfl) (by with_reducible walk_at "look") (.inl rfl) (by decide) (by decide +kernel) ?_ ?_)
  · refine ev_Do c.X rfl rfl (by decide) rfl c.cls_cTB (bx _).h4 (bx _).h3 c.M_Bank_false_term na_false_term c.F_Bank_false_term (d' := d + 1) (by walk_at "om") ?_
    walk_at "obj"
    exact false_spec c (bx _) ⟨rfl, rfl⟩
  have el : ∀ x : O, (H ++ x :: O.inst c.cBR H.length :: []).length = H.length + 2 := fun x => by simp
  refine evS_cons (ev1_selfR c (fs := [(Str.ofString "bank", .ref 4), (Str.ofString "yes", .int 1), (Str.ofString "no", .int 2)]) (v := .ref (H.length + 2)) (r := [.idict []]) c.T_known (fun _ => rfl) (by with_reducible walk_at "look") (.inl rfl) (by decide) (by decide +kernel) (ev_Dict0 (.idict []) new_idict ⟨by rw [el], by simp⟩) ?_)
  refine evS_nil ⟨rfl, q _ ⟨by walk_at "om", at_mid, at_mid1⟩ b.app ⟨_, rfl⟩⟩
end

theorem SrcOk.growR {wide t t' p E a b : Nat} {row : List Nat} {β β' β'' : Bk} {x : Src} (s : SrcOk wide row β t β' t' p x E) (g : Grow β' β'' a b) : SrcOk wide row β t β'' t' p x E :=
  ⟨fun h => let ⟨e, h1, h2, h3⟩ := s.low h; ⟨e, h1, h2, fun b n m d => let ⟨n', d'⟩ := h3 b n m d; ⟨n', d'.grow g⟩⟩, fun h => let ⟨b, n, e, h1, h2, h3, h4⟩ := s.high h; ⟨b, n, e, h1, h2, h3, h4.grow g⟩⟩
structure LS (C CR : Addr) (cells : List Int) (wide R Lc Lp mk kk lv bottom : Nat) (row bs : List Nat) (acts : List Act) (plan : List Src) (βc β : Bk) (k : Nat) (H : List O) : Prop where
  bank : BankAt C fsB β H
  base : Base β
  tin : Tin cells k H
  hk : k ≤ 100
  mt : MkAt CR mk kk H
  hR : H[R]? = some (.list (natsV row))
  hRb : 15 < R
  hc : H[Lc]? = some (.list (acts.map Act.v))
  hcb : 15 < Lc
  hp : H[Lp]? = some (.list (srcsV plan))
  hpb : 15 < Lp
  good : Good wide row βc acts plan 3
  ok : ∀ a ∈ acts, a.ok = true
  al : acts.length ≤ 6
  lv1 : 3 ≤ lv
  lv2 : lv ≤ 6
  grow : ∃ a b, Grow βc β a b
  wd : Wd βc bottom (wide : Int)
  rb : Row βc bottom bs
  hbs : bs.length = wide
  hrow : ∀ j, j < wide → row[j]? = bs[j]?
  w2 : 2 ≤ wide
  w5 : wide ≤ 5
  rl : row.length ≤ 100
  tl : β.terms.length ≤ 30000
  wl : β.widths.length ≤ 1000
theorem LS.step {C CR : Addr} {cells : List Int} {wide R Lc Lp mk kk lv bottom k k' a b : Nat} {row bs : List Nat} {acts : List Act} {plan : List Src} {βc β β' : Bk} {H H' : List O} (x : LS C CR cells wide R Lc Lp mk kk lv bottom row bs acts plan βc β k H) (g : Grow β β' a b) (hb : BankAt C fsB β' H') (kp : KB [2] H H') (t : Tin cells k' H') (hk' : k' ≤ 100) (tl : β'.terms.length ≤ 30000) (wl : β'.widths.length ≤ 1000) :
    LS C CR cells wide R Lc Lp mk kk lv bottom row bs acts plan βc β' k' H' := by
  have h1 := x.hRb
  have h2 := x.hcb
  have h3 := x.hpb
  have h4 := x.mt.big
  exact ⟨hb, x.base.grow g, t, hk', x.mt.kb kp (by simp; walk_at "om") (by simp; walk_at "om"), kp.at_ _ (.inr h1) (by simp; walk_at "om") _ x.hR, h1, kp.at_ _ (.inr h2) (by simp; walk_at "om") _ x.hc, h2, kp.at_ _ (.inr h3) (by simp; walk_at "om") _ x.hp, h3, x.good, x.ok, x.al, x.lv1, x.lv2, (let ⟨a', b', g'⟩ := x.grow; ⟨_, _, g'.trans g⟩), x.wd, x.rb, x.hbs, x.hrow, x.w2, x.w5, x.rl, tl, wl⟩
noncomputable abbrev lawV (s : V) (bottom R wide Lc lv Lp mk few tower S : Nat) (v1 v2 v3 : Option V) : Vals := [some s, some (.ref 2), some (.ref 4), some (.int (bottom : Int)), some (.ref R), some (.int (wide : Int)), some (.ref Lc), some (.int (lv : Int)), some (.ref Lp), some (.ref (mk + 1)), some (.int (few : Int)), some (.int (tower : Int)), some (.ref S), v1, v2, v3, none, none, none, none, none, none, none, none, none, none]
theorem beta2_base : Base beta2 := ⟨⟨by decide, by decide +kernel, rfl, (fun wd v h => nomatch h), by decide⟩, rfl, rfl⟩
section
variable {w : World} {B : Heap} {d : Nat} {H : List O} {Q : V → List O → Prop} {β : Bk}

theorem law_head (c : Cx B) {a : Addr} {zs : List Int} (hb : BList B a zs) (hl : zs.length ≤ 63) {Q : Fl → Vals → List O → Prop}
    (q : ∀ (cells : List Int) (wide R Lc Lp mk kk lv bottom : Nat) (row bs : List Nat) (acts : List Act) (plan : List Src) (βc β1 β : Bk) (k few tower S : Nat) (H : List O), LS c.cTB c.cBR cells wide R Lc Lp mk kk lv bottom row bs acts plan βc β k H → 1 ≤ few → few ≤ 4 → (∃ a b, Grow βc β1 a b) → Rounds acts β1 bottom few β tower → H[S]? = some (.list (srcsV (pw plan few))) → 15 < S → k ≤ 40 → β.terms.length ≤ 1000 →
      EvS prg w B nm_law (d + 9) (bd_law.drop 7) (lawV (.val (.ref a)) bottom R wide Lc lv Lp mk few tower S none none none) H Q) :
    EvS prg w B nm_law (d + 9) bd_law [some (.val (.ref a)), none, none, none, none, none, none, none, none, none, none, none, none, none, none, none, none, none, none, none, none, none, none, none, none, none] [] Q := by
  -- the reader and the bank
  refine evS_cons (ev1_AssignTup (xs := [(Str.ofString "tin", _), (Str.ofString "bank", _)]) (fun _ => rfl) (fun _ => swapped_or rfl) ?_)
  refine ev_Tuple rfl (by simp) ?_
  refine ev_List rfl ?_
  have hpk : pickL (zs.map V.int) none (some 24) = (zs.take 24).map V.int := by
    rw [show (24 : Int) = ((24 : Nat) : Int) from rfl, pick_upto, List.map_take]
  let us : List V := (zs.take 24).map V.int
  refine ev_CompP (.list 0) us [.list us] (fun i => .int (((zs.take 24).getD i 0).fmod 1000003)) (fun _ _ => rfl) rfl (by with_reducible walk_at "rel") (by decide +kernel) (by decide +kernel) (by with_reducible walk_at "cv") ?_ ?_ ?_ ?_ (by simp [us]; walk_at "om") ?_ ?_
  · refine ev_SliceB hb (by walk_at "om") ?_
    walk_at "loc"
    refine ⟨rfl, ?_⟩
    show EvE _ _ _ _ _ _ _ _ _
    refine ev_int ⟨none, some 24, .none, .int, ?_⟩
    rw [hpk]
    exact ⟨rfl, .list⟩
  · intro ys i; rfl
  · exact fun ys => ⟨_, rfl⟩
  · exact ⟨_, rfl⟩
  · intro i u ys hu
    rw [List.getElem?_map] at hu
    obtain ⟨z, e1, rfl⟩ := Option.map_eq_some_iff.mp hu
    refine ⟨_, .name (by with_reducible walk_at "putn"), ev_BinOp (ev_Bi rfl (by with_reducible walk_at "has") c.U_int ?_)⟩
    walk_at "loc"
    refine c_int (ev_int (w_mod (by decide) ⟨?_, rfl⟩))
    rw [List.getD_eq_getElem?_getD, e1]; rfl
  have ecell : (List.range us.length).map (fun i => V.int (((zs.take 24).getD i 0).fmod 1000003)) = ((zs.take 24).map fun z => z.fmod 1000003).map V.int := by
    apply List.ext_getElem?
    intro i
    simp only [us, List.length_map, List.getElem?_map, List.map_map]
    by_cases hi : i < (zs.take 24).length
    · rw [List.getElem?_range hi, List.getElem?_eq_getElem hi]
      simp [List.getD_eq_getElem?_getD, List.getElem?_eq_getElem hi]
    · rw [List.getElem?_eq_none (by simpa using hi), List.getElem?_eq_none (by walk_at "om")]; rfl
  rw [ecell]
  generalize hcells : (zs.take 24).map (fun z => z.fmod 1000003) = cells
  have hcl : cells.length ≤ 1000 := by rw [← hcells]; simp; walk_at "om"
  refine ev_int ⟨by simp, ?_⟩
  show EvEs prg w B nm_law (d + 9) _ _ [O.list us, O.list (cells.map V.int), O.list [V.ref 1, V.int 0]] _
  refine ev_CallName rfl (ev_glob (by with_reducible walk_at "has") c.G_TermBank ⟨⟨_, rfl⟩, ?_⟩)
  refine bank_made (d := d + 5) c fun H1 b1 l1 a1 => ?_
  refine ⟨by simp, _, rfl, rfl, [some (.val (.ref a)), some (.ref 2), some (.ref 4), none, none, none, none, none, none, none, none, none, none, none, none, none, none, none, none, none, none, none, none, none, none, none], ?_, ?_, ?_⟩
  · exact .cons (by walk_at "put") (.inl rfl) (.cons (by walk_at "put") (.inl rfl) .nil)
  · exact .cons (by walk_at "put") (.inl rfl) (.cons (by walk_at "put") (.inl rfl) .nil)
  have tin1 : Tin cells 0 H1 := ⟨a1 1 (by decide), a1 2 (by decide), hcl⟩
  -- the bottom
  refine evS_cons (ev1_AssignTup (xs := [(Str.ofString "bottom", _), (Str.ofString "row", _)]) (fun _ => rfl) (fun _ => .inl rfl) ?_)
  refine ev_Fn rfl (by with_reducible walk_at "has") c.G_law_bottom c.F_law_bottom (d' := d + 5) (by walk_at "om") ?_
  walk_at "loc"
  walk_at "loc"
  refine bottom_spec c b1 beta2_base (by decide) (by decide) (by decide) tin1 (by decide) fun bottom R bs β2 H2 k2 hb2 hb5 hbt hwd hrowB g2 b2 kp2 tin2 hk2 hR2 hRl => ?_
  refine ⟨_, rfl, rfl, [some (.val (.ref a)), some (.ref 2), some (.ref 4), some (.int (bottom : Int)), some (.ref R), none, none, none, none, none, none, none, none, none, none, none, none, none, none, none, none, none, none, none, none, none], ?_, ?_, ?_⟩
  · exact .cons (by with_reducible walk_at "put") (.inl rfl) (.cons (by with_reducible walk_at "put") (.inl rfl) .nil)
  · exact .cons (by with_reducible walk_at "put") (.inl rfl) (.cons (by with_reducible walk_at "put") (.inl rfl) .nil)
  have hRb : 15 < R := by walk_at "om"
  have g2t := g2.tl
  have g2w := g2.wl
  have g2f := g2.fns
  have bt : beta2.terms.length = 3 := rfl
  have bw : beta2.widths.length = 3 := rfl
  have bf : beta2.f1.length = 0 ∧ beta2.f2.length = 0 ∧ beta2.f3.length = 0 := ⟨rfl, rfl, rfl⟩
  -- wide, the row
  refine evS_cons (ev1_Assign (fun _ => rfl) (ev_Bi rfl (by with_reducible walk_at "has") c.U_len ?_))
  walk_at "loc"
  refine c_len_list hR2 (by simp; walk_at "om") ?_
  rw [show ((natsV bs).length : Nat) = bs.length from by simp [natsV]]
  generalize hwide : bs.length = wide at hwd hb2 hb5
  walk_at "asg"
  refine evS_cons (ev1_Expr (fun _ => rfl) (ev_LMeth (n := R) PySem.F.slot_list_append PySem.F.type_list_append rfl rfl (by decide) rfl hR2 ?_))
  walk_at "obj"
  refine ev_Do c.X rfl rfl (by decide) rfl c.cls_cTB b2.h4 b2.h3 c.M_Bank_false_term na_false_term c.F_Bank_false_term (d' := d + 1) (by walk_at "om") ?_
  walk_at "obj"
  refine false_spec c b2 (c_append hR2 (by simp; walk_at "om") ?_)
  have er : natsV bs ++ [V.int 2] = natsV (bs ++ [2]) := by simp [natsV]
  rw [er]
  generalize hH3 : H2.set R (O.list (natsV (bs ++ [2]))) = H3
  have b3 : BankAt c.cTB fsB β2 H3 := hH3 ▸ b2.set (.inr hRb)
  have tin3 : Tin cells k2 H3 := hH3 ▸ tin2.kb (bad := [R]) (KB.set (by simp)) (by simp; walk_at "om") (by simp; walk_at "om")
  have hR3 : H3[R]? = some (.list (natsV (bs ++ [2]))) := hH3 ▸ set_eq hR2
  -- the course
  refine evS_cons (ev1_AssignTup (xs := [(Str.ofString "course", _), (Str.ofString "levels", _), (Str.ofString "plan", _)]) (fun _ => rfl) (fun _ => .inl rfl) ?_)
  refine ev_Fn rfl (by with_reducible walk_at "has") c.G_law_course c.F_law_course (d' := d + 7) (by walk_at "om") ?_
  walk_at "loc"
  walk_at "loc"
  walk_at "loc"
  walk_at "loc"
  have hrw : (bs ++ [2])[wide]? = some 2 := by rw [← hwide]; simp
  refine course_spec c b3 (beta2_base.grow g2) (by walk_at "om") (by walk_at "om") (by walk_at "om") tin3 (by walk_at "om") hb2 (by walk_at "om") hR3 hRb (by simp; walk_at "om") hrw fun Lc Lp acts plan row βc H4 k4 lv good aok lv1 lv2 al hrow g4 b4 kp4 tin4 hk4 hR4 hc4 hp4 lc4 lp4 => ?_
  refine ⟨_, rfl, rfl, [some (.val (.ref a)), some (.ref 2), some (.ref 4), some (.int (bottom : Int)), some (.ref R), some (.int (wide : Int)), some (.ref Lc), some (.int (lv : Int)), some (.ref Lp), none, none, none, none, none, none, none, none, none, none, none, none, none, none, none, none, none], ?_, ?_, ?_⟩
  · exact .cons (by with_reducible walk_at "put") (.inl rfl) (.cons (by with_reducible walk_at "put") (.inl rfl) (.cons (by with_reducible walk_at "put") (.inl rfl) .nil))
  · exact .cons (by with_reducible walk_at "put") (.inl rfl) (.cons (by with_reducible walk_at "put") (.inl rfl) (.cons (by with_reducible walk_at "put") (.inl rfl) .nil))
  have g4t := g4.tl
  have g4w := g4.wl
  have big3 := b3.big
  have hcb : 15 < Lc := by walk_at "om"
  have hpb : 15 < Lp := by walk_at "om"
  obtain ⟨rl', erow, hrl'⟩ := hrow
  have hrl : row.length ≤ 100 := by rw [erow]; simp; walk_at "om"
  have hrowj : ∀ j, j < wide → row[j]? = bs[j]? := fun j hj => by rw [erow, List.append_assoc, List.getElem?_append_left (by walk_at "om")]
  have basec : Base βc := (beta2_base.grow g2).grow g4
  -- the maker
  refine evS_cons (ev1_AssignTup (xs := [(Str.ofString "maker", _), (Str.ofString "few", _)]) (fun _ => rfl) (fun _ => swapped_or rfl) ?_)
  refine ev_Tuple rfl (by simp) ?_
  refine ev_CallName rfl (ev_glob (by with_reducible walk_at "has") c.G_BitsRewriter ⟨⟨_, rfl⟩, ?_⟩)
  walk_at "loc"
  refine maker_made (d := d + 6) c b4 fun H5 mt5 b5 ⟨l5, e5⟩ => ?_
  have big4 := b4.big
  generalize hmk : H4.length = mk at mt5
  have kp5 : KB [2] H4 H5 := e5 ▸ KB.app
  have tin5 : Tin cells k4 H5 := e5 ▸ tin4.keep .app
  refine ev_BinOp (ev_int (ev_Fn rfl (by with_reducible walk_at "has") c.G_law_next c.F_law_next (d' := d + 1) (by walk_at "om") ?_))
  walk_at "loc"
  refine ev_int (next_spec c tin5 (by walk_at "om") (by decide) fun r6 H6 hr6 tin6 ⟨o6, e6⟩ => w_add ?_)
  have b6 : BankAt c.cTB fsB βc H6 := e6 ▸ b5.set (.inl (by decide))
  have kp6 : KB [2] H5 H6 := e6 ▸ KB.set (by simp)
  rw [show (1 + (r6 : Int)) = ((1 + r6 : Nat) : Int) by walk_at "om"]
  generalize hfew : 1 + r6 = few
  refine ⟨by simp, _, rfl, rfl, [some (.val (.ref a)), some (.ref 2), some (.ref 4), some (.int (bottom : Int)), some (.ref R), some (.int (wide : Int)), some (.ref Lc), some (.int (lv : Int)), some (.ref Lp), some (.ref (mk + 1)), some (.int (few : Int)), none, none, none, none, none, none, none, none, none, none, none, none, none, none, none], ?_, ?_, ?_⟩
  · exact .cons (by with_reducible walk_at "put") (.inl rfl) (.cons (by with_reducible walk_at "put") (.inl rfl) .nil)
  · exact .cons (by with_reducible walk_at "put") (.inl rfl) (.cons (by with_reducible walk_at "put") (.inl rfl) .nil)
  have kp56 := kp5.trans kp6
  have ls : LS c.cTB c.cBR cells wide R Lc Lp mk (mk + 2) lv bottom row bs acts plan βc βc (k4 + 1) H6 :=
    ⟨b6, basec, tin6, by walk_at "om", mt5.kb kp6 (by simp; walk_at "om") (by simp; walk_at "om"), kp56.at_ _ (.inr hRb) (by simp; walk_at "om") _ hR4, hRb, kp56.at_ _ (.inr hcb) (by simp; walk_at "om") _ hc4, hcb, kp56.at_ _ (.inr hpb) (by simp; walk_at "om") _ hp4, hpb, good, aok, al, lv1, lv2, ⟨_, _, .refl _⟩, hwd.grow g4, hrowB.grow g4, hwide, hrowj, hb2, hb5, hrl, by walk_at "om", by walk_at "om"⟩
  -- the tower and the sources
  refine evS_cons (ev1_AssignTup (xs := [(Str.ofString "tower", _), (Str.ofString "sources", _)]) (fun _ => rfl) (fun _ => swapped_or rfl) ?_)
  refine ev_Tuple rfl (by simp) ?_
  refine ev_Fn rfl (by with_reducible walk_at "has") c.G_law_grown c.F_law_grown (d' := d + 3) (by walk_at "om") ?_
  walk_at "loc"
  walk_at "loc"
  walk_at "loc"
  walk_at "loc"
  have hm18 : 3 * acts.length * few ≤ 72 := by
    have h1 : 3 * acts.length ≤ 18 := by walk_at "om"
    have h2 : few ≤ 4 := by walk_at "om"
    exact Nat.le_trans (Nat.mul_le_mul h1 h2) (by decide)
  refine grown_spec c ls.bank ls.base ls.hc ls.hcb aok (by walk_at "om") (by walk_at "om") (by have := ls.tl; walk_at "om") fun tower β7 H7 hR7 b7 kp7 => ?_
  have g7 := hR7.grow
  have g7t := g7.tl
  have g7w := g7.wl
  have ls7 := ls.step g7 b7 (kp7.mono (by simp)) (tin6.kb kp7 (by simp) (by simp)) (by walk_at "om") (by have := ls.tl; walk_at "om") (by have := ls.wl; walk_at "om")
  refine ev_Fn rfl (by with_reducible walk_at "has") c.G_law_often c.F_law_often (d' := d + 2) (by walk_at "om") ?_
  walk_at "loc"
  walk_at "loc"
  refine often_spec c ls7.hp (by rw [good.1]; walk_at "om") (by walk_at "om") fun S H8 hS8 kp8 ⟨l8, e8⟩ hS8l => ?_
  have big7 := b7.big
  have ls8 := ls7.step (.refl _) (e8 ▸ b7.app) (kp8.mono (by simp)) (ls7.tin.kb kp8 (by simp) (by simp)) (by walk_at "om") ls7.tl ls7.wl
  refine ⟨by simp, _, rfl, rfl, lawV (.val (.ref a)) bottom R wide Lc lv Lp mk few tower S none none none, ?_, ?_, ?_⟩
  · exact .cons (by with_reducible walk_at "put") (.inl rfl) (.cons (by with_reducible walk_at "put") (.inr rfl) .nil)
  · exact .cons (by with_reducible walk_at "put") (.inr rfl) (.cons (by with_reducible walk_at "put") (.inl rfl) .nil)
  exact q cells wide R Lc Lp mk (mk + 2) lv bottom row bs acts plan βc βc β7 (k4 + 1) few tower S H8 ls8 (by walk_at "om") (by walk_at "om") ⟨_, _, .refl _⟩ hR7 hS8 (by walk_at "om") (by walk_at "om") (by walk_at "om")
end

section
variable {w : World} {B : Heap} {d : Nat} {H : List O} {Q : V → List O → Prop} {β : Bk}

/-- the last line -/
theorem law_end (c : Cx B) {s : V} {v3 : Option V} {cells : List Int} {wide R Lc Lp mk kk lv bottom k few tower S many p : Nat} {row bs : List Nat} {acts : List Act} {plan : List Src} {βc β1 : Bk} (ls : LS c.cTB c.cBR cells wide R Lc Lp mk kk lv bottom row bs acts plan βc β k H)
    (f1 : ∀ (p : Nat) x, (pw plan few)[p]? = some x → SrcOk wide row β1 bottom β tower p x (3 * few)) (rb1 : Row β1 bottom bs) (wdT : Wd β tower (wide : Int)) (hS : H[S]? = some (.list (srcsV (pw plan (few + many))))) (hSb : 15 < S) (hf : few ≤ 4) (hm : many ≤ 400) (hp : p < wide) (tl : β.terms.length ≤ 10000) :
    EvS prg w B nm_law (d + 9) (bd_law.drop 12) (lawV s bottom R wide Lc lv Lp mk few tower S (some (.int (p : Int))) (some (.int (many : Int))) v3) H (fun f _ _ => f = .ret (.bool true)) := by
  have al := ls.al
  have hm18 : 3 * acts.length * many ≤ 7200 := by
    have h1 : 3 * acts.length ≤ 18 := by walk_at "om"
    exact Nat.le_trans (Nat.mul_le_mul h1 hm) (by decide)
  have wl := ls.wl
  refine evS_cons ?_
  refine ev1_Return ?_
  refine ev_Cmp rfl ?_
  refine ev_Do c.X rfl rfl (by decide) rfl c.cls_cBR ls.mt.h2 ls.mt.h1 c.M_BitsRewriter_bit_of (na_bit_of _) c.F_BitsRewriter_bit_of (d' := d + 4) (by walk_at "om") ?_
  walk_at "obj"
  walk_at "loc"
  refine ev_Fn rfl (by with_reducible walk_at "has") c.G_law_grown c.F_law_grown (d' := d + 3) (by walk_at "om") ?_
  walk_at "loc"
  walk_at "loc"
  walk_at "loc"
  walk_at "loc"
  refine grown_spec c ls.bank ls.base ls.hc ls.hcb ls.ok (by walk_at "om") (by walk_at "om") (by walk_at "om") fun top β2 H2 hR2 b2 kp2 => ?_
  have g2 := hR2.grow
  have g2t := g2.tl
  have g2w := g2.wl
  have ls2 := ls.step g2 b2 (kp2.mono (by simp)) (ls.tin.kb kp2 (by simp) (by simp)) ls.hk (by walk_at "om") (by walk_at "om")
  have hS2 := kp2.at_ _ (.inr hSb) (by simp) _ hS
  obtain ⟨a', b', gc⟩ := ls.grow
  obtain ⟨_, f2⟩ := ls.good.rounds gc wdT hR2
  have hlen : (pw plan (few + many)).length = wide := by rw [pw_len]; exact ls.good.1
  have hx : (pw plan (few + many))[p]? = some (pw plan (few + many))[p] := List.getElem?_eq_getElem (by walk_at "om")
  generalize (pw plan (few + many))[p] = x at hx
  have so : SrcOk wide row β1 bottom β2 top p x (3 * few + 3 * many) := by
    have hx' := hx
    rw [← pw_add] at hx'
    obtain ⟨y, hy, rfl⟩ := upon_at hx'
    exact src_comp (by rw [pw_len]; exact ls.good.1) f1 (f2 p y hy)
  obtain ⟨bb, n, e, he, hpar, hrowx, den⟩ := src_den so rb1 ls.hbs ls.hrow
  have hxl := (List.getElem?_eq_some_iff.mp hrowx).1
  have rl := ls.rl
  refine bit_of_spec c ls2.mt b2 ls2.base den (by walk_at "om") (by walk_at "om") fun r β3 H3 g3 hr1 hr2 b3 kp3 => ?_
  have g3t := g3.tl
  refine ev_Fn rfl (by with_reducible walk_at "has") c.G_law_due c.F_law_due (d' := d + 3) (by walk_at "om") ?_
  walk_at "loc"
  walk_at "loc"
  refine ev_Sub ?_
  walk_at "loc"
  walk_at "loc"
  refine i_list (v := srcV x) (kp3.at_ _ (.inr hSb) _ hS2) (by omega) (by have := ls.w5; omega) (by rw [tn, List.getElem?_map, hx]; rfl) ?_
  refine due_spec c b3 (ls2.base.grow g3) (by walk_at "om") (kp3.at_ _ (.inr ls.hRb) _ ls2.hR) (by walk_at "om") hrowx (den.lit.grow g3) fun r' β4 H4 g4 h1 h2 b4 kp4 => ?_
  refine w_eq ?_
  have hrr : r = r' := asked_same (ls2.base.grow g3) g4 hpar hr1 hr2 h1 h2
  subst hrr
  exact congrArg (fun t => Fl.ret (V.bool t)) (beq_self_eq_true _)

theorem many_small {lv : Nat} (h1 : 3 ≤ lv) (h2 : lv ≤ 6) : Builtin.divisionGoesByPylong 1010 (lv : Int) = false ∧ (1010 : Int).fdiv (lv : Int) = ((1010 / lv : Nat) : Int) := by
  have : lv = 3 ∨ lv = 4 ∨ lv = 5 ∨ lv = 6 := by walk_at "om"
  rcases this with rfl | rfl | rfl | rfl <;> exact ⟨by decide +kernel, by decide +kernel⟩
theorem natsV_ints (l : List Nat) : natsV l = (l.map fun b : Nat => (b : Int)).map V.int := by simp [natsV]

/-- behind the low tower -/
theorem law_rest (c : Cx B) {s : V} {v1 : Option V} {cells : List Int} {wide R Lc Lp mk kk lv bottom k few tower S : Nat} {row bs : List Nat} {acts : List Act} {plan : List Src} {βc β1 : Bk} (ls : LS c.cTB c.cBR cells wide R Lc Lp mk kk lv bottom row bs acts plan βc β k H) (hk : k ≤ 50)
    (f1 : ∀ (p : Nat) x, (pw plan few)[p]? = some x → SrcOk wide row β1 bottom β tower p x (3 * few)) (rb1 : Row β1 bottom bs) (wdT : Wd β tower (wide : Int)) (hf : few ≤ 4) (tl : β.terms.length ≤ 10000) :
    EvS prg w B nm_law (d + 9) (bd_law.drop 8) (lawV s bottom R wide Lc lv Lp mk few tower S v1 none none) H (fun f _ _ => f = .ret (.bool true)) := by
  have w2 := ls.w2
  have w5 := ls.w5
  have big := ls.bank.big
  obtain ⟨m1, m2⟩ := many_small ls.lv1 ls.lv2
  have hq : 1010 / lv ≤ 337 := by
    have : lv = 3 ∨ lv = 4 ∨ lv = 5 ∨ lv = 6 := by have := ls.lv1; have := ls.lv2; walk_at "om"
    rcases this with h | h | h | h <;> rw [h] <;> decide
  refine evS_cons (ev1_Assign (fun _ => rfl) (ev_BinOp (ev_BinOp (ev_BinOp (ev_int ?_)))))
  walk_at "loc"
  refine w_div (by have := ls.lv1; walk_at "om") m1 (ev_int (w_add ?_))
  rw [m2]
  refine ev_Fn rfl (by with_reducible walk_at "has") c.G_law_next c.F_law_next (d' := d + 1) (by walk_at "om") ?_
  walk_at "loc"
  refine ev_int (next_spec c ls.tin (by walk_at "om") (by decide) fun r2 H2 hr2 tin2 ⟨o2, e2⟩ => w_add ?_)
  have ls2 := ls.step (.refl _) (e2 ▸ ls.bank.set (.inl (by decide))) (e2 ▸ KB.set (by simp)) tin2 (by walk_at "om") ls.tl ls.wl
  rw [show (((1010 / lv : Nat) : Int) + 1 + (r2 : Int)) = ((1010 / lv + 1 + r2 : Nat) : Int) by walk_at "om"]
  generalize hmany : 1010 / lv + 1 + r2 = many
  have hml : many ≤ 400 := by walk_at "om"
  walk_at "asg"
  refine evS_cons (ev1_Assign (fun _ => rfl) (ev_Fn rfl (by with_reducible walk_at "has") c.G_law_often c.F_law_often (d' := d + 2) (by walk_at "om") ?_))
  walk_at "loc"
  refine ev_BinOp ?_
  walk_at "loc"
  walk_at "loc"
  refine w_add ?_
  rw [show ((few : Int) + (many : Int)) = ((few + many : Nat) : Int) by walk_at "om"]
  have hpl : plan.length = wide := ls.good.1
  refine often_spec c ls2.hp (by walk_at "om") (by walk_at "om") fun S2 H3 hS3 kp3 ⟨l3, e3⟩ hS3l => ?_
  have b3 : BankAt c.cTB fsB β H3 := e3 ▸ ls2.bank.app
  have ls3 := ls2.step (.refl _) b3 (kp3.mono (by simp)) (ls2.tin.kb kp3 (by simp) (by simp)) ls2.hk ls2.tl ls2.wl
  have hl2 : H2.length = H.length := by rw [e2]; simp
  have hSb : 15 < S2 := by walk_at "om"
  walk_at "asg"
  -- the deep ones
  have hlen : (pw plan (few + many)).length = wide := by rw [pw_len]; exact hpl
  generalize hsrc : pw plan (few + many) = src at hS3 hlen
  let D : Nat → List Nat := fun i => (List.range i).filter fun k => decide ((src.getD k (0, false)).1 < wide)
  have dl : ∀ i, (D i).length ≤ i := fun i => Nat.le_trans (List.length_filter_le _ _) (by simp)
  have big3 := b3.big
  refine evS_cons (ev1_AssignComp (.rng (wide : Int)) H3.length wide (fun i ys H' => i ≤ wide ∧ ys = natsV (D i) ∧ H' = H3 ++ [.list ys]) (fun _ _ => rfl) rfl (by with_reducible walk_at "rel") (by decide +kernel) (by decide +kernel) (by with_reducible walk_at "cv") (by with_reducible walk_at "has") rfl rfl ?_ ?_ ?_ ?_)
  · refine ev_Bi rfl (by with_reducible walk_at "has") c.U_range ?_
    walk_at "loc"
    exact c_range ⟨.rng, rfl, rng_live wide _ (by walk_at "om"), by walk_at "om", rfl, rfl⟩
  · rintro i ys H' ⟨hi, rfl, rfl⟩
    exact ⟨rng_live wide _ (by walk_at "om"), hi, app_r, by have := dl i; simp; walk_at "om"⟩
  · rintro i ys H' ⟨hi, rfl, rfl⟩ hn
    rw [rng_items, List.getElem?_eq_none_iff] at hn
    simp at hn
    have ei : i = wide := by walk_at "om"
    subst ei
    refine ⟨_, by with_reducible walk_at "put", ?_⟩
    have ls4 := ls3.step (.refl _) b3.app (KB.app (l := [.list (natsV (D i))])) (ls3.tin.keep .app) ls3.hk ls3.tl ls3.wl
    have hD : (H3 ++ [O.list (natsV (D i))])[H3.length]? = some (O.list (natsV (D i))) := app_r
    have hS4 : (H3 ++ [O.list (natsV (D i))])[S2]? = some (.list (srcsV (pw plan (few + many)))) := by rw [hsrc]; exact app_l hS3
    generalize H3 ++ [O.list (natsV (D i))] = H4 at ls4 hD hS4
    -- the place
    have fin : ∀ (p : Nat) (H5 : List O) (k5 : Nat), p < i → LS c.cTB c.cBR cells i R Lc Lp mk kk lv bottom row bs acts plan βc β k5 H5 → H5[S2]? = some (.list (srcsV (pw plan (few + many)))) →
        EvS prg w B nm_law (d + 9) (bd_law.drop 12) (lawV s bottom R i Lc lv Lp mk few tower S2 (some (.int (p : Int))) (some (.int (many : Int))) (some (.ref H3.length))) H5 (fun f _ _ => f = .ret (.bool true)) :=
      fun p H5 k5 hp l5 h5 => law_end c l5 f1 rb1 wdT h5 hSb hf hml hp tl
    refine evS_cons (ev1_Assign (fun _ => rfl) (ev_IfExp (evT_Cmp rfl ?_)))
    walk_at "loc"
    refine ev_List rfl ⟨by simp, w_ne_ints (ns := (D i).map fun b : Nat => (b : Int)) (ms := []) (app_l (by rw [hD, natsV_ints])) app_r ⟨_, rfl, fun hne => ?_, fun heq => ?_⟩⟩
    · have hdl : 1 ≤ (D i).length := by
        cases hd : D i with
        | nil => rw [hd] at hne; simp at hne
        | cons x r => simp
      have ls5 := ls4.step (.refl _) ls4.bank.app (KB.app (l := [.list []])) (ls4.tin.keep .app) ls4.hk ls4.tl ls4.wl
      refine ev_Sub ?_
      walk_at "loc"
      refine ev_Fn rfl (by with_reducible walk_at "has") c.G_law_next c.F_law_next (d' := d + 1) (by walk_at "om") ?_
      walk_at "loc"
      refine ev_Bi rfl (by with_reducible walk_at "has") c.U_len ?_
      walk_at "loc"
      refine c_len_list (app_l hD) (by have := dl i; simp; walk_at "om") ?_
      rw [show ((natsV (D i)).length : Nat) = (D i).length from by simp [natsV]]
      refine next_spec c ls5.tin (by have := ls5.hk; walk_at "om") (by walk_at "om") fun r6 H6 hr6 tin6 ⟨o6, e6⟩ => ?_
      have hr : r6 < (D i).length := by walk_at "om"
      have ls6 := ls5.step (.refl _) (e6 ▸ ls5.bank.set (.inl (by decide))) (e6 ▸ KB.set (by simp)) tin6 (by walk_at "om") ls5.tl ls5.wl
      have hg : (D i)[r6]? = some (D i)[r6] := List.getElem?_eq_getElem hr
      have hpl2 : (D i)[r6] < i := by
        have := List.mem_of_getElem? hg
        simp only [D, List.mem_filter, List.mem_range] at this
        exact this.1
      generalize (D i)[r6] = p at hg hpl2
      have dli := dl i
      refine i_list (v := .int (p : Int)) (e6 ▸ set_ne (app_l hD) (by omega)) (by omega) (by omega) (by rw [tn, List.getElem?_map, hg]; rfl) ?_
      walk_at "asg"
      exact fin p _ _ hpl2 ls6 (e6 ▸ set_ne (app_l hS4) (by walk_at "om"))
    · have ls5 := ls4.step (.refl _) ls4.bank.app (KB.app (l := [.list []])) (ls4.tin.keep .app) ls4.hk ls4.tl ls4.wl
      refine ev_Fn rfl (by with_reducible walk_at "has") c.G_law_next c.F_law_next (d' := d + 1) (by walk_at "om") ?_
      walk_at "loc"
      walk_at "loc"
      refine next_spec c ls5.tin (by have := ls5.hk; walk_at "om") (by walk_at "om") fun r6 H6 hr6 tin6 ⟨o6, e6⟩ => ?_
      have ls6 := ls5.step (.refl _) (e6 ▸ ls5.bank.set (.inl (by decide))) (e6 ▸ KB.set (by simp)) tin6 (by walk_at "om") ls5.tl ls5.wl
      walk_at "asg"
      exact fin r6 _ _ (by walk_at "om") ls6 (e6 ▸ set_ne (app_l hS4) (by walk_at "om"))
  · rintro i ys H' v ⟨hi, rfl, rfl⟩ hv
    rw [rng_items] at hv
    obtain ⟨hi', rfl⟩ := rng_at hv
    have hx : src[i]? = some (src.getD i (0, false)) := by rw [List.getD_eq_getElem?_getD, List.getElem?_eq_getElem (by walk_at "om")]; rfl
    have hD1 : D (i + 1) = if (src.getD i (0, false)).1 < wide then D i ++ [i] else D i := by
      simp only [D, List.range_succ, List.filter_append]
      by_cases h : (src.getD i (0, false)).1 < wide
      · rw [if_pos h]; congr 1; simp only [List.filter_cons, h, decide_true, if_true, List.filter_nil]
      · rw [if_neg h]; simp only [List.filter_cons, h, decide_false, List.filter_nil, List.append_nil]; simp
    generalize src.getD i (0, false) = x at hx hD1
    have hw0 : ∀ ys, (H3 ++ [O.list ys])[S2]? = some (.list (srcsV src)) := fun ys => app_l hS3
    refine ⟨_, .name (by with_reducible walk_at "putn"), ?_⟩
    show EvT _ _ _ _ _ _ _ _ _
    refine evT_Cmp rfl (ev_Sub (ev_Sub ?_))
    walk_at "loc"
    walk_at "loc"
    refine i_list (v := srcV x) (hw0 _) (by omega) (by omega) (by rw [tn, List.getElem?_map, hx]; rfl) (ev_int ?_)
    refine i_tup (vs := [.int (x.1 : Int), .bool x.2]) (v := .int (x.1 : Int)) (by decide) (by decide) rfl ?_
    walk_at "loc"
    refine w_lt ⟨_, rfl, fun ht => ?_, fun hf' => ?_⟩
    · walk_at "loc"
      have hlt : x.1 < wide := by simpa using ht
      rw [if_pos hlt] at hD1
      have eD : natsV (D (i + 1)) = natsV (D i) ++ [V.int (i : Int)] := by rw [hD1]; simp [natsV]
      exact ⟨app_r, by walk_at "om", eD.symm, set_mid (r := [])⟩
    · have hlt : ¬ x.1 < wide := by simpa using hf'
      rw [if_neg hlt] at hD1
      exact ⟨by walk_at "om", by rw [hD1], rfl⟩
end

section
variable {w : World} {B : Heap} {d : Nat} {H : List O} {Q : V → List O → Prop} {β : Bk}

/-- the law's body -/
theorem law_all (c : Cx B) {a : Addr} {zs : List Int} (hb : BList B a zs) (hl : zs.length ≤ 63) :
    EvS prg w B nm_law (d + 9) bd_law [some (.val (.ref a)), none, none, none, none, none, none, none, none, none, none, none, none, none, none, none, none, none, none, none, none, none, none, none, none, none] [] (fun f _ _ => f = .ret (.bool true)) := by
  refine law_head c hb hl fun cells wide R Lc Lp mk kk lv bottom row bs acts plan βc β1 β k few tower S H ls hf1 hf4 ⟨a1, a2, gc1⟩ hR hS hSb hk tl => ?_
  have w2 := ls.w2
  have w5 := ls.w5
  have hpl : plan.length = wide := ls.good.1
  obtain ⟨wdT, f1⟩ := ls.good.rounds gc1 (ls.wd.grow gc1) hR
  have rb1 := ls.rb.grow gc1
  have hlen : (pw plan few).length = wide := by rw [pw_len]; exact hpl
  have al := ls.al
  have hm18 : 3 * acts.length * few ≤ 72 := by
    have h1 : 3 * acts.length ≤ 18 := by walk_at "om"
    exact Nat.le_trans (Nat.mul_le_mul h1 hf4) (by decide)
  refine evS_cons (ev1_For (.rng (wide : Int)) wide (fun i vals H' => ∃ (β' : Bk) (v1 : Option V), vals = lawV (.val (.ref a)) bottom R wide Lc lv Lp mk few tower S v1 none none ∧ i ≤ wide ∧ LS c.cTB c.cBR cells wide R Lc Lp mk kk lv bottom row bs acts plan βc β' k H' ∧ H'[S]? = some (.list (srcsV (pw plan few))) ∧ Grow β β' (i * 20) 0) (fun _ _ => rfl) ?_ ?_ ?_ ?_)
  · refine ev_Bi rfl (by with_reducible walk_at "has") c.U_range ?_
    walk_at "loc"
    exact c_range ⟨.rng, β, none, rfl, by walk_at "om", ls, hS, (Grow.refl β).mono (by walk_at "om") (by walk_at "om")⟩
  · rintro i vals H' ⟨β', v1, rfl, hi, _⟩
    exact ⟨⟨by walk_at "om", by walk_at "om"⟩, hi⟩
  · rintro i vals H' ⟨β', v1, rfl, hi, ls', hS', g'⟩ hn
    have gt := g'.tl
    exact law_rest c ls' (by walk_at "om") (fun p x hx => (f1 p x hx).growR g') rb1 (wdT.grow g') hf4 (by walk_at "om")
  · rintro i vals H' v ⟨β', v1, rfl, hi, ls', hS', g'⟩ hv
    rw [rng_items] at hv
    obtain ⟨hi', rfl⟩ := rng_at hv
    have gt := g'.tl
    have wl := ls'.wl
    have hx : (pw plan few)[i]? = some (pw plan few)[i] := List.getElem?_eq_getElem (by walk_at "om")
    generalize (pw plan few)[i] = x at hx
    obtain ⟨bb, n, e, he, hpar, hrowx, den⟩ := src_den ((f1 i x hx).growR g') rb1 ls.hbs ls.hrow
    have hxl := (List.getElem?_eq_some_iff.mp hrowx).1
    have rl := ls.rl
    refine ⟨_, .name (by with_reducible walk_at "put") (.inl rfl), ?_⟩
    refine evS_cons (ev1_If (evT_Cmp rfl ?_))
    refine ev_Do c.X rfl rfl (by decide) rfl c.cls_cBR ls'.mt.h2 ls'.mt.h1 c.M_BitsRewriter_bit_of (na_bit_of _) c.F_BitsRewriter_bit_of (d' := d + 4) (by walk_at "om") ?_
    walk_at "obj"
    walk_at "loc"
    walk_at "loc"
    refine bit_of_spec c ls'.mt ls'.bank ls'.base den (by walk_at "om") (by walk_at "om") fun r β3 H3 g3 hr1 hr2 b3 kp3 => ?_
    have g3t := g3.tl
    have g3w := g3.wl
    refine ev_Fn rfl (by with_reducible walk_at "has") c.G_law_due c.F_law_due (d' := d + 3) (by walk_at "om") ?_
    walk_at "loc"
    walk_at "loc"
    refine ev_Sub ?_
    walk_at "loc"
    walk_at "loc"
    refine i_list (v := srcV x) (kp3.at_ _ (.inr hSb) _ hS') (by omega) (by omega) (by rw [tn, List.getElem?_map, hx]; rfl) ?_
    refine due_spec c b3 (ls'.base.grow g3) (by walk_at "om") (kp3.at_ _ (.inr ls.hRb) _ ls'.hR) (by walk_at "om") hrowx (den.lit.grow g3) fun r' β4 H4 g4 h1 h2 b4 kp4 => ?_
    have g4t := g4.tl
    have g4w := g4.wl
    have hrr : r = r' := asked_same (ls'.base.grow g3) g4 hpar hr1 hr2 h1 h2
    subst hrr
    refine w_ne ⟨_, rfl, fun h => ?_, fun _ => ?_⟩
    · simp at h
    · have kp := kp3.trans kp4
      exact evS_nil (evS_nil ⟨β4, _, rfl, by walk_at "om", ls'.step (g3.trans g4) b4 kp.kb (ls'.tin.keep kp) ls'.hk (by walk_at "om") (by walk_at "om"), kp.at_ _ (.inr hSb) _ hS', ((g'.trans g3).trans g4).mono (by walk_at "om") (by walk_at "om")⟩)
end

noncomputable def qS (x : String) : Str := Str.ofString x
noncomputable def qs (x : String) (t : Nat) : Value := .str (Str.ofString x) t
noncomputable def qi (i : Int) (t : Nat) : Value := .int i t
noncomputable def qr (a : Nat) : Value := .ref a
noncomputable def qy (x : String) : Value := .type x
noncomputable def qb (x : String) : Value := .builtin x
noncomputable def qe (P : Params) (x : String) (t : Nat) (v : Value) : DictEntry := ⟨PyData.keyHash P (Str.ofString x), .str (Str.ofString x) t, v⟩
noncomputable def qtup (l : List Value) : Obj := { cls := .type "tuple", data := .seq l.toArray }
noncomputable def qcode (l : List Value) : Obj := { cls := .type "code", data := .fields l.toArray }
noncomputable def qdict (c : Value) (l : List DictEntry) (n : Nat) : Obj := { cls := c, data := .dict l.toArray n }
noncomputable def mth (i k : Nat) : Stmt := nthS (clsBody (nthS top i)) k
noncomputable def qfA : Stmt → Arguments
  | .FunctionDef _ a .. => a
  | _ => ⟨[], [], none, [], [], none, []⟩
noncomputable def qfS : Stmt → Scope
  | .FunctionDef _ _ _ _ _ _ s .. => s
  | _ => prg.main.scope
noncomputable def qfN : Stmt → Str
  | .FunctionDef n .. => n
  | _ => Str.ofString ""
noncomputable def qf0 (s : Stmt) (q : String) : Obj := { cls := .none, data := .func { name := qfN s, qualname := Str.ofString q, params := qfA s, body := .stmts (fnBody s), scope := qfS s, globals := 0, closure := [], defaults := .none, kwdefaults := .none } }
noncomputable def qfn (s : Stmt) (q : String) (cl : List (Str × Addr)) (df md co ct : Value) : Obj := { cls := .type "function", data := .func { name := qfN s, qualname := Str.ofString q, params := qfA s, body := .stmts (fnBody s), scope := qfS s, globals := 3, closure := cl, defaults := df, kwdefaults := .none, doc := .none, pyModule := md, code := co, closureTuple := ct, builtins := 0 } }
noncomputable def qins : BT → List (Nat × Obj) → BT
  | t, [] => t
  | t, (a, o) :: r => qins (t.ins a o) r
noncomputable def qenv : Env := { scope := prg.main.scope, locals := mainNs, globals := mainNs, cells := [], code := .ref 13, frame := some 14 }
noncomputable def qcut (a n : Nat) : List Stmt := ((behindTheImports prg).drop a).take n
noncomputable abbrev qB : Code := .body (behindTheImports prg) qenv
noncomputable abbrev qF : List Frame := [topFrame ⟨0, 0, 0, 0⟩]
noncomputable def qsh (t : BT) (n k : Nat) (os : OsState) : SharedT := { tree := t, n := n, life := { }, gens := { toList := [] }, drawn := { }, toks := k, os := os }
noncomputable def q0_11 : Obj := qtup []
noncomputable def q0_12 : Obj := { cls := .none, data := Data.fields #[] }
noncomputable def q0_13 : Obj := qcode [qs "<module>" 182, qs "<module>" 183, qs "/claim/cut.py" 184, qi 1 0, qi 0 0, qi 0 0, qi 0 0, qi 0 0, qr 11, .bool false, qi 181 0, qr 12, .none, .none, .none, .none, qi 185 0, qi 1 0, qs "/claim/cut.py" 186]
noncomputable def q0_14 : Obj := { cls := qy "frame", slots := #[some (qr 13), some (qr 3), some (qr 3), none, some (qs "__main__" 164), none, some (qr 0)] }
noncomputable def qt0 (P : Params) : BT := qins .nil [(0, boot_o_0 P), (1, boot_o_1 P), (2, boot_o_2 P), (3, boot_o_3 P), (4, boot_o_4 P), (5, boot_o_5 P), (6, boot_o_6 P), (7, boot_o_7 P), (8, boot_o_8 P), (9, boot_o_9 P), (10, boot_o_10 P), (11, q0_11), (12, q0_12), (13, q0_13), (14, q0_14)]
noncomputable def q1_2 (P : Params) : Obj := qdict (.none) [qe P "type.__subclasses__.Exception.0" 230 (qi 47 0), qe P "type.__subclasses__.Exception.n" 231 (qi 1 0)] 2
noncomputable def q1_3 (P : Params) : Obj := qdict (qy "dict") [qe P "__name__" 165 (qs "minismt.errors" 194), qe P "__doc__" 166 .none, qe P "__package__" 167 .none, qe P "__loader__" 168 (qb "__main__.__loader__#opaque"), qe P "__spec__" 169 .none, qe P "__annotations__" 170 (qr 6), qe P "__builtins__" 171 (qr 4), qe P "__file__" 173 (qs "/claim/cut.py" 172), qe P "__cached__" 174 .none, qe P "_wall" 193 (qr 21), qe P "SmtError" 233 (qr 47)] 11
noncomputable def q1_12 : Obj := { cls := .none, data := Data.fields #[qi 1 0, qi 0 0, qr 20, qi 5 0, qi 0 0, qr 28] }
noncomputable def q1_15 : Obj := qtup []
noncomputable def q1_16 : Obj := { cls := .none, data := Data.fields #[] }
noncomputable def q1_17 : Obj := qtup [qs "k" 190]
noncomputable def q1_18 : Obj := qtup []
noncomputable def q1_19 : Obj := qf0 (nthS top 0) "_wall"
noncomputable def q1_20 : Obj := qcode [qs "_wall" 187, qs "_wall" 188, qs "/claim/cut.py" 189, qi 1 0, qi 1 0, qi 0 0, qi 0 0, qi 3 0, qr 15, .bool true, qi 181 0, qr 16, .none, qr 17, qr 18, qr 19, qi 191 0, qi 1 0, qs "/claim/cut.py" 192]
noncomputable def q1_21 : Obj := qfn (nthS top 0) "_wall" [] .none (qs "__main__" 164) (qr 20) .none
noncomputable def q1_22 : Obj := qtup [qy "Exception"]
noncomputable def q1_23 : Obj := { cls := qy "builtin_function_or_method", data := Data.fields #[qb "type.__prepare__", qy "type"] }
noncomputable def q1_24 (P : Params) : Obj := qdict (qy "dict") [qe P "__module__" 203 (qs "minismt.errors" 194), qe P "__qualname__" 205 (qs "SmtError" 204), qe P "__firstlineno__" 207 (qi 5 206), qe P "__init__" 216 (qr 37), qe P "told" 223 (qr 44), qe P "__static_attributes__" 225 (qr 45), qe P "__classcell__" 226 (qr 25)] 7
noncomputable def q1_25 : Obj := { cls := qy "cell", data := Data.cell (some (qr 47)) }
noncomputable def q1_26 : Obj := qtup []
noncomputable def q1_27 : Obj := { cls := .none, data := Data.fields #[qi 7 0, qi 4 0, qr 36, qi 11 0, qi 4 0, qr 43] }
noncomputable def q1_28 : Obj := qcode [qs "SmtError" 198, qs "SmtError" 199, qs "/claim/cut.py" 200, qi 5 0, qi 0 0, qi 0 0, qi 0 0, qi 0 0, qr 26, .bool false, qi 181 0, qr 27, .none, .none, .none, .none, qi 201 0, qi 5 0, qs "/claim/cut.py" 202]
noncomputable def q1_29 : Obj := { cls := qy "frame", slots := #[some (qr 28), some (qr 3), some (qr 24), none, some (qs "minismt.errors" 194), none, some (qr 0)] }
noncomputable def q1_30 : Obj := qtup [qr 25]
noncomputable def q1_31 : Obj := qtup [qs "__class__" 211]
noncomputable def q1_32 : Obj := { cls := .none, data := Data.fields #[] }
noncomputable def q1_33 : Obj := qtup [qs "self" 212, qs "what" 213]
noncomputable def q1_34 : Obj := qtup []
noncomputable def q1_35 : Obj := qf0 (mth 2 0) "SmtError.__init__"
noncomputable def q1_36 : Obj := qcode [qs "__init__" 208, qs "SmtError.__init__" 209, qs "/claim/cut.py" 210, qi 7 0, qi 2 0, qi 0 0, qi 0 0, qi 3 0, qr 31, .bool true, qi 181 0, qr 32, .none, qr 33, qr 34, qr 35, qi 214 0, qi 7 0, qs "/claim/cut.py" 215]
noncomputable def q1_37 : Obj := qfn (mth 2 0) "SmtError.__init__" [(qS "__class__", 25)] .none (qs "minismt.errors" 194) (qr 36) (qr 30)
noncomputable def q1_38 : Obj := qtup []
noncomputable def q1_39 : Obj := { cls := .none, data := Data.fields #[] }
noncomputable def q1_40 : Obj := qtup [qs "self" 220]
noncomputable def q1_41 : Obj := qtup []
noncomputable def q1_42 : Obj := qf0 (mth 2 1) "SmtError.told"
noncomputable def q1_43 : Obj := qcode [qs "told" 217, qs "SmtError.told" 218, qs "/claim/cut.py" 219, qi 11 0, qi 1 0, qi 0 0, qi 0 0, qi 3 0, qr 38, .bool true, qi 181 0, qr 39, .none, qr 40, qr 41, qr 42, qi 221 0, qi 11 0, qs "/claim/cut.py" 222]
noncomputable def q1_44 : Obj := qfn (mth 2 1) "SmtError.told" [] .none (qs "minismt.errors" 194) (qr 43) .none
noncomputable def q1_45 : Obj := qtup [qs "what" 224]
noncomputable def q1_46 (P : Params) : Obj := qdict (qy "dict") [qe P "__module__" 203 (qs "minismt.errors" 194), qe P "__firstlineno__" 207 (qi 5 206), qe P "__init__" 216 (qr 37), qe P "told" 223 (qr 44), qe P "__static_attributes__" 225 (qr 45), qe P "__weakref__" 228 (qr 48), qe P "__doc__" 229 .none] 4
noncomputable def q1_47 : Obj := { cls := qy "type", data := Data.cls { name := qS "SmtError", bases := [qy "Exception"], mro := [qr 47, qy "Exception", qy "BaseException", qy "object"], ns := 46, qualname := qS "SmtError" }, slots := #[some (qr 22), none, some (qs "SmtError" 196), some (qs "SmtError" 204), some (qb "Exception.__new__"), some (.bool true)] }
noncomputable def q1_48 : Obj := { cls := qy "getset_descriptor", data := Data.fields #[qs "__weakref__" 227, qr 47, qb "ExceptionGroup.__weakref__", .none] }
noncomputable def q1_49 : Obj := { cls := qy "super", data := Data.fields #[qr 47, qr 47, qr 47] }
noncomputable def q1_50 : Obj := { cls := qy "builtin_function_or_method", data := Data.fields #[qb "object.__init_subclass__", qr 47] }
noncomputable def qt1 (P : Params) : BT := qins (qt0 P) [(2, q1_2 P), (3, q1_3 P), (12, q1_12), (15, q1_15), (16, q1_16), (17, q1_17), (18, q1_18), (19, q1_19), (20, q1_20), (21, q1_21), (22, q1_22), (23, q1_23), (24, q1_24 P), (25, q1_25), (26, q1_26), (27, q1_27), (28, q1_28), (29, q1_29), (30, q1_30), (31, q1_31), (32, q1_32), (33, q1_33), (34, q1_34), (35, q1_35), (36, q1_36), (37, q1_37), (38, q1_38), (39, q1_39), (40, q1_40), (41, q1_41), (42, q1_42), (43, q1_43), (44, q1_44), (45, q1_45), (46, q1_46 P), (47, q1_47), (48, q1_48), (49, q1_49), (50, q1_50)]
theorem qp1 (w : World) : (fun os => segRunT treeTable prg w 11 (some (.ref 6)) 1 314 (qsh (qt0 w.params) 15 187 os) (piecesOf (qcut 0 3) qenv qB ⟨0, 0, 0, 0⟩ qF)) = fun os => some (.next, qsh (qt1 w.params) 51 234 os, qB, ⟨5, 0, 12, 24⟩) := by
  rw [PySem.W.Fast.te10110043849684766642, PySem.W.Fast.te14364793385576792824]; kernel_rfl
noncomputable def q2_3 (P : Params) : Obj := qdict (qy "dict") [qe P "__name__" 165 (qs "minismt.errors" 194), qe P "__doc__" 166 .none, qe P "__package__" 167 .none, qe P "__loader__" 168 (qb "__main__.__loader__#opaque"), qe P "__spec__" 169 .none, qe P "__annotations__" 170 (qr 6), qe P "__builtins__" 171 (qr 4), qe P "__file__" 173 (qs "/claim/cut.py" 172), qe P "__cached__" 174 .none, qe P "_wall" 193 (qr 21), qe P "SmtError" 233 (qr 47), qe P "SortFault" 256 (qr 67)] 12
noncomputable def q2_12 : Obj := { cls := .none, data := Data.fields #[qi 1 0, qi 0 0, qr 20, qi 5 0, qi 0 0, qr 28, qi 13 0, qi 0 0, qr 56] }
noncomputable def q2_47 : Obj := { cls := qy "type", data := Data.cls { name := qS "SmtError", bases := [qy "Exception"], mro := [qr 47, qy "Exception", qy "BaseException", qy "object"], ns := 46, qualname := qS "SmtError", subclasses := [qr 67] }, slots := #[some (qr 22), none, some (qs "SmtError" 196), some (qs "SmtError" 204), some (qb "Exception.__new__"), some (.bool true)] }
noncomputable def q2_51 : Obj := qtup [qr 47]
noncomputable def q2_52 : Obj := { cls := qy "builtin_function_or_method", data := Data.fields #[qb "type.__prepare__", qy "type"] }
noncomputable def q2_53 (P : Params) : Obj := qdict (qy "dict") [qe P "__module__" 241 (qs "minismt.errors" 194), qe P "__qualname__" 243 (qs "SortFault" 242), qe P "__firstlineno__" 245 (qi 13 244), qe P "told" 252 (qr 64), qe P "__static_attributes__" 253 (qr 65)] 5
noncomputable def q2_54 : Obj := qtup []
noncomputable def q2_55 : Obj := { cls := .none, data := Data.fields #[qi 15 0, qi 4 0, qr 63] }
noncomputable def q2_56 : Obj := qcode [qs "SortFault" 236, qs "SortFault" 237, qs "/claim/cut.py" 238, qi 13 0, qi 0 0, qi 0 0, qi 0 0, qi 0 0, qr 54, .bool false, qi 181 0, qr 55, .none, .none, .none, .none, qi 239 0, qi 13 0, qs "/claim/cut.py" 240]
noncomputable def q2_57 : Obj := { cls := qy "frame", slots := #[some (qr 56), some (qr 3), some (qr 53), none, some (qs "minismt.errors" 194), none, some (qr 0)] }
noncomputable def q2_58 : Obj := qtup []
noncomputable def q2_59 : Obj := { cls := .none, data := Data.fields #[] }
noncomputable def q2_60 : Obj := qtup [qs "self" 249]
noncomputable def q2_61 : Obj := qtup []
noncomputable def q2_62 : Obj := qf0 (mth 3 0) "SortFault.told"
noncomputable def q2_63 : Obj := qcode [qs "told" 246, qs "SortFault.told" 247, qs "/claim/cut.py" 248, qi 15 0, qi 1 0, qi 0 0, qi 0 0, qi 3 0, qr 58, .bool true, qi 181 0, qr 59, .none, qr 60, qr 61, qr 62, qi 250 0, qi 15 0, qs "/claim/cut.py" 251]
noncomputable def q2_64 : Obj := qfn (mth 3 0) "SortFault.told" [] .none (qs "minismt.errors" 194) (qr 63) .none
noncomputable def q2_65 : Obj := qtup []
noncomputable def q2_66 (P : Params) : Obj := qdict (qy "dict") [qe P "__module__" 241 (qs "minismt.errors" 194), qe P "__firstlineno__" 245 (qi 13 244), qe P "told" 252 (qr 64), qe P "__static_attributes__" 253 (qr 65), qe P "__doc__" 254 .none] 2
noncomputable def q2_67 : Obj := { cls := qy "type", data := Data.cls { name := qS "SortFault", bases := [qr 47], mro := [qr 67, qr 47, qy "Exception", qy "BaseException", qy "object"], ns := 66, qualname := qS "SortFault" }, slots := #[some (qr 51), none, some (qs "SortFault" 234), some (qs "SortFault" 242), some (qb "Exception.__new__"), some (.bool true)] }
noncomputable def q2_68 : Obj := { cls := qy "super", data := Data.fields #[qr 67, qr 67, qr 67] }
noncomputable def q2_69 : Obj := { cls := qy "builtin_function_or_method", data := Data.fields #[qb "object.__init_subclass__", qr 67] }
noncomputable def qt2 (P : Params) : BT := qins (qt1 P) [(3, q2_3 P), (12, q2_12), (47, q2_47), (51, q2_51), (52, q2_52), (53, q2_53 P), (54, q2_54), (55, q2_55), (56, q2_56), (57, q2_57), (58, q2_58), (59, q2_59), (60, q2_60), (61, q2_61), (62, q2_62), (63, q2_63), (64, q2_64), (65, q2_65), (66, q2_66 P), (67, q2_67), (68, q2_68), (69, q2_69)]
theorem qp2 (w : World) : (fun os => segRunT treeTable prg w 11 (some (.ref 6)) 1 244 (qsh (qt1 w.params) 51 234 os) (piecesOf (qcut 3 1) qenv qB ⟨5, 0, 12, 24⟩ qF)) = fun os => some (.next, qsh (qt2 w.params) 70 257 os, qB, ⟨13, 0, 16, 36⟩) := by
  rw [PySem.W.Fast.te10110043849684766642, PySem.W.Fast.te14364793385576792824]; kernel_rfl
noncomputable def q3_3 (P : Params) : Obj := qdict (qy "dict") [qe P "__name__" 165 (qs "minismt.errors" 194), qe P "__doc__" 166 .none, qe P "__package__" 167 .none, qe P "__loader__" 168 (qb "__main__.__loader__#opaque"), qe P "__spec__" 169 .none, qe P "__annotations__" 170 (qr 6), qe P "__builtins__" 171 (qr 4), qe P "__file__" 173 (qs "/claim/cut.py" 172), qe P "__cached__" 174 .none, qe P "_wall" 193 (qr 21), qe P "SmtError" 233 (qr 47), qe P "SortFault" 256 (qr 67), qe P "LimitFault" 279 (qr 86)] 13
noncomputable def q3_12 : Obj := { cls := .none, data := Data.fields #[qi 1 0, qi 0 0, qr 20, qi 5 0, qi 0 0, qr 28, qi 13 0, qi 0 0, qr 56, qi 17 0, qi 0 0, qr 75] }
noncomputable def q3_47 : Obj := { cls := qy "type", data := Data.cls { name := qS "SmtError", bases := [qy "Exception"], mro := [qr 47, qy "Exception", qy "BaseException", qy "object"], ns := 46, qualname := qS "SmtError", subclasses := [qr 67, qr 86] }, slots := #[some (qr 22), none, some (qs "SmtError" 196), some (qs "SmtError" 204), some (qb "Exception.__new__"), some (.bool true)] }
noncomputable def q3_70 : Obj := qtup [qr 47]
noncomputable def q3_71 : Obj := { cls := qy "builtin_function_or_method", data := Data.fields #[qb "type.__prepare__", qy "type"] }
noncomputable def q3_72 (P : Params) : Obj := qdict (qy "dict") [qe P "__module__" 264 (qs "minismt.errors" 194), qe P "__qualname__" 266 (qs "LimitFault" 265), qe P "__firstlineno__" 268 (qi 17 267), qe P "told" 275 (qr 83), qe P "__static_attributes__" 276 (qr 84)] 5
noncomputable def q3_73 : Obj := qtup []
noncomputable def q3_74 : Obj := { cls := .none, data := Data.fields #[qi 19 0, qi 4 0, qr 82] }
noncomputable def q3_75 : Obj := qcode [qs "LimitFault" 259, qs "LimitFault" 260, qs "/claim/cut.py" 261, qi 17 0, qi 0 0, qi 0 0, qi 0 0, qi 0 0, qr 73, .bool false, qi 181 0, qr 74, .none, .none, .none, .none, qi 262 0, qi 17 0, qs "/claim/cut.py" 263]
noncomputable def q3_76 : Obj := { cls := qy "frame", slots := #[some (qr 75), some (qr 3), some (qr 72), none, some (qs "minismt.errors" 194), none, some (qr 0)] }
noncomputable def q3_77 : Obj := qtup []
noncomputable def q3_78 : Obj := { cls := .none, data := Data.fields #[] }
noncomputable def q3_79 : Obj := qtup [qs "self" 272]
noncomputable def q3_80 : Obj := qtup []
noncomputable def q3_81 : Obj := qf0 (mth 4 0) "LimitFault.told"
noncomputable def q3_82 : Obj := qcode [qs "told" 269, qs "LimitFault.told" 270, qs "/claim/cut.py" 271, qi 19 0, qi 1 0, qi 0 0, qi 0 0, qi 3 0, qr 77, .bool true, qi 181 0, qr 78, .none, qr 79, qr 80, qr 81, qi 273 0, qi 19 0, qs "/claim/cut.py" 274]
noncomputable def q3_83 : Obj := qfn (mth 4 0) "LimitFault.told" [] .none (qs "minismt.errors" 194) (qr 82) .none
noncomputable def q3_84 : Obj := qtup []
noncomputable def q3_85 (P : Params) : Obj := qdict (qy "dict") [qe P "__module__" 264 (qs "minismt.errors" 194), qe P "__firstlineno__" 268 (qi 17 267), qe P "told" 275 (qr 83), qe P "__static_attributes__" 276 (qr 84), qe P "__doc__" 277 .none] 2
noncomputable def q3_86 : Obj := { cls := qy "type", data := Data.cls { name := qS "LimitFault", bases := [qr 47], mro := [qr 86, qr 47, qy "Exception", qy "BaseException", qy "object"], ns := 85, qualname := qS "LimitFault" }, slots := #[some (qr 70), none, some (qs "LimitFault" 257), some (qs "LimitFault" 265), some (qb "Exception.__new__"), some (.bool true)] }
noncomputable def q3_87 : Obj := { cls := qy "super", data := Data.fields #[qr 86, qr 86, qr 86] }
noncomputable def q3_88 : Obj := { cls := qy "builtin_function_or_method", data := Data.fields #[qb "object.__init_subclass__", qr 86] }
noncomputable def qt3 (P : Params) : BT := qins (qt2 P) [(3, q3_3 P), (12, q3_12), (47, q3_47), (70, q3_70), (71, q3_71), (72, q3_72 P), (73, q3_73), (74, q3_74), (75, q3_75), (76, q3_76), (77, q3_77), (78, q3_78), (79, q3_79), (80, q3_80), (81, q3_81), (82, q3_82), (83, q3_83), (84, q3_84), (85, q3_85 P), (86, q3_86), (87, q3_87), (88, q3_88)]
theorem qp3 (w : World) : (fun os => segRunT treeTable prg w 11 (some (.ref 6)) 1 244 (qsh (qt2 w.params) 70 257 os) (piecesOf (qcut 4 1) qenv qB ⟨13, 0, 16, 36⟩ qF)) = fun os => some (.next, qsh (qt3 w.params) 89 280 os, qB, ⟨17, 0, 20, 36⟩) := by
  rw [PySem.W.Fast.te10110043849684766642, PySem.W.Fast.te14364793385576792824]; kernel_rfl
noncomputable def q4_3 (P : Params) : Obj := qdict (qy "dict") [qe P "__name__" 165 (qs "minismt.terms" 337), qe P "__doc__" 166 .none, qe P "__package__" 167 .none, qe P "__loader__" 168 (qb "__main__.__loader__#opaque"), qe P "__spec__" 169 .none, qe P "__annotations__" 170 (qr 6), qe P "__builtins__" 171 (qr 4), qe P "__file__" 173 (qs "/claim/cut.py" 172), qe P "__cached__" 174 .none, qe P "_wall" 193 (qr 21), qe P "SmtError" 233 (qr 47), qe P "SortFault" 256 (qr 67), qe P "LimitFault" 279 (qr 86), qe P "ModelFault" 302 (qr 105), qe P "gcd_of" 312 (qr 114), qe P "ratio" 321 (qr 121), qe P "mul" 329 (qr 128), qe P "is_whole" 336 (qr 135)] 18
noncomputable def q4_12 : Obj := { cls := .none, data := Data.fields #[qi 1 0, qi 0 0, qr 20, qi 5 0, qi 0 0, qr 28, qi 13 0, qi 0 0, qr 56, qi 17 0, qi 0 0, qr 75, qi 21 0, qi 0 0, qr 94, qi 26 0, qi 0 0, qr 113, qi 31 0, qi 0 0, qr 120, qi 38 0, qi 0 0, qr 127, qi 42 0, qi 0 0, qr 134] }
noncomputable def q4_47 : Obj := { cls := qy "type", data := Data.cls { name := qS "SmtError", bases := [qy "Exception"], mro := [qr 47, qy "Exception", qy "BaseException", qy "object"], ns := 46, qualname := qS "SmtError", subclasses := [qr 67, qr 86, qr 105] }, slots := #[some (qr 22), none, some (qs "SmtError" 196), some (qs "SmtError" 204), some (qb "Exception.__new__"), some (.bool true)] }
noncomputable def q4_89 : Obj := qtup [qr 47]
noncomputable def q4_90 : Obj := { cls := qy "builtin_function_or_method", data := Data.fields #[qb "type.__prepare__", qy "type"] }
noncomputable def q4_91 (P : Params) : Obj := qdict (qy "dict") [qe P "__module__" 287 (qs "minismt.errors" 194), qe P "__qualname__" 289 (qs "ModelFault" 288), qe P "__firstlineno__" 291 (qi 21 290), qe P "told" 298 (qr 102), qe P "__static_attributes__" 299 (qr 103)] 5
noncomputable def q4_92 : Obj := qtup []
noncomputable def q4_93 : Obj := { cls := .none, data := Data.fields #[qi 23 0, qi 4 0, qr 101] }
noncomputable def q4_94 : Obj := qcode [qs "ModelFault" 282, qs "ModelFault" 283, qs "/claim/cut.py" 284, qi 21 0, qi 0 0, qi 0 0, qi 0 0, qi 0 0, qr 92, .bool false, qi 181 0, qr 93, .none, .none, .none, .none, qi 285 0, qi 21 0, qs "/claim/cut.py" 286]
noncomputable def q4_95 : Obj := { cls := qy "frame", slots := #[some (qr 94), some (qr 3), some (qr 91), none, some (qs "minismt.errors" 194), none, some (qr 0)] }
noncomputable def q4_96 : Obj := qtup []
noncomputable def q4_97 : Obj := { cls := .none, data := Data.fields #[] }
noncomputable def q4_98 : Obj := qtup [qs "self" 295]
noncomputable def q4_99 : Obj := qtup []
noncomputable def q4_100 : Obj := qf0 (mth 5 0) "ModelFault.told"
noncomputable def q4_101 : Obj := qcode [qs "told" 292, qs "ModelFault.told" 293, qs "/claim/cut.py" 294, qi 23 0, qi 1 0, qi 0 0, qi 0 0, qi 3 0, qr 96, .bool true, qi 181 0, qr 97, .none, qr 98, qr 99, qr 100, qi 296 0, qi 23 0, qs "/claim/cut.py" 297]
noncomputable def q4_102 : Obj := qfn (mth 5 0) "ModelFault.told" [] .none (qs "minismt.errors" 194) (qr 101) .none
noncomputable def q4_103 : Obj := qtup []
noncomputable def q4_104 (P : Params) : Obj := qdict (qy "dict") [qe P "__module__" 287 (qs "minismt.errors" 194), qe P "__firstlineno__" 291 (qi 21 290), qe P "told" 298 (qr 102), qe P "__static_attributes__" 299 (qr 103), qe P "__doc__" 300 .none] 2
noncomputable def q4_105 : Obj := { cls := qy "type", data := Data.cls { name := qS "ModelFault", bases := [qr 47], mro := [qr 105, qr 47, qy "Exception", qy "BaseException", qy "object"], ns := 104, qualname := qS "ModelFault" }, slots := #[some (qr 89), none, some (qs "ModelFault" 280), some (qs "ModelFault" 288), some (qb "Exception.__new__"), some (.bool true)] }
noncomputable def q4_106 : Obj := { cls := qy "super", data := Data.fields #[qr 105, qr 105, qr 105] }
noncomputable def q4_107 : Obj := { cls := qy "builtin_function_or_method", data := Data.fields #[qb "object.__init_subclass__", qr 105] }
noncomputable def q4_108 : Obj := qtup []
noncomputable def q4_109 : Obj := { cls := .none, data := Data.fields #[] }
noncomputable def q4_110 : Obj := qtup [qs "a" 308, qs "b" 309]
noncomputable def q4_111 : Obj := qtup []
noncomputable def q4_112 : Obj := qf0 (nthS top 7) "gcd_of"
noncomputable def q4_113 : Obj := qcode [qs "gcd_of" 305, qs "gcd_of" 306, qs "/claim/cut.py" 307, qi 26 0, qi 2 0, qi 0 0, qi 0 0, qi 3 0, qr 108, .bool true, qi 181 0, qr 109, .none, qr 110, qr 111, qr 112, qi 310 0, qi 26 0, qs "/claim/cut.py" 311]
noncomputable def q4_114 : Obj := qfn (nthS top 7) "gcd_of" [] .none (qs "minismt.ratios" 303) (qr 113) .none
noncomputable def q4_115 : Obj := qtup []
noncomputable def q4_116 : Obj := { cls := .none, data := Data.fields #[] }
noncomputable def q4_117 : Obj := qtup [qs "top" 316, qs "bottom" 317, qs "common" 318]
noncomputable def q4_118 : Obj := qtup []
noncomputable def q4_119 : Obj := qf0 (nthS top 8) "ratio"
noncomputable def q4_120 : Obj := qcode [qs "ratio" 313, qs "ratio" 314, qs "/claim/cut.py" 315, qi 31 0, qi 2 0, qi 0 0, qi 0 0, qi 3 0, qr 115, .bool true, qi 181 0, qr 116, .none, qr 117, qr 118, qr 119, qi 319 0, qi 31 0, qs "/claim/cut.py" 320]
noncomputable def q4_121 : Obj := qfn (nthS top 8) "ratio" [] .none (qs "minismt.ratios" 303) (qr 120) .none
noncomputable def q4_122 : Obj := qtup []
noncomputable def q4_123 : Obj := { cls := .none, data := Data.fields #[] }
noncomputable def q4_124 : Obj := qtup [qs "a" 325, qs "b" 326]
noncomputable def q4_125 : Obj := qtup []
noncomputable def q4_126 : Obj := qf0 (nthS top 9) "mul"
noncomputable def q4_127 : Obj := qcode [qs "mul" 322, qs "mul" 323, qs "/claim/cut.py" 324, qi 38 0, qi 2 0, qi 0 0, qi 0 0, qi 3 0, qr 122, .bool true, qi 181 0, qr 123, .none, qr 124, qr 125, qr 126, qi 327 0, qi 38 0, qs "/claim/cut.py" 328]
noncomputable def q4_128 : Obj := qfn (nthS top 9) "mul" [] .none (qs "minismt.ratios" 303) (qr 127) .none
noncomputable def q4_129 : Obj := qtup []
noncomputable def q4_130 : Obj := { cls := .none, data := Data.fields #[] }
noncomputable def q4_131 : Obj := qtup [qs "a" 333]
noncomputable def q4_132 : Obj := qtup []
noncomputable def q4_133 : Obj := qf0 (nthS top 10) "is_whole"
noncomputable def q4_134 : Obj := qcode [qs "is_whole" 330, qs "is_whole" 331, qs "/claim/cut.py" 332, qi 42 0, qi 1 0, qi 0 0, qi 0 0, qi 3 0, qr 129, .bool true, qi 181 0, qr 130, .none, qr 131, qr 132, qr 133, qi 334 0, qi 42 0, qs "/claim/cut.py" 335]
noncomputable def q4_135 : Obj := qfn (nthS top 10) "is_whole" [] .none (qs "minismt.ratios" 303) (qr 134) .none
noncomputable def qt4 (P : Params) : BT := qins (qt3 P) [(3, q4_3 P), (12, q4_12), (47, q4_47), (89, q4_89), (90, q4_90), (91, q4_91 P), (92, q4_92), (93, q4_93), (94, q4_94), (95, q4_95), (96, q4_96), (97, q4_97), (98, q4_98), (99, q4_99), (100, q4_100), (101, q4_101), (102, q4_102), (103, q4_103), (104, q4_104 P), (105, q4_105), (106, q4_106), (107, q4_107), (108, q4_108), (109, q4_109), (110, q4_110), (111, q4_111), (112, q4_112), (113, q4_113), (114, q4_114), (115, q4_115), (116, q4_116), (117, q4_117), (118, q4_118), (119, q4_119), (120, q4_120), (121, q4_121), (122, q4_122), (123, q4_123), (124, q4_124), (125, q4_125), (126, q4_126), (127, q4_127), (128, q4_128), (129, q4_129), (130, q4_130), (131, q4_131), (132, q4_132), (133, q4_133), (134, q4_134), (135, q4_135)]
theorem qp4 (w : World) : (fun os => segRunT treeTable prg w 11 (some (.ref 6)) 1 382 (qsh (qt3 w.params) 89 280 os) (piecesOf (qcut 5 7) qenv qB ⟨17, 0, 20, 36⟩ qF)) = fun os => some (.next, qsh (qt4 w.params) 136 339 os, qB, ⟨44, 0, 44, 8⟩) := by
  rw [PySem.W.Fast.te10110043849684766642, PySem.W.Fast.te14364793385576792824]; kernel_rfl
noncomputable def q5_3 (P : Params) : Obj := qdict (qy "dict") [qe P "__name__" 165 (qs "minismt.terms" 337), qe P "__doc__" 166 .none, qe P "__package__" 167 .none, qe P "__loader__" 168 (qb "__main__.__loader__#opaque"), qe P "__spec__" 169 .none, qe P "__annotations__" 170 (qr 6), qe P "__builtins__" 171 (qr 4), qe P "__file__" 173 (qs "/claim/cut.py" 172), qe P "__cached__" 174 .none, qe P "_wall" 193 (qr 21), qe P "SmtError" 233 (qr 47), qe P "SortFault" 256 (qr 67), qe P "LimitFault" 279 (qr 86), qe P "ModelFault" 302 (qr 105), qe P "gcd_of" 312 (qr 114), qe P "ratio" 321 (qr 121), qe P "mul" 329 (qr 128), qe P "is_whole" 336 (qr 135), qe P "mask_of" 345 (qr 142), qe P "signed_of" 353 (qr 149), qe P "one_value" 362 (qr 156), qe P "divided_value" 371 (qr 163), qe P "rest_value" 379 (qr 170), qe P "shifted_value" 389 (qr 177), qe P "two_value" 399 (qr 184), qe P "extract_value" 408 (qr 191), qe P "sign_extended" 417 (qr 198), qe P "bit_value" 425 (qr 205), qe P "BOOL" 427 (qi 0 426), qe P "INT" 429 (qi 1 428), qe P "REAL" 431 (qi 2 430), qe P "WIDEST" 433 (qi 4096 432), qe P "MOST_BITS" 437 (qi 65536 436), qe P "VALUE_OPS" 442 (qr 206)] 34
noncomputable def q5_12 : Obj := { cls := .none, data := Data.fields #[qi 1 0, qi 0 0, qr 20, qi 5 0, qi 0 0, qr 28, qi 13 0, qi 0 0, qr 56, qi 17 0, qi 0 0, qr 75, qi 21 0, qi 0 0, qr 94, qi 26 0, qi 0 0, qr 113, qi 31 0, qi 0 0, qr 120, qi 38 0, qi 0 0, qr 127, qi 42 0, qi 0 0, qr 134, qi 45 0, qi 0 0, qr 141, qi 47 0, qi 0 0, qr 148, qi 49 0, qi 0 0, qr 155, qi 55 0, qi 0 0, qr 162, qi 57 0, qi 0 0, qr 169, qi 59 0, qi 0 0, qr 176, qi 63 0, qi 0 0, qr 183, qi 83 0, qi 0 0, qr 190, qi 85 0, qi 0 0, qr 197, qi 87 0, qi 0 0, qr 204] }
noncomputable def q5_136 : Obj := qtup []
noncomputable def q5_137 : Obj := { cls := .none, data := Data.fields #[] }
noncomputable def q5_138 : Obj := qtup [qs "width" 342]
noncomputable def q5_139 : Obj := qtup []
noncomputable def q5_140 : Obj := qf0 (nthS top 12) "mask_of"
noncomputable def q5_141 : Obj := qcode [qs "mask_of" 339, qs "mask_of" 340, qs "/claim/cut.py" 341, qi 45 0, qi 1 0, qi 0 0, qi 0 0, qi 3 0, qr 136, .bool true, qi 181 0, qr 137, .none, qr 138, qr 139, qr 140, qi 343 0, qi 45 0, qs "/claim/cut.py" 344]
noncomputable def q5_142 : Obj := qfn (nthS top 12) "mask_of" [] .none (qs "minismt.terms" 337) (qr 141) .none
noncomputable def q5_143 : Obj := qtup []
noncomputable def q5_144 : Obj := { cls := .none, data := Data.fields #[] }
noncomputable def q5_145 : Obj := qtup [qs "x" 349, qs "width" 350]
noncomputable def q5_146 : Obj := qtup []
noncomputable def q5_147 : Obj := qf0 (nthS top 13) "signed_of"
noncomputable def q5_148 : Obj := qcode [qs "signed_of" 346, qs "signed_of" 347, qs "/claim/cut.py" 348, qi 47 0, qi 2 0, qi 0 0, qi 0 0, qi 3 0, qr 143, .bool true, qi 181 0, qr 144, .none, qr 145, qr 146, qr 147, qi 351 0, qi 47 0, qs "/claim/cut.py" 352]
noncomputable def q5_149 : Obj := qfn (nthS top 13) "signed_of" [] .none (qs "minismt.terms" 337) (qr 148) .none
noncomputable def q5_150 : Obj := qtup []
noncomputable def q5_151 : Obj := { cls := .none, data := Data.fields #[] }
noncomputable def q5_152 : Obj := qtup [qs "op" 357, qs "x" 358, qs "width" 359]
noncomputable def q5_153 : Obj := qtup []
noncomputable def q5_154 : Obj := qf0 (nthS top 14) "one_value"
noncomputable def q5_155 : Obj := qcode [qs "one_value" 354, qs "one_value" 355, qs "/claim/cut.py" 356, qi 49 0, qi 3 0, qi 0 0, qi 0 0, qi 3 0, qr 150, .bool true, qi 181 0, qr 151, .none, qr 152, qr 153, qr 154, qi 360 0, qi 49 0, qs "/claim/cut.py" 361]
noncomputable def q5_156 : Obj := qfn (nthS top 14) "one_value" [] .none (qs "minismt.terms" 337) (qr 155) .none
noncomputable def q5_157 : Obj := qtup []
noncomputable def q5_158 : Obj := { cls := .none, data := Data.fields #[] }
noncomputable def q5_159 : Obj := qtup [qs "x" 366, qs "y" 367, qs "width" 368]
noncomputable def q5_160 : Obj := qtup []
noncomputable def q5_161 : Obj := qf0 (nthS top 15) "divided_value"
noncomputable def q5_162 : Obj := qcode [qs "divided_value" 363, qs "divided_value" 364, qs "/claim/cut.py" 365, qi 55 0, qi 3 0, qi 0 0, qi 0 0, qi 3 0, qr 157, .bool true, qi 181 0, qr 158, .none, qr 159, qr 160, qr 161, qi 369 0, qi 55 0, qs "/claim/cut.py" 370]
noncomputable def q5_163 : Obj := qfn (nthS top 15) "divided_value" [] .none (qs "minismt.terms" 337) (qr 162) .none
noncomputable def q5_164 : Obj := qtup []
noncomputable def q5_165 : Obj := { cls := .none, data := Data.fields #[] }
noncomputable def q5_166 : Obj := qtup [qs "x" 375, qs "y" 376]
noncomputable def q5_167 : Obj := qtup []
noncomputable def q5_168 : Obj := qf0 (nthS top 16) "rest_value"
noncomputable def q5_169 : Obj := qcode [qs "rest_value" 372, qs "rest_value" 373, qs "/claim/cut.py" 374, qi 57 0, qi 2 0, qi 0 0, qi 0 0, qi 3 0, qr 164, .bool true, qi 181 0, qr 165, .none, qr 166, qr 167, qr 168, qi 377 0, qi 57 0, qs "/claim/cut.py" 378]
noncomputable def q5_170 : Obj := qfn (nthS top 16) "rest_value" [] .none (qs "minismt.terms" 337) (qr 169) .none
noncomputable def q5_171 : Obj := qtup []
noncomputable def q5_172 : Obj := { cls := .none, data := Data.fields #[] }
noncomputable def q5_173 : Obj := qtup [qs "op" 383, qs "x" 384, qs "y" 385, qs "width" 386]
noncomputable def q5_174 : Obj := qtup []
noncomputable def q5_175 : Obj := qf0 (nthS top 17) "shifted_value"
noncomputable def q5_176 : Obj := qcode [qs "shifted_value" 380, qs "shifted_value" 381, qs "/claim/cut.py" 382, qi 59 0, qi 4 0, qi 0 0, qi 0 0, qi 3 0, qr 171, .bool true, qi 181 0, qr 172, .none, qr 173, qr 174, qr 175, qi 387 0, qi 59 0, qs "/claim/cut.py" 388]
noncomputable def q5_177 : Obj := qfn (nthS top 17) "shifted_value" [] .none (qs "minismt.terms" 337) (qr 176) .none
noncomputable def q5_178 : Obj := qtup []
noncomputable def q5_179 : Obj := { cls := .none, data := Data.fields #[] }
noncomputable def q5_180 : Obj := qtup [qs "op" 393, qs "x" 394, qs "y" 395, qs "width" 396]
noncomputable def q5_181 : Obj := qtup []
noncomputable def q5_182 : Obj := qf0 (nthS top 18) "two_value"
noncomputable def q5_183 : Obj := qcode [qs "two_value" 390, qs "two_value" 391, qs "/claim/cut.py" 392, qi 63 0, qi 4 0, qi 0 0, qi 0 0, qi 3 0, qr 178, .bool true, qi 181 0, qr 179, .none, qr 180, qr 181, qr 182, qi 397 0, qi 63 0, qs "/claim/cut.py" 398]
noncomputable def q5_184 : Obj := qfn (nthS top 18) "two_value" [] .none (qs "minismt.terms" 337) (qr 183) .none
noncomputable def q5_185 : Obj := qtup []
noncomputable def q5_186 : Obj := { cls := .none, data := Data.fields #[] }
noncomputable def q5_187 : Obj := qtup [qs "x" 403, qs "high" 404, qs "low" 405]
noncomputable def q5_188 : Obj := qtup []
noncomputable def q5_189 : Obj := qf0 (nthS top 19) "extract_value"
noncomputable def q5_190 : Obj := qcode [qs "extract_value" 400, qs "extract_value" 401, qs "/claim/cut.py" 402, qi 83 0, qi 3 0, qi 0 0, qi 0 0, qi 3 0, qr 185, .bool true, qi 181 0, qr 186, .none, qr 187, qr 188, qr 189, qi 406 0, qi 83 0, qs "/claim/cut.py" 407]
noncomputable def q5_191 : Obj := qfn (nthS top 19) "extract_value" [] .none (qs "minismt.terms" 337) (qr 190) .none
noncomputable def q5_192 : Obj := qtup []
noncomputable def q5_193 : Obj := { cls := .none, data := Data.fields #[] }
noncomputable def q5_194 : Obj := qtup [qs "x" 412, qs "width" 413, qs "many" 414]
noncomputable def q5_195 : Obj := qtup []
noncomputable def q5_196 : Obj := qf0 (nthS top 20) "sign_extended"
noncomputable def q5_197 : Obj := qcode [qs "sign_extended" 409, qs "sign_extended" 410, qs "/claim/cut.py" 411, qi 85 0, qi 3 0, qi 0 0, qi 0 0, qi 3 0, qr 192, .bool true, qi 181 0, qr 193, .none, qr 194, qr 195, qr 196, qi 415 0, qi 85 0, qs "/claim/cut.py" 416]
noncomputable def q5_198 : Obj := qfn (nthS top 20) "sign_extended" [] .none (qs "minismt.terms" 337) (qr 197) .none
noncomputable def q5_199 : Obj := qtup []
noncomputable def q5_200 : Obj := { cls := .none, data := Data.fields #[] }
noncomputable def q5_201 : Obj := qtup [qs "x" 421, qs "i" 422]
noncomputable def q5_202 : Obj := qtup []
noncomputable def q5_203 : Obj := qf0 (nthS top 21) "bit_value"
noncomputable def q5_204 : Obj := qcode [qs "bit_value" 418, qs "bit_value" 419, qs "/claim/cut.py" 420, qi 87 0, qi 2 0, qi 0 0, qi 0 0, qi 3 0, qr 199, .bool true, qi 181 0, qr 200, .none, qr 201, qr 202, qr 203, qi 423 0, qi 87 0, qs "/claim/cut.py" 424]
noncomputable def q5_205 : Obj := qfn (nthS top 21) "bit_value" [] .none (qs "minismt.terms" 337) (qr 204) .none
noncomputable def q5_206 : Obj := qtup [qs "true" 438, qs "false" 439, qs "num" 440, qs "bvnum" 441]
noncomputable def qt5 (P : Params) : BT := qins (qt4 P) [(3, q5_3 P), (12, q5_12), (136, q5_136), (137, q5_137), (138, q5_138), (139, q5_139), (140, q5_140), (141, q5_141), (142, q5_142), (143, q5_143), (144, q5_144), (145, q5_145), (146, q5_146), (147, q5_147), (148, q5_148), (149, q5_149), (150, q5_150), (151, q5_151), (152, q5_152), (153, q5_153), (154, q5_154), (155, q5_155), (156, q5_156), (157, q5_157), (158, q5_158), (159, q5_159), (160, q5_160), (161, q5_161), (162, q5_162), (163, q5_163), (164, q5_164), (165, q5_165), (166, q5_166), (167, q5_167), (168, q5_168), (169, q5_169), (170, q5_170), (171, q5_171), (172, q5_172), (173, q5_173), (174, q5_174), (175, q5_175), (176, q5_176), (177, q5_177), (178, q5_178), (179, q5_179), (180, q5_180), (181, q5_181), (182, q5_182), (183, q5_183), (184, q5_184), (185, q5_185), (186, q5_186), (187, q5_187), (188, q5_188), (189, q5_189), (190, q5_190), (191, q5_191), (192, q5_192), (193, q5_193), (194, q5_194), (195, q5_195), (196, q5_196), (197, q5_197), (198, q5_198), (199, q5_199), (200, q5_200), (201, q5_201), (202, q5_202), (203, q5_203), (204, q5_204), (205, q5_205), (206, q5_206)]
theorem qp5 (w : World) : (fun os => segRunT treeTable prg w 11 (some (.ref 6)) 1 373 (qsh (qt4 w.params) 136 339 os) (piecesOf (qcut 12 16) qenv qB ⟨44, 0, 44, 8⟩ qF)) = fun os => some (.next, qsh (qt5 w.params) 207 443 os, qB, ⟨94, 0, 94, 9⟩) := by
  rw [PySem.W.Fast.te10110043849684766642, PySem.W.Fast.te14364793385576792824]; kernel_rfl
noncomputable def q6_3 (P : Params) : Obj := qdict (qy "dict") [qe P "__name__" 165 (qs "minismt.terms" 337), qe P "__doc__" 166 .none, qe P "__package__" 167 .none, qe P "__loader__" 168 (qb "__main__.__loader__#opaque"), qe P "__spec__" 169 .none, qe P "__annotations__" 170 (qr 6), qe P "__builtins__" 171 (qr 4), qe P "__file__" 173 (qs "/claim/cut.py" 172), qe P "__cached__" 174 .none, qe P "_wall" 193 (qr 21), qe P "SmtError" 233 (qr 47), qe P "SortFault" 256 (qr 67), qe P "LimitFault" 279 (qr 86), qe P "ModelFault" 302 (qr 105), qe P "gcd_of" 312 (qr 114), qe P "ratio" 321 (qr 121), qe P "mul" 329 (qr 128), qe P "is_whole" 336 (qr 135), qe P "mask_of" 345 (qr 142), qe P "signed_of" 353 (qr 149), qe P "one_value" 362 (qr 156), qe P "divided_value" 371 (qr 163), qe P "rest_value" 379 (qr 170), qe P "shifted_value" 389 (qr 177), qe P "two_value" 399 (qr 184), qe P "extract_value" 408 (qr 191), qe P "sign_extended" 417 (qr 198), qe P "bit_value" 425 (qr 205), qe P "BOOL" 427 (qi 0 426), qe P "INT" 429 (qi 1 428), qe P "REAL" 431 (qi 2 430), qe P "WIDEST" 433 (qi 4096 432), qe P "MOST_BITS" 437 (qi 65536 436), qe P "VALUE_OPS" 442 (qr 206), qe P "Bank" 720 (qr 419)] 35
noncomputable def q6_12 : Obj := { cls := .none, data := Data.fields #[qi 1 0, qi 0 0, qr 20, qi 5 0, qi 0 0, qr 28, qi 13 0, qi 0 0, qr 56, qi 17 0, qi 0 0, qr 75, qi 21 0, qi 0 0, qr 94, qi 26 0, qi 0 0, qr 113, qi 31 0, qi 0 0, qr 120, qi 38 0, qi 0 0, qr 127, qi 42 0, qi 0 0, qr 134, qi 45 0, qi 0 0, qr 141, qi 47 0, qi 0 0, qr 148, qi 49 0, qi 0 0, qr 155, qi 55 0, qi 0 0, qr 162, qi 57 0, qi 0 0, qr 169, qi 59 0, qi 0 0, qr 176, qi 63 0, qi 0 0, qr 183, qi 83 0, qi 0 0, qr 190, qi 85 0, qi 0 0, qr 197, qi 87 0, qi 0 0, qr 204, qi 95 0, qi 0 0, qr 212] }
noncomputable def q6_207 : Obj := qtup []
noncomputable def q6_208 : Obj := { cls := qy "builtin_function_or_method", data := Data.fields #[qb "type.__prepare__", qy "type"] }
noncomputable def q6_209 (P : Params) : Obj := qdict (qy "dict") [qe P "__module__" 450 (qs "minismt.terms" 337), qe P "__qualname__" 452 (qs "Bank" 451), qe P "__firstlineno__" 454 (qi 95 453), qe P "__init__" 461 (qr 220), qe P "sort_name" 469 (qr 227), qe P "declare_sort" 477 (qr 234), qe P "width_of" 485 (qr 241), qe P "is_number_sort" 493 (qr 248), qe P "is_free_sort" 501 (qr 255), qe P "declare_fun" 511 (qr 262), qe P "fresh_fun" 521 (qr 269), qe P "fresh_const" 530 (qr 276), qe P "fun_name" 538 (qr 283), qe P "fun_arg_sorts" 546 (qr 290), qe P "fun_result" 554 (qr 297), qe P "fun_count" 561 (qr 304), qe P "op" 569 (qr 311), qe P "args" 577 (qr 318), qe P "sort" 585 (qr 325), qe P "data" 593 (qr 332), qe P "width" 601 (qr 339), qe P "size" 608 (qr 346), qe P "make" 621 (qr 353), qe P "find_made" 632 (qr 360), qe P "is_value" 640 (qr 367), qe P "want" 650 (qr 374), qe P "want_all" 661 (qr 381), qe P "true_term" 668 (qr 388), qe P "false_term" 675 (qr 395), qe P "bool_term" 683 (qr 402), qe P "parts" 691 (qr 409), qe P "parts_of_all" 699 (qr 416), qe P "__static_attributes__" 713 (qr 417)] 33
noncomputable def q6_210 : Obj := qtup []
noncomputable def q6_211 : Obj := { cls := .none, data := Data.fields #[qi 97 0, qi 4 0, qr 219, qi 112 0, qi 4 0, qr 226, qi 115 0, qi 4 0, qr 233, qi 118 0, qi 4 0, qr 240, qi 121 0, qi 4 0, qr 247, qi 124 0, qi 4 0, qr 254, qi 127 0, qi 4 0, qr 261, qi 133 0, qi 4 0, qr 268, qi 136 0, qi 4 0, qr 275, qi 139 0, qi 4 0, qr 282, qi 142 0, qi 4 0, qr 289, qi 145 0, qi 4 0, qr 296, qi 148 0, qi 4 0, qr 303, qi 151 0, qi 4 0, qr 310, qi 154 0, qi 4 0, qr 317, qi 157 0, qi 4 0, qr 324, qi 160 0, qi 4 0, qr 331, qi 163 0, qi 4 0, qr 338, qi 166 0, qi 4 0, qr 345, qi 169 0, qi 4 0, qr 352, qi 181 0, qi 4 0, qr 359, qi 184 0, qi 4 0, qr 366, qi 187 0, qi 4 0, qr 373, qi 191 0, qi 4 0, qr 380, qi 195 0, qi 4 0, qr 387, qi 198 0, qi 4 0, qr 394, qi 201 0, qi 4 0, qr 401, qi 204 0, qi 4 0, qr 408, qi 207 0, qi 4 0, qr 415] }
noncomputable def q6_212 : Obj := qcode [qs "Bank" 445, qs "Bank" 446, qs "/claim/cut.py" 447, qi 95 0, qi 0 0, qi 0 0, qi 0 0, qi 0 0, qr 210, .bool false, qi 181 0, qr 211, .none, .none, .none, .none, qi 448 0, qi 95 0, qs "/claim/cut.py" 449]
noncomputable def q6_213 : Obj := { cls := qy "frame", slots := #[some (qr 212), some (qr 3), some (qr 209), none, some (qs "minismt.terms" 337), none, some (qr 0)] }
noncomputable def q6_214 : Obj := qtup []
noncomputable def q6_215 : Obj := { cls := .none, data := Data.fields #[] }
noncomputable def q6_216 : Obj := qtup [qs "self" 458]
noncomputable def q6_217 : Obj := qtup []
noncomputable def q6_218 : Obj := qf0 (mth 28 0) "Bank.__init__"
noncomputable def q6_219 : Obj := qcode [qs "__init__" 455, qs "Bank.__init__" 456, qs "/claim/cut.py" 457, qi 97 0, qi 1 0, qi 0 0, qi 0 0, qi 3 0, qr 214, .bool true, qi 181 0, qr 215, .none, qr 216, qr 217, qr 218, qi 459 0, qi 97 0, qs "/claim/cut.py" 460]
noncomputable def q6_220 : Obj := qfn (mth 28 0) "Bank.__init__" [] .none (qs "minismt.terms" 337) (qr 219) .none
noncomputable def q6_221 : Obj := qtup []
noncomputable def q6_222 : Obj := { cls := .none, data := Data.fields #[] }
noncomputable def q6_223 : Obj := qtup [qs "self" 465, qs "s" 466]
noncomputable def q6_224 : Obj := qtup []
noncomputable def q6_225 : Obj := qf0 (mth 28 1) "Bank.sort_name"
noncomputable def q6_226 : Obj := qcode [qs "sort_name" 462, qs "Bank.sort_name" 463, qs "/claim/cut.py" 464, qi 112 0, qi 2 0, qi 0 0, qi 0 0, qi 3 0, qr 221, .bool true, qi 181 0, qr 222, .none, qr 223, qr 224, qr 225, qi 467 0, qi 112 0, qs "/claim/cut.py" 468]
noncomputable def q6_227 : Obj := qfn (mth 28 1) "Bank.sort_name" [] .none (qs "minismt.terms" 337) (qr 226) .none
noncomputable def q6_228 : Obj := qtup []
noncomputable def q6_229 : Obj := { cls := .none, data := Data.fields #[] }
noncomputable def q6_230 : Obj := qtup [qs "self" 473, qs "name" 474]
noncomputable def q6_231 : Obj := qtup []
noncomputable def q6_232 : Obj := qf0 (mth 28 2) "Bank.declare_sort"
noncomputable def q6_233 : Obj := qcode [qs "declare_sort" 470, qs "Bank.declare_sort" 471, qs "/claim/cut.py" 472, qi 115 0, qi 2 0, qi 0 0, qi 0 0, qi 3 0, qr 228, .bool true, qi 181 0, qr 229, .none, qr 230, qr 231, qr 232, qi 475 0, qi 115 0, qs "/claim/cut.py" 476]
noncomputable def q6_234 : Obj := qfn (mth 28 2) "Bank.declare_sort" [] .none (qs "minismt.terms" 337) (qr 233) .none
noncomputable def q6_235 : Obj := qtup []
noncomputable def q6_236 : Obj := { cls := .none, data := Data.fields #[] }
noncomputable def q6_237 : Obj := qtup [qs "self" 481, qs "s" 482]
noncomputable def q6_238 : Obj := qtup []
noncomputable def q6_239 : Obj := qf0 (mth 28 3) "Bank.width_of"
noncomputable def q6_240 : Obj := qcode [qs "width_of" 478, qs "Bank.width_of" 479, qs "/claim/cut.py" 480, qi 118 0, qi 2 0, qi 0 0, qi 0 0, qi 3 0, qr 235, .bool true, qi 181 0, qr 236, .none, qr 237, qr 238, qr 239, qi 483 0, qi 118 0, qs "/claim/cut.py" 484]
noncomputable def q6_241 : Obj := qfn (mth 28 3) "Bank.width_of" [] .none (qs "minismt.terms" 337) (qr 240) .none
noncomputable def q6_242 : Obj := qtup []
noncomputable def q6_243 : Obj := { cls := .none, data := Data.fields #[] }
noncomputable def q6_244 : Obj := qtup [qs "self" 489, qs "s" 490]
noncomputable def q6_245 : Obj := qtup []
noncomputable def q6_246 : Obj := qf0 (mth 28 4) "Bank.is_number_sort"
noncomputable def q6_247 : Obj := qcode [qs "is_number_sort" 486, qs "Bank.is_number_sort" 487, qs "/claim/cut.py" 488, qi 121 0, qi 2 0, qi 0 0, qi 0 0, qi 3 0, qr 242, .bool true, qi 181 0, qr 243, .none, qr 244, qr 245, qr 246, qi 491 0, qi 121 0, qs "/claim/cut.py" 492]
noncomputable def q6_248 : Obj := qfn (mth 28 4) "Bank.is_number_sort" [] .none (qs "minismt.terms" 337) (qr 247) .none
noncomputable def q6_249 : Obj := qtup []
noncomputable def q6_250 : Obj := { cls := .none, data := Data.fields #[] }
noncomputable def q6_251 : Obj := qtup [qs "self" 497, qs "s" 498]
noncomputable def q6_252 : Obj := qtup []
noncomputable def q6_253 : Obj := qf0 (mth 28 5) "Bank.is_free_sort"
noncomputable def q6_254 : Obj := qcode [qs "is_free_sort" 494, qs "Bank.is_free_sort" 495, qs "/claim/cut.py" 496, qi 124 0, qi 2 0, qi 0 0, qi 0 0, qi 3 0, qr 249, .bool true, qi 181 0, qr 250, .none, qr 251, qr 252, qr 253, qi 499 0, qi 124 0, qs "/claim/cut.py" 500]
noncomputable def q6_255 : Obj := qfn (mth 28 5) "Bank.is_free_sort" [] .none (qs "minismt.terms" 337) (qr 254) .none
noncomputable def q6_256 : Obj := qtup []
noncomputable def q6_257 : Obj := { cls := .none, data := Data.fields #[] }
noncomputable def q6_258 : Obj := qtup [qs "self" 505, qs "name" 506, qs "arg_sorts" 507, qs "result" 508]
noncomputable def q6_259 : Obj := qtup []
noncomputable def q6_260 : Obj := qf0 (mth 28 6) "Bank.declare_fun"
noncomputable def q6_261 : Obj := qcode [qs "declare_fun" 502, qs "Bank.declare_fun" 503, qs "/claim/cut.py" 504, qi 127 0, qi 4 0, qi 0 0, qi 0 0, qi 3 0, qr 256, .bool true, qi 181 0, qr 257, .none, qr 258, qr 259, qr 260, qi 509 0, qi 127 0, qs "/claim/cut.py" 510]
noncomputable def q6_262 : Obj := qfn (mth 28 6) "Bank.declare_fun" [] .none (qs "minismt.terms" 337) (qr 261) .none
noncomputable def q6_263 : Obj := qtup []
noncomputable def q6_264 : Obj := { cls := .none, data := Data.fields #[] }
noncomputable def q6_265 : Obj := qtup [qs "self" 515, qs "stem" 516, qs "arg_sorts" 517, qs "result" 518]
noncomputable def q6_266 : Obj := qtup []
noncomputable def q6_267 : Obj := qf0 (mth 28 7) "Bank.fresh_fun"
noncomputable def q6_268 : Obj := qcode [qs "fresh_fun" 512, qs "Bank.fresh_fun" 513, qs "/claim/cut.py" 514, qi 133 0, qi 4 0, qi 0 0, qi 0 0, qi 3 0, qr 263, .bool true, qi 181 0, qr 264, .none, qr 265, qr 266, qr 267, qi 519 0, qi 133 0, qs "/claim/cut.py" 520]
noncomputable def q6_269 : Obj := qfn (mth 28 7) "Bank.fresh_fun" [] .none (qs "minismt.terms" 337) (qr 268) .none
noncomputable def q6_270 : Obj := qtup []
noncomputable def q6_271 : Obj := { cls := .none, data := Data.fields #[] }
noncomputable def q6_272 : Obj := qtup [qs "self" 525, qs "name" 526, qs "s" 527]
noncomputable def q6_273 : Obj := qtup []
noncomputable def q6_274 : Obj := qf0 (mth 28 8) "Bank.fresh_const"
noncomputable def q6_275 : Obj := qcode [qs "fresh_const" 522, qs "Bank.fresh_const" 523, qs "/claim/cut.py" 524, qi 136 0, qi 3 0, qi 0 0, qi 0 0, qi 3 0, qr 270, .bool true, qi 181 0, qr 271, .none, qr 272, qr 273, qr 274, qi 528 0, qi 136 0, qs "/claim/cut.py" 529]
noncomputable def q6_276 : Obj := qfn (mth 28 8) "Bank.fresh_const" [] .none (qs "minismt.terms" 337) (qr 275) .none
noncomputable def q6_277 : Obj := qtup []
noncomputable def q6_278 : Obj := { cls := .none, data := Data.fields #[] }
noncomputable def q6_279 : Obj := qtup [qs "self" 534, qs "f" 535]
noncomputable def q6_280 : Obj := qtup []
noncomputable def q6_281 : Obj := qf0 (mth 28 9) "Bank.fun_name"
noncomputable def q6_282 : Obj := qcode [qs "fun_name" 531, qs "Bank.fun_name" 532, qs "/claim/cut.py" 533, qi 139 0, qi 2 0, qi 0 0, qi 0 0, qi 3 0, qr 277, .bool true, qi 181 0, qr 278, .none, qr 279, qr 280, qr 281, qi 536 0, qi 139 0, qs "/claim/cut.py" 537]
noncomputable def q6_283 : Obj := qfn (mth 28 9) "Bank.fun_name" [] .none (qs "minismt.terms" 337) (qr 282) .none
noncomputable def q6_284 : Obj := qtup []
noncomputable def q6_285 : Obj := { cls := .none, data := Data.fields #[] }
noncomputable def q6_286 : Obj := qtup [qs "self" 542, qs "f" 543]
noncomputable def q6_287 : Obj := qtup []
noncomputable def q6_288 : Obj := qf0 (mth 28 10) "Bank.fun_arg_sorts"
noncomputable def q6_289 : Obj := qcode [qs "fun_arg_sorts" 539, qs "Bank.fun_arg_sorts" 540, qs "/claim/cut.py" 541, qi 142 0, qi 2 0, qi 0 0, qi 0 0, qi 3 0, qr 284, .bool true, qi 181 0, qr 285, .none, qr 286, qr 287, qr 288, qi 544 0, qi 142 0, qs "/claim/cut.py" 545]
noncomputable def q6_290 : Obj := qfn (mth 28 10) "Bank.fun_arg_sorts" [] .none (qs "minismt.terms" 337) (qr 289) .none
noncomputable def q6_291 : Obj := qtup []
noncomputable def q6_292 : Obj := { cls := .none, data := Data.fields #[] }
noncomputable def q6_293 : Obj := qtup [qs "self" 550, qs "f" 551]
noncomputable def q6_294 : Obj := qtup []
noncomputable def q6_295 : Obj := qf0 (mth 28 11) "Bank.fun_result"
noncomputable def q6_296 : Obj := qcode [qs "fun_result" 547, qs "Bank.fun_result" 548, qs "/claim/cut.py" 549, qi 145 0, qi 2 0, qi 0 0, qi 0 0, qi 3 0, qr 291, .bool true, qi 181 0, qr 292, .none, qr 293, qr 294, qr 295, qi 552 0, qi 145 0, qs "/claim/cut.py" 553]
noncomputable def q6_297 : Obj := qfn (mth 28 11) "Bank.fun_result" [] .none (qs "minismt.terms" 337) (qr 296) .none
noncomputable def q6_298 : Obj := qtup []
noncomputable def q6_299 : Obj := { cls := .none, data := Data.fields #[] }
noncomputable def q6_300 : Obj := qtup [qs "self" 558]
noncomputable def q6_301 : Obj := qtup []
noncomputable def q6_302 : Obj := qf0 (mth 28 12) "Bank.fun_count"
noncomputable def q6_303 : Obj := qcode [qs "fun_count" 555, qs "Bank.fun_count" 556, qs "/claim/cut.py" 557, qi 148 0, qi 1 0, qi 0 0, qi 0 0, qi 3 0, qr 298, .bool true, qi 181 0, qr 299, .none, qr 300, qr 301, qr 302, qi 559 0, qi 148 0, qs "/claim/cut.py" 560]
noncomputable def q6_304 : Obj := qfn (mth 28 12) "Bank.fun_count" [] .none (qs "minismt.terms" 337) (qr 303) .none
noncomputable def q6_305 : Obj := qtup []
noncomputable def q6_306 : Obj := { cls := .none, data := Data.fields #[] }
noncomputable def q6_307 : Obj := qtup [qs "self" 565, qs "t" 566]
noncomputable def q6_308 : Obj := qtup []
noncomputable def q6_309 : Obj := qf0 (mth 28 13) "Bank.op"
noncomputable def q6_310 : Obj := qcode [qs "op" 562, qs "Bank.op" 563, qs "/claim/cut.py" 564, qi 151 0, qi 2 0, qi 0 0, qi 0 0, qi 3 0, qr 305, .bool true, qi 181 0, qr 306, .none, qr 307, qr 308, qr 309, qi 567 0, qi 151 0, qs "/claim/cut.py" 568]
noncomputable def q6_311 : Obj := qfn (mth 28 13) "Bank.op" [] .none (qs "minismt.terms" 337) (qr 310) .none
noncomputable def q6_312 : Obj := qtup []
noncomputable def q6_313 : Obj := { cls := .none, data := Data.fields #[] }
noncomputable def q6_314 : Obj := qtup [qs "self" 573, qs "t" 574]
noncomputable def q6_315 : Obj := qtup []
noncomputable def q6_316 : Obj := qf0 (mth 28 14) "Bank.args"
noncomputable def q6_317 : Obj := qcode [qs "args" 570, qs "Bank.args" 571, qs "/claim/cut.py" 572, qi 154 0, qi 2 0, qi 0 0, qi 0 0, qi 3 0, qr 312, .bool true, qi 181 0, qr 313, .none, qr 314, qr 315, qr 316, qi 575 0, qi 154 0, qs "/claim/cut.py" 576]
noncomputable def q6_318 : Obj := qfn (mth 28 14) "Bank.args" [] .none (qs "minismt.terms" 337) (qr 317) .none
noncomputable def q6_319 : Obj := qtup []
noncomputable def q6_320 : Obj := { cls := .none, data := Data.fields #[] }
noncomputable def q6_321 : Obj := qtup [qs "self" 581, qs "t" 582]
noncomputable def q6_322 : Obj := qtup []
noncomputable def q6_323 : Obj := qf0 (mth 28 15) "Bank.sort"
noncomputable def q6_324 : Obj := qcode [qs "sort" 578, qs "Bank.sort" 579, qs "/claim/cut.py" 580, qi 157 0, qi 2 0, qi 0 0, qi 0 0, qi 3 0, qr 319, .bool true, qi 181 0, qr 320, .none, qr 321, qr 322, qr 323, qi 583 0, qi 157 0, qs "/claim/cut.py" 584]
noncomputable def q6_325 : Obj := qfn (mth 28 15) "Bank.sort" [] .none (qs "minismt.terms" 337) (qr 324) .none
noncomputable def q6_326 : Obj := qtup []
noncomputable def q6_327 : Obj := { cls := .none, data := Data.fields #[] }
noncomputable def q6_328 : Obj := qtup [qs "self" 589, qs "t" 590]
noncomputable def q6_329 : Obj := qtup []
noncomputable def q6_330 : Obj := qf0 (mth 28 16) "Bank.data"
noncomputable def q6_331 : Obj := qcode [qs "data" 586, qs "Bank.data" 587, qs "/claim/cut.py" 588, qi 160 0, qi 2 0, qi 0 0, qi 0 0, qi 3 0, qr 326, .bool true, qi 181 0, qr 327, .none, qr 328, qr 329, qr 330, qi 591 0, qi 160 0, qs "/claim/cut.py" 592]
noncomputable def q6_332 : Obj := qfn (mth 28 16) "Bank.data" [] .none (qs "minismt.terms" 337) (qr 331) .none
noncomputable def q6_333 : Obj := qtup []
noncomputable def q6_334 : Obj := { cls := .none, data := Data.fields #[] }
noncomputable def q6_335 : Obj := qtup [qs "self" 597, qs "t" 598]
noncomputable def q6_336 : Obj := qtup []
noncomputable def q6_337 : Obj := qf0 (mth 28 17) "Bank.width"
noncomputable def q6_338 : Obj := qcode [qs "width" 594, qs "Bank.width" 595, qs "/claim/cut.py" 596, qi 163 0, qi 2 0, qi 0 0, qi 0 0, qi 3 0, qr 333, .bool true, qi 181 0, qr 334, .none, qr 335, qr 336, qr 337, qi 599 0, qi 163 0, qs "/claim/cut.py" 600]
noncomputable def q6_339 : Obj := qfn (mth 28 17) "Bank.width" [] .none (qs "minismt.terms" 337) (qr 338) .none
noncomputable def q6_340 : Obj := qtup []
noncomputable def q6_341 : Obj := { cls := .none, data := Data.fields #[] }
noncomputable def q6_342 : Obj := qtup [qs "self" 605]
noncomputable def q6_343 : Obj := qtup []
noncomputable def q6_344 : Obj := qf0 (mth 28 18) "Bank.size"
noncomputable def q6_345 : Obj := qcode [qs "size" 602, qs "Bank.size" 603, qs "/claim/cut.py" 604, qi 166 0, qi 1 0, qi 0 0, qi 0 0, qi 3 0, qr 340, .bool true, qi 181 0, qr 341, .none, qr 342, qr 343, qr 344, qi 606 0, qi 166 0, qs "/claim/cut.py" 607]
noncomputable def q6_346 : Obj := qfn (mth 28 18) "Bank.size" [] .none (qs "minismt.terms" 337) (qr 345) .none
noncomputable def q6_347 : Obj := qtup []
noncomputable def q6_348 : Obj := { cls := .none, data := Data.fields #[] }
noncomputable def q6_349 : Obj := qtup [qs "self" 612, qs "op" 613, qs "args" 614, qs "sort" 615, qs "data" 616, qs "key" 617, qs "found" 618]
noncomputable def q6_350 : Obj := qtup []
noncomputable def q6_351 : Obj := qf0 (mth 28 19) "Bank.make"
noncomputable def q6_352 : Obj := qcode [qs "make" 609, qs "Bank.make" 610, qs "/claim/cut.py" 611, qi 169 0, qi 5 0, qi 0 0, qi 0 0, qi 3 0, qr 347, .bool true, qi 181 0, qr 348, .none, qr 349, qr 350, qr 351, qi 619 0, qi 169 0, qs "/claim/cut.py" 620]
noncomputable def q6_353 : Obj := qfn (mth 28 19) "Bank.make" [] .none (qs "minismt.terms" 337) (qr 352) .none
noncomputable def q6_354 : Obj := qtup []
noncomputable def q6_355 : Obj := { cls := .none, data := Data.fields #[] }
noncomputable def q6_356 : Obj := qtup [qs "self" 625, qs "op" 626, qs "args" 627, qs "sort" 628, qs "data" 629]
noncomputable def q6_357 : Obj := qtup []
noncomputable def q6_358 : Obj := qf0 (mth 28 20) "Bank.find_made"
noncomputable def q6_359 : Obj := qcode [qs "find_made" 622, qs "Bank.find_made" 623, qs "/claim/cut.py" 624, qi 181 0, qi 5 0, qi 0 0, qi 0 0, qi 3 0, qr 354, .bool true, qi 181 0, qr 355, .none, qr 356, qr 357, qr 358, qi 630 0, qi 181 0, qs "/claim/cut.py" 631]
noncomputable def q6_360 : Obj := qfn (mth 28 20) "Bank.find_made" [] .none (qs "minismt.terms" 337) (qr 359) .none
noncomputable def q6_361 : Obj := qtup []
noncomputable def q6_362 : Obj := { cls := .none, data := Data.fields #[] }
noncomputable def q6_363 : Obj := qtup [qs "self" 636, qs "t" 637]
noncomputable def q6_364 : Obj := qtup []
noncomputable def q6_365 : Obj := qf0 (mth 28 21) "Bank.is_value"
noncomputable def q6_366 : Obj := qcode [qs "is_value" 633, qs "Bank.is_value" 634, qs "/claim/cut.py" 635, qi 184 0, qi 2 0, qi 0 0, qi 0 0, qi 3 0, qr 361, .bool true, qi 181 0, qr 362, .none, qr 363, qr 364, qr 365, qi 638 0, qi 184 0, qs "/claim/cut.py" 639]
noncomputable def q6_367 : Obj := qfn (mth 28 21) "Bank.is_value" [] .none (qs "minismt.terms" 337) (qr 366) .none
noncomputable def q6_368 : Obj := qtup []
noncomputable def q6_369 : Obj := { cls := .none, data := Data.fields #[] }
noncomputable def q6_370 : Obj := qtup [qs "self" 644, qs "t" 645, qs "s" 646, qs "where" 647]
noncomputable def q6_371 : Obj := qtup []
noncomputable def q6_372 : Obj := qf0 (mth 28 22) "Bank.want"
noncomputable def q6_373 : Obj := qcode [qs "want" 641, qs "Bank.want" 642, qs "/claim/cut.py" 643, qi 187 0, qi 4 0, qi 0 0, qi 0 0, qi 3 0, qr 368, .bool true, qi 181 0, qr 369, .none, qr 370, qr 371, qr 372, qi 648 0, qi 187 0, qs "/claim/cut.py" 649]
noncomputable def q6_374 : Obj := qfn (mth 28 22) "Bank.want" [] .none (qs "minismt.terms" 337) (qr 373) .none
noncomputable def q6_375 : Obj := qtup []
noncomputable def q6_376 : Obj := { cls := .none, data := Data.fields #[] }
noncomputable def q6_377 : Obj := qtup [qs "self" 654, qs "some" 655, qs "s" 656, qs "where" 657, qs "t" 658]
noncomputable def q6_378 : Obj := qtup []
noncomputable def q6_379 : Obj := qf0 (mth 28 23) "Bank.want_all"
noncomputable def q6_380 : Obj := qcode [qs "want_all" 651, qs "Bank.want_all" 652, qs "/claim/cut.py" 653, qi 191 0, qi 4 0, qi 0 0, qi 0 0, qi 3 0, qr 375, .bool true, qi 181 0, qr 376, .none, qr 377, qr 378, qr 379, qi 659 0, qi 191 0, qs "/claim/cut.py" 660]
noncomputable def q6_381 : Obj := qfn (mth 28 23) "Bank.want_all" [] .none (qs "minismt.terms" 337) (qr 380) .none
noncomputable def q6_382 : Obj := qtup []
noncomputable def q6_383 : Obj := { cls := .none, data := Data.fields #[] }
noncomputable def q6_384 : Obj := qtup [qs "self" 665]
noncomputable def q6_385 : Obj := qtup []
noncomputable def q6_386 : Obj := qf0 (mth 28 24) "Bank.true_term"
noncomputable def q6_387 : Obj := qcode [qs "true_term" 662, qs "Bank.true_term" 663, qs "/claim/cut.py" 664, qi 195 0, qi 1 0, qi 0 0, qi 0 0, qi 3 0, qr 382, .bool true, qi 181 0, qr 383, .none, qr 384, qr 385, qr 386, qi 666 0, qi 195 0, qs "/claim/cut.py" 667]
noncomputable def q6_388 : Obj := qfn (mth 28 24) "Bank.true_term" [] .none (qs "minismt.terms" 337) (qr 387) .none
noncomputable def q6_389 : Obj := qtup []
noncomputable def q6_390 : Obj := { cls := .none, data := Data.fields #[] }
noncomputable def q6_391 : Obj := qtup [qs "self" 672]
noncomputable def q6_392 : Obj := qtup []
noncomputable def q6_393 : Obj := qf0 (mth 28 25) "Bank.false_term"
noncomputable def q6_394 : Obj := qcode [qs "false_term" 669, qs "Bank.false_term" 670, qs "/claim/cut.py" 671, qi 198 0, qi 1 0, qi 0 0, qi 0 0, qi 3 0, qr 389, .bool true, qi 181 0, qr 390, .none, qr 391, qr 392, qr 393, qi 673 0, qi 198 0, qs "/claim/cut.py" 674]
noncomputable def q6_395 : Obj := qfn (mth 28 25) "Bank.false_term" [] .none (qs "minismt.terms" 337) (qr 394) .none
noncomputable def q6_396 : Obj := qtup []
noncomputable def q6_397 : Obj := { cls := .none, data := Data.fields #[] }
noncomputable def q6_398 : Obj := qtup [qs "self" 679, qs "holds" 680]
noncomputable def q6_399 : Obj := qtup []
noncomputable def q6_400 : Obj := qf0 (mth 28 26) "Bank.bool_term"
noncomputable def q6_401 : Obj := qcode [qs "bool_term" 676, qs "Bank.bool_term" 677, qs "/claim/cut.py" 678, qi 201 0, qi 2 0, qi 0 0, qi 0 0, qi 3 0, qr 396, .bool true, qi 181 0, qr 397, .none, qr 398, qr 399, qr 400, qi 681 0, qi 201 0, qs "/claim/cut.py" 682]
noncomputable def q6_402 : Obj := qfn (mth 28 26) "Bank.bool_term" [] .none (qs "minismt.terms" 337) (qr 401) .none
noncomputable def q6_403 : Obj := qtup []
noncomputable def q6_404 : Obj := { cls := .none, data := Data.fields #[] }
noncomputable def q6_405 : Obj := qtup [qs "self" 687, qs "t" 688]
noncomputable def q6_406 : Obj := qtup []
noncomputable def q6_407 : Obj := qf0 (mth 28 27) "Bank.parts"
noncomputable def q6_408 : Obj := qcode [qs "parts" 684, qs "Bank.parts" 685, qs "/claim/cut.py" 686, qi 204 0, qi 2 0, qi 0 0, qi 0 0, qi 3 0, qr 403, .bool true, qi 181 0, qr 404, .none, qr 405, qr 406, qr 407, qi 689 0, qi 204 0, qs "/claim/cut.py" 690]
noncomputable def q6_409 : Obj := qfn (mth 28 27) "Bank.parts" [] .none (qs "minismt.terms" 337) (qr 408) .none
noncomputable def q6_410 : Obj := qtup []
noncomputable def q6_411 : Obj := { cls := .none, data := Data.fields #[] }
noncomputable def q6_412 : Obj := qtup [qs "self" 695, qs "some" 696]
noncomputable def q6_413 : Obj := qtup []
noncomputable def q6_414 : Obj := qf0 (mth 28 28) "Bank.parts_of_all"
noncomputable def q6_415 : Obj := qcode [qs "parts_of_all" 692, qs "Bank.parts_of_all" 693, qs "/claim/cut.py" 694, qi 207 0, qi 2 0, qi 0 0, qi 0 0, qi 3 0, qr 410, .bool true, qi 181 0, qr 411, .none, qr 412, qr 413, qr 414, qi 697 0, qi 207 0, qs "/claim/cut.py" 698]
noncomputable def q6_416 : Obj := qfn (mth 28 28) "Bank.parts_of_all" [] .none (qs "minismt.terms" 337) (qr 415) .none
noncomputable def q6_417 : Obj := qtup [qs "false_number" 700, qs "fresh_count" 701, qs "fun_args" 702, qs "fun_names" 703, qs "fun_results" 704, qs "numbers" 705, qs "sort_names" 706, qs "sort_widths" 707, qs "term_args" 708, qs "term_datas" 709, qs "term_ops" 710, qs "term_sorts" 711, qs "true_number" 712]
noncomputable def q6_418 (P : Params) : Obj := qdict (qy "dict") [qe P "__module__" 450 (qs "minismt.terms" 337), qe P "__firstlineno__" 454 (qi 95 453), qe P "__init__" 461 (qr 220), qe P "sort_name" 469 (qr 227), qe P "declare_sort" 477 (qr 234), qe P "width_of" 485 (qr 241), qe P "is_number_sort" 493 (qr 248), qe P "is_free_sort" 501 (qr 255), qe P "declare_fun" 511 (qr 262), qe P "fresh_fun" 521 (qr 269), qe P "fresh_const" 530 (qr 276), qe P "fun_name" 538 (qr 283), qe P "fun_arg_sorts" 546 (qr 290), qe P "fun_result" 554 (qr 297), qe P "fun_count" 561 (qr 304), qe P "op" 569 (qr 311), qe P "args" 577 (qr 318), qe P "sort" 585 (qr 325), qe P "data" 593 (qr 332), qe P "width" 601 (qr 339), qe P "size" 608 (qr 346), qe P "make" 621 (qr 353), qe P "find_made" 632 (qr 360), qe P "is_value" 640 (qr 367), qe P "want" 650 (qr 374), qe P "want_all" 661 (qr 381), qe P "true_term" 668 (qr 388), qe P "false_term" 675 (qr 395), qe P "bool_term" 683 (qr 402), qe P "parts" 691 (qr 409), qe P "parts_of_all" 699 (qr 416), qe P "__static_attributes__" 713 (qr 417), qe P "__dict__" 715 (qr 420), qe P "__weakref__" 717 (qr 421), qe P "__doc__" 718 .none] 4
noncomputable def q6_419 : Obj := { cls := qy "type", data := Data.cls { name := qS "Bank", bases := [qy "object"], mro := [qr 419, qy "object"], ns := 418, qualname := qS "Bank" }, slots := #[none, none, some (qs "Bank" 443), some (qs "Bank" 451), some (qb "object.__new__"), some (.bool true)] }
noncomputable def q6_420 : Obj := { cls := qy "getset_descriptor", data := Data.fields #[qs "__dict__" 714, qr 419, qb "function.__dict__", qb "function.__dict__#set"] }
noncomputable def q6_421 : Obj := { cls := qy "getset_descriptor", data := Data.fields #[qs "__weakref__" 716, qr 419, qb "ExceptionGroup.__weakref__", .none] }
noncomputable def q6_422 : Obj := { cls := qy "super", data := Data.fields #[qr 419, qr 419, qr 419] }
noncomputable def q6_423 : Obj := { cls := qy "builtin_function_or_method", data := Data.fields #[qb "object.__init_subclass__", qr 419] }
noncomputable def qt6 (P : Params) : BT := qins (qt5 P) [(3, q6_3 P), (12, q6_12), (207, q6_207), (208, q6_208), (209, q6_209 P), (210, q6_210), (211, q6_211), (212, q6_212), (213, q6_213), (214, q6_214), (215, q6_215), (216, q6_216), (217, q6_217), (218, q6_218), (219, q6_219), (220, q6_220), (221, q6_221), (222, q6_222), (223, q6_223), (224, q6_224), (225, q6_225), (226, q6_226), (227, q6_227), (228, q6_228), (229, q6_229), (230, q6_230), (231, q6_231), (232, q6_232), (233, q6_233), (234, q6_234), (235, q6_235), (236, q6_236), (237, q6_237), (238, q6_238), (239, q6_239), (240, q6_240), (241, q6_241), (242, q6_242), (243, q6_243), (244, q6_244), (245, q6_245), (246, q6_246), (247, q6_247), (248, q6_248), (249, q6_249), (250, q6_250), (251, q6_251), (252, q6_252), (253, q6_253), (254, q6_254), (255, q6_255), (256, q6_256), (257, q6_257), (258, q6_258), (259, q6_259), (260, q6_260), (261, q6_261), (262, q6_262), (263, q6_263), (264, q6_264), (265, q6_265), (266, q6_266), (267, q6_267), (268, q6_268), (269, q6_269), (270, q6_270), (271, q6_271), (272, q6_272), (273, q6_273), (274, q6_274), (275, q6_275), (276, q6_276), (277, q6_277), (278, q6_278), (279, q6_279), (280, q6_280), (281, q6_281), (282, q6_282), (283, q6_283), (284, q6_284), (285, q6_285), (286, q6_286), (287, q6_287), (288, q6_288), (289, q6_289), (290, q6_290), (291, q6_291), (292, q6_292), (293, q6_293), (294, q6_294), (295, q6_295), (296, q6_296), (297, q6_297), (298, q6_298), (299, q6_299), (300, q6_300), (301, q6_301), (302, q6_302), (303, q6_303), (304, q6_304), (305, q6_305), (306, q6_306), (307, q6_307), (308, q6_308), (309, q6_309), (310, q6_310), (311, q6_311), (312, q6_312), (313, q6_313), (314, q6_314), (315, q6_315), (316, q6_316), (317, q6_317), (318, q6_318), (319, q6_319), (320, q6_320), (321, q6_321), (322, q6_322), (323, q6_323), (324, q6_324), (325, q6_325), (326, q6_326), (327, q6_327), (328, q6_328), (329, q6_329), (330, q6_330), (331, q6_331), (332, q6_332), (333, q6_333), (334, q6_334), (335, q6_335), (336, q6_336), (337, q6_337), (338, q6_338), (339, q6_339), (340, q6_340), (341, q6_341), (342, q6_342), (343, q6_343), (344, q6_344), (345, q6_345), (346, q6_346), (347, q6_347), (348, q6_348), (349, q6_349), (350, q6_350), (351, q6_351), (352, q6_352), (353, q6_353), (354, q6_354), (355, q6_355), (356, q6_356), (357, q6_357), (358, q6_358), (359, q6_359), (360, q6_360), (361, q6_361), (362, q6_362), (363, q6_363), (364, q6_364), (365, q6_365), (366, q6_366), (367, q6_367), (368, q6_368), (369, q6_369), (370, q6_370), (371, q6_371), (372, q6_372), (373, q6_373), (374, q6_374), (375, q6_375), (376, q6_376), (377, q6_377), (378, q6_378), (379, q6_379), (380, q6_380), (381, q6_381), (382, q6_382), (383, q6_383), (384, q6_384), (385, q6_385), (386, q6_386), (387, q6_387), (388, q6_388), (389, q6_389), (390, q6_390), (391, q6_391), (392, q6_392), (393, q6_393), (394, q6_394), (395, q6_395), (396, q6_396), (397, q6_397), (398, q6_398), (399, q6_399), (400, q6_400), (401, q6_401), (402, q6_402), (403, q6_403), (404, q6_404), (405, q6_405), (406, q6_406), (407, q6_407), (408, q6_408), (409, q6_409), (410, q6_410), (411, q6_411), (412, q6_412), (413, q6_413), (414, q6_414), (415, q6_415), (416, q6_416), (417, q6_417), (418, q6_418 P), (419, q6_419), (420, q6_420), (421, q6_421), (422, q6_422), (423, q6_423)]
theorem qp6 (w : World) : (fun os => segRunT treeTable prg w 11 (some (.ref 6)) 1 1144 (qsh (qt5 w.params) 207 443 os) (piecesOf (qcut 28 1) qenv qB ⟨94, 0, 94, 9⟩ qF)) = fun os => some (.next, qsh (qt6 w.params) 424 721 os, qB, ⟨95, 0, 208, 17⟩) := by
  rw [PySem.W.Fast.te10110043849684766642, PySem.W.Fast.te14364793385576792824]; kernel_rfl
noncomputable def q7_3 (P : Params) : Obj := qdict (qy "dict") [qe P "__name__" 165 (qs "minismt.terms" 337), qe P "__doc__" 166 .none, qe P "__package__" 167 .none, qe P "__loader__" 168 (qb "__main__.__loader__#opaque"), qe P "__spec__" 169 .none, qe P "__annotations__" 170 (qr 6), qe P "__builtins__" 171 (qr 4), qe P "__file__" 173 (qs "/claim/cut.py" 172), qe P "__cached__" 174 .none, qe P "_wall" 193 (qr 21), qe P "SmtError" 233 (qr 47), qe P "SortFault" 256 (qr 67), qe P "LimitFault" 279 (qr 86), qe P "ModelFault" 302 (qr 105), qe P "gcd_of" 312 (qr 114), qe P "ratio" 321 (qr 121), qe P "mul" 329 (qr 128), qe P "is_whole" 336 (qr 135), qe P "mask_of" 345 (qr 142), qe P "signed_of" 353 (qr 149), qe P "one_value" 362 (qr 156), qe P "divided_value" 371 (qr 163), qe P "rest_value" 379 (qr 170), qe P "shifted_value" 389 (qr 177), qe P "two_value" 399 (qr 184), qe P "extract_value" 408 (qr 191), qe P "sign_extended" 417 (qr 198), qe P "bit_value" 425 (qr 205), qe P "BOOL" 427 (qi 0 426), qe P "INT" 429 (qi 1 428), qe P "REAL" 431 (qi 2 430), qe P "WIDEST" 433 (qi 4096 432), qe P "MOST_BITS" 437 (qi 65536 436), qe P "VALUE_OPS" 442 (qr 206), qe P "Bank" 720 (qr 419), qe P "BoolBank" 853 (qr 524)] 36
noncomputable def q7_12 : Obj := { cls := .none, data := Data.fields #[qi 1 0, qi 0 0, qr 20, qi 5 0, qi 0 0, qr 28, qi 13 0, qi 0 0, qr 56, qi 17 0, qi 0 0, qr 75, qi 21 0, qi 0 0, qr 94, qi 26 0, qi 0 0, qr 113, qi 31 0, qi 0 0, qr 120, qi 38 0, qi 0 0, qr 127, qi 42 0, qi 0 0, qr 134, qi 45 0, qi 0 0, qr 141, qi 47 0, qi 0 0, qr 148, qi 49 0, qi 0 0, qr 155, qi 55 0, qi 0 0, qr 162, qi 57 0, qi 0 0, qr 169, qi 59 0, qi 0 0, qr 176, qi 63 0, qi 0 0, qr 183, qi 83 0, qi 0 0, qr 190, qi 85 0, qi 0 0, qr 197, qi 87 0, qi 0 0, qr 204, qi 95 0, qi 0 0, qr 212, qi 209 0, qi 0 0, qr 429] }
noncomputable def q7_419 : Obj := { cls := qy "type", data := Data.cls { name := qS "Bank", bases := [qy "object"], mro := [qr 419, qy "object"], ns := 418, qualname := qS "Bank", subclasses := [qr 524] }, slots := #[none, none, some (qs "Bank" 443), some (qs "Bank" 451), some (qb "object.__new__"), some (.bool true)] }
noncomputable def q7_424 : Obj := qtup [qr 419]
noncomputable def q7_425 : Obj := { cls := qy "builtin_function_or_method", data := Data.fields #[qb "type.__prepare__", qy "type"] }
noncomputable def q7_426 (P : Params) : Obj := qdict (qy "dict") [qe P "__module__" 728 (qs "minismt.terms" 337), qe P "__qualname__" 730 (qs "BoolBank" 729), qe P "__firstlineno__" 732 (qi 209 731), qe P "not_of" 740 (qr 437), qe P "and_of" 748 (qr 444), qe P "or_of" 756 (qr 451), qe P "xor_of" 765 (qr 458), qe P "implies_of" 774 (qr 465), qe P "iff" 783 (qr 472), qe P "eq" 792 (qr 479), qe P "distinct" 800 (qr 486), qe P "ite" 810 (qr 493), qe P "app" 822 (qr 500), qe P "folded" 831 (qr 507), qe P "with_args" 840 (qr 514), qe P "replaced" 849 (qr 521), qe P "__static_attributes__" 850 (qr 522)] 17
noncomputable def q7_427 : Obj := qtup []
noncomputable def q7_428 : Obj := { cls := .none, data := Data.fields #[qi 211 0, qi 4 0, qr 436, qi 221 0, qi 4 0, qr 443, qi 227 0, qi 4 0, qr 450, qi 233 0, qi 4 0, qr 457, qi 236 0, qi 4 0, qr 464, qi 239 0, qi 4 0, qr 471, qi 243 0, qi 4 0, qr 478, qi 249 0, qi 4 0, qr 485, qi 252 0, qi 4 0, qr 492, qi 257 0, qi 4 0, qr 499, qi 265 0, qi 4 0, qr 506, qi 268 0, qi 4 0, qr 513, qi 271 0, qi 4 0, qr 520] }
noncomputable def q7_429 : Obj := qcode [qs "BoolBank" 723, qs "BoolBank" 724, qs "/claim/cut.py" 725, qi 209 0, qi 0 0, qi 0 0, qi 0 0, qi 0 0, qr 427, .bool false, qi 181 0, qr 428, .none, .none, .none, .none, qi 726 0, qi 209 0, qs "/claim/cut.py" 727]
noncomputable def q7_430 : Obj := { cls := qy "frame", slots := #[some (qr 429), some (qr 3), some (qr 426), none, some (qs "minismt.terms" 337), none, some (qr 0)] }
noncomputable def q7_431 : Obj := qtup []
noncomputable def q7_432 : Obj := { cls := .none, data := Data.fields #[] }
noncomputable def q7_433 : Obj := qtup [qs "self" 736, qs "t" 737]
noncomputable def q7_434 : Obj := qtup []
noncomputable def q7_435 : Obj := qf0 (mth 29 0) "BoolBank.not_of"
noncomputable def q7_436 : Obj := qcode [qs "not_of" 733, qs "BoolBank.not_of" 734, qs "/claim/cut.py" 735, qi 211 0, qi 2 0, qi 0 0, qi 0 0, qi 3 0, qr 431, .bool true, qi 181 0, qr 432, .none, qr 433, qr 434, qr 435, qi 738 0, qi 211 0, qs "/claim/cut.py" 739]
noncomputable def q7_437 : Obj := qfn (mth 29 0) "BoolBank.not_of" [] .none (qs "minismt.terms" 337) (qr 436) .none
noncomputable def q7_438 : Obj := qtup []
noncomputable def q7_439 : Obj := { cls := .none, data := Data.fields #[] }
noncomputable def q7_440 : Obj := qtup [qs "self" 744, qs "some" 745]
noncomputable def q7_441 : Obj := qtup []
noncomputable def q7_442 : Obj := qf0 (mth 29 1) "BoolBank.and_of"
noncomputable def q7_443 : Obj := qcode [qs "and_of" 741, qs "BoolBank.and_of" 742, qs "/claim/cut.py" 743, qi 221 0, qi 2 0, qi 0 0, qi 0 0, qi 3 0, qr 438, .bool true, qi 181 0, qr 439, .none, qr 440, qr 441, qr 442, qi 746 0, qi 221 0, qs "/claim/cut.py" 747]
noncomputable def q7_444 : Obj := qfn (mth 29 1) "BoolBank.and_of" [] .none (qs "minismt.terms" 337) (qr 443) .none
noncomputable def q7_445 : Obj := qtup []
noncomputable def q7_446 : Obj := { cls := .none, data := Data.fields #[] }
noncomputable def q7_447 : Obj := qtup [qs "self" 752, qs "some" 753]
noncomputable def q7_448 : Obj := qtup []
noncomputable def q7_449 : Obj := qf0 (mth 29 2) "BoolBank.or_of"
noncomputable def q7_450 : Obj := qcode [qs "or_of" 749, qs "BoolBank.or_of" 750, qs "/claim/cut.py" 751, qi 227 0, qi 2 0, qi 0 0, qi 0 0, qi 3 0, qr 445, .bool true, qi 181 0, qr 446, .none, qr 447, qr 448, qr 449, qi 754 0, qi 227 0, qs "/claim/cut.py" 755]
noncomputable def q7_451 : Obj := qfn (mth 29 2) "BoolBank.or_of" [] .none (qs "minismt.terms" 337) (qr 450) .none
noncomputable def q7_452 : Obj := qtup []
noncomputable def q7_453 : Obj := { cls := .none, data := Data.fields #[] }
noncomputable def q7_454 : Obj := qtup [qs "self" 760, qs "a" 761, qs "b" 762]
noncomputable def q7_455 : Obj := qtup []
noncomputable def q7_456 : Obj := qf0 (mth 29 3) "BoolBank.xor_of"
noncomputable def q7_457 : Obj := qcode [qs "xor_of" 757, qs "BoolBank.xor_of" 758, qs "/claim/cut.py" 759, qi 233 0, qi 3 0, qi 0 0, qi 0 0, qi 3 0, qr 452, .bool true, qi 181 0, qr 453, .none, qr 454, qr 455, qr 456, qi 763 0, qi 233 0, qs "/claim/cut.py" 764]
noncomputable def q7_458 : Obj := qfn (mth 29 3) "BoolBank.xor_of" [] .none (qs "minismt.terms" 337) (qr 457) .none
noncomputable def q7_459 : Obj := qtup []
noncomputable def q7_460 : Obj := { cls := .none, data := Data.fields #[] }
noncomputable def q7_461 : Obj := qtup [qs "self" 769, qs "a" 770, qs "b" 771]
noncomputable def q7_462 : Obj := qtup []
noncomputable def q7_463 : Obj := qf0 (mth 29 4) "BoolBank.implies_of"
noncomputable def q7_464 : Obj := qcode [qs "implies_of" 766, qs "BoolBank.implies_of" 767, qs "/claim/cut.py" 768, qi 236 0, qi 3 0, qi 0 0, qi 0 0, qi 3 0, qr 459, .bool true, qi 181 0, qr 460, .none, qr 461, qr 462, qr 463, qi 772 0, qi 236 0, qs "/claim/cut.py" 773]
noncomputable def q7_465 : Obj := qfn (mth 29 4) "BoolBank.implies_of" [] .none (qs "minismt.terms" 337) (qr 464) .none
noncomputable def q7_466 : Obj := qtup []
noncomputable def q7_467 : Obj := { cls := .none, data := Data.fields #[] }
noncomputable def q7_468 : Obj := qtup [qs "self" 778, qs "a" 779, qs "b" 780]
noncomputable def q7_469 : Obj := qtup []
noncomputable def q7_470 : Obj := qf0 (mth 29 5) "BoolBank.iff"
noncomputable def q7_471 : Obj := qcode [qs "iff" 775, qs "BoolBank.iff" 776, qs "/claim/cut.py" 777, qi 239 0, qi 3 0, qi 0 0, qi 0 0, qi 3 0, qr 466, .bool true, qi 181 0, qr 467, .none, qr 468, qr 469, qr 470, qi 781 0, qi 239 0, qs "/claim/cut.py" 782]
noncomputable def q7_472 : Obj := qfn (mth 29 5) "BoolBank.iff" [] .none (qs "minismt.terms" 337) (qr 471) .none
noncomputable def q7_473 : Obj := qtup []
noncomputable def q7_474 : Obj := { cls := .none, data := Data.fields #[] }
noncomputable def q7_475 : Obj := qtup [qs "self" 787, qs "a" 788, qs "b" 789]
noncomputable def q7_476 : Obj := qtup []
noncomputable def q7_477 : Obj := qf0 (mth 29 6) "BoolBank.eq"
noncomputable def q7_478 : Obj := qcode [qs "eq" 784, qs "BoolBank.eq" 785, qs "/claim/cut.py" 786, qi 243 0, qi 3 0, qi 0 0, qi 0 0, qi 3 0, qr 473, .bool true, qi 181 0, qr 474, .none, qr 475, qr 476, qr 477, qi 790 0, qi 243 0, qs "/claim/cut.py" 791]
noncomputable def q7_479 : Obj := qfn (mth 29 6) "BoolBank.eq" [] .none (qs "minismt.terms" 337) (qr 478) .none
noncomputable def q7_480 : Obj := qtup []
noncomputable def q7_481 : Obj := { cls := .none, data := Data.fields #[] }
noncomputable def q7_482 : Obj := qtup [qs "self" 796, qs "some" 797]
noncomputable def q7_483 : Obj := qtup []
noncomputable def q7_484 : Obj := qf0 (mth 29 7) "BoolBank.distinct"
noncomputable def q7_485 : Obj := qcode [qs "distinct" 793, qs "BoolBank.distinct" 794, qs "/claim/cut.py" 795, qi 249 0, qi 2 0, qi 0 0, qi 0 0, qi 3 0, qr 480, .bool true, qi 181 0, qr 481, .none, qr 482, qr 483, qr 484, qi 798 0, qi 249 0, qs "/claim/cut.py" 799]
noncomputable def q7_486 : Obj := qfn (mth 29 7) "BoolBank.distinct" [] .none (qs "minismt.terms" 337) (qr 485) .none
noncomputable def q7_487 : Obj := qtup []
noncomputable def q7_488 : Obj := { cls := .none, data := Data.fields #[] }
noncomputable def q7_489 : Obj := qtup [qs "self" 804, qs "c" 805, qs "a" 806, qs "b" 807]
noncomputable def q7_490 : Obj := qtup []
noncomputable def q7_491 : Obj := qf0 (mth 29 8) "BoolBank.ite"
noncomputable def q7_492 : Obj := qcode [qs "ite" 801, qs "BoolBank.ite" 802, qs "/claim/cut.py" 803, qi 252 0, qi 4 0, qi 0 0, qi 0 0, qi 3 0, qr 487, .bool true, qi 181 0, qr 488, .none, qr 489, qr 490, qr 491, qi 808 0, qi 252 0, qs "/claim/cut.py" 809]
noncomputable def q7_493 : Obj := qfn (mth 29 8) "BoolBank.ite" [] .none (qs "minismt.terms" 337) (qr 492) .none
noncomputable def q7_494 : Obj := qtup []
noncomputable def q7_495 : Obj := { cls := .none, data := Data.fields #[] }
noncomputable def q7_496 : Obj := qtup [qs "self" 814, qs "f" 815, qs "some" 816, qs "sorts" 817, qs "t" 818, qs "s" 819]
noncomputable def q7_497 : Obj := qtup []
noncomputable def q7_498 : Obj := qf0 (mth 29 9) "BoolBank.app"
noncomputable def q7_499 : Obj := qcode [qs "app" 811, qs "BoolBank.app" 812, qs "/claim/cut.py" 813, qi 257 0, qi 3 0, qi 0 0, qi 0 0, qi 3 0, qr 494, .bool true, qi 181 0, qr 495, .none, qr 496, qr 497, qr 498, qi 820 0, qi 257 0, qs "/claim/cut.py" 821]
noncomputable def q7_500 : Obj := qfn (mth 29 9) "BoolBank.app" [] .none (qs "minismt.terms" 337) (qr 499) .none
noncomputable def q7_501 : Obj := qtup []
noncomputable def q7_502 : Obj := { cls := .none, data := Data.fields #[] }
noncomputable def q7_503 : Obj := qtup [qs "self" 826, qs "t" 827, qs "args" 828]
noncomputable def q7_504 : Obj := qtup []
noncomputable def q7_505 : Obj := qf0 (mth 29 10) "BoolBank.folded"
noncomputable def q7_506 : Obj := qcode [qs "folded" 823, qs "BoolBank.folded" 824, qs "/claim/cut.py" 825, qi 265 0, qi 3 0, qi 0 0, qi 0 0, qi 3 0, qr 501, .bool true, qi 181 0, qr 502, .none, qr 503, qr 504, qr 505, qi 829 0, qi 265 0, qs "/claim/cut.py" 830]
noncomputable def q7_507 : Obj := qfn (mth 29 10) "BoolBank.folded" [] .none (qs "minismt.terms" 337) (qr 506) .none
noncomputable def q7_508 : Obj := qtup []
noncomputable def q7_509 : Obj := { cls := .none, data := Data.fields #[] }
noncomputable def q7_510 : Obj := qtup [qs "self" 835, qs "t" 836, qs "args" 837]
noncomputable def q7_511 : Obj := qtup []
noncomputable def q7_512 : Obj := qf0 (mth 29 11) "BoolBank.with_args"
noncomputable def q7_513 : Obj := qcode [qs "with_args" 832, qs "BoolBank.with_args" 833, qs "/claim/cut.py" 834, qi 268 0, qi 3 0, qi 0 0, qi 0 0, qi 3 0, qr 508, .bool true, qi 181 0, qr 509, .none, qr 510, qr 511, qr 512, qi 838 0, qi 268 0, qs "/claim/cut.py" 839]
noncomputable def q7_514 : Obj := qfn (mth 29 11) "BoolBank.with_args" [] .none (qs "minismt.terms" 337) (qr 513) .none
noncomputable def q7_515 : Obj := qtup []
noncomputable def q7_516 : Obj := { cls := .none, data := Data.fields #[] }
noncomputable def q7_517 : Obj := qtup [qs "self" 844, qs "t" 845, qs "table" 846]
noncomputable def q7_518 : Obj := qtup []
noncomputable def q7_519 : Obj := qf0 (mth 29 12) "BoolBank.replaced"
noncomputable def q7_520 : Obj := qcode [qs "replaced" 841, qs "BoolBank.replaced" 842, qs "/claim/cut.py" 843, qi 271 0, qi 3 0, qi 0 0, qi 0 0, qi 3 0, qr 515, .bool true, qi 181 0, qr 516, .none, qr 517, qr 518, qr 519, qi 847 0, qi 271 0, qs "/claim/cut.py" 848]
noncomputable def q7_521 : Obj := qfn (mth 29 12) "BoolBank.replaced" [] .none (qs "minismt.terms" 337) (qr 520) .none
noncomputable def q7_522 : Obj := qtup []
noncomputable def q7_523 (P : Params) : Obj := qdict (qy "dict") [qe P "__module__" 728 (qs "minismt.terms" 337), qe P "__firstlineno__" 732 (qi 209 731), qe P "not_of" 740 (qr 437), qe P "and_of" 748 (qr 444), qe P "or_of" 756 (qr 451), qe P "xor_of" 765 (qr 458), qe P "implies_of" 774 (qr 465), qe P "iff" 783 (qr 472), qe P "eq" 792 (qr 479), qe P "distinct" 800 (qr 486), qe P "ite" 810 (qr 493), qe P "app" 822 (qr 500), qe P "folded" 831 (qr 507), qe P "with_args" 840 (qr 514), qe P "replaced" 849 (qr 521), qe P "__static_attributes__" 850 (qr 522), qe P "__doc__" 851 .none] 2
noncomputable def q7_524 : Obj := { cls := qy "type", data := Data.cls { name := qS "BoolBank", bases := [qr 419], mro := [qr 524, qr 419, qy "object"], ns := 523, qualname := qS "BoolBank" }, slots := #[some (qr 424), none, some (qs "BoolBank" 721), some (qs "BoolBank" 729), some (qb "object.__new__"), some (.bool true)] }
noncomputable def q7_525 : Obj := { cls := qy "super", data := Data.fields #[qr 524, qr 524, qr 524] }
noncomputable def q7_526 : Obj := { cls := qy "builtin_function_or_method", data := Data.fields #[qb "object.__init_subclass__", qr 524] }
noncomputable def qt7 (P : Params) : BT := qins (qt6 P) [(3, q7_3 P), (12, q7_12), (419, q7_419), (424, q7_424), (425, q7_425), (426, q7_426 P), (427, q7_427), (428, q7_428), (429, q7_429), (430, q7_430), (431, q7_431), (432, q7_432), (433, q7_433), (434, q7_434), (435, q7_435), (436, q7_436), (437, q7_437), (438, q7_438), (439, q7_439), (440, q7_440), (441, q7_441), (442, q7_442), (443, q7_443), (444, q7_444), (445, q7_445), (446, q7_446), (447, q7_447), (448, q7_448), (449, q7_449), (450, q7_450), (451, q7_451), (452, q7_452), (453, q7_453), (454, q7_454), (455, q7_455), (456, q7_456), (457, q7_457), (458, q7_458), (459, q7_459), (460, q7_460), (461, q7_461), (462, q7_462), (463, q7_463), (464, q7_464), (465, q7_465), (466, q7_466), (467, q7_467), (468, q7_468), (469, q7_469), (470, q7_470), (471, q7_471), (472, q7_472), (473, q7_473), (474, q7_474), (475, q7_475), (476, q7_476), (477, q7_477), (478, q7_478), (479, q7_479), (480, q7_480), (481, q7_481), (482, q7_482), (483, q7_483), (484, q7_484), (485, q7_485), (486, q7_486), (487, q7_487), (488, q7_488), (489, q7_489), (490, q7_490), (491, q7_491), (492, q7_492), (493, q7_493), (494, q7_494), (495, q7_495), (496, q7_496), (497, q7_497), (498, q7_498), (499, q7_499), (500, q7_500), (501, q7_501), (502, q7_502), (503, q7_503), (504, q7_504), (505, q7_505), (506, q7_506), (507, q7_507), (508, q7_508), (509, q7_509), (510, q7_510), (511, q7_511), (512, q7_512), (513, q7_513), (514, q7_514), (515, q7_515), (516, q7_516), (517, q7_517), (518, q7_518), (519, q7_519), (520, q7_520), (521, q7_521), (522, q7_522), (523, q7_523 P), (524, q7_524), (525, q7_525), (526, q7_526)]
theorem qp7 (w : World) : (fun os => segRunT treeTable prg w 11 (some (.ref 6)) 1 642 (qsh (qt6 w.params) 424 721 os) (piecesOf (qcut 29 1) qenv qB ⟨95, 0, 208, 17⟩ qF)) = fun os => some (.next, qsh (qt7 w.params) 527 854 os, qB, ⟨209, 0, 272, 17⟩) := by
  rw [PySem.W.Fast.te10110043849684766642, PySem.W.Fast.te14364793385576792824]; kernel_rfl
noncomputable def q8_3 (P : Params) : Obj := qdict (qy "dict") [qe P "__name__" 165 (qs "minismt.terms" 337), qe P "__doc__" 166 .none, qe P "__package__" 167 .none, qe P "__loader__" 168 (qb "__main__.__loader__#opaque"), qe P "__spec__" 169 .none, qe P "__annotations__" 170 (qr 6), qe P "__builtins__" 171 (qr 4), qe P "__file__" 173 (qs "/claim/cut.py" 172), qe P "__cached__" 174 .none, qe P "_wall" 193 (qr 21), qe P "SmtError" 233 (qr 47), qe P "SortFault" 256 (qr 67), qe P "LimitFault" 279 (qr 86), qe P "ModelFault" 302 (qr 105), qe P "gcd_of" 312 (qr 114), qe P "ratio" 321 (qr 121), qe P "mul" 329 (qr 128), qe P "is_whole" 336 (qr 135), qe P "mask_of" 345 (qr 142), qe P "signed_of" 353 (qr 149), qe P "one_value" 362 (qr 156), qe P "divided_value" 371 (qr 163), qe P "rest_value" 379 (qr 170), qe P "shifted_value" 389 (qr 177), qe P "two_value" 399 (qr 184), qe P "extract_value" 408 (qr 191), qe P "sign_extended" 417 (qr 198), qe P "bit_value" 425 (qr 205), qe P "BOOL" 427 (qi 0 426), qe P "INT" 429 (qi 1 428), qe P "REAL" 431 (qi 2 430), qe P "WIDEST" 433 (qi 4096 432), qe P "MOST_BITS" 437 (qi 65536 436), qe P "VALUE_OPS" 442 (qr 206), qe P "Bank" 720 (qr 419), qe P "BoolBank" 853 (qr 524), qe P "want_small" 860 (qr 533)] 37
noncomputable def q8_12 : Obj := { cls := .none, data := Data.fields #[qi 1 0, qi 0 0, qr 20, qi 5 0, qi 0 0, qr 28, qi 13 0, qi 0 0, qr 56, qi 17 0, qi 0 0, qr 75, qi 21 0, qi 0 0, qr 94, qi 26 0, qi 0 0, qr 113, qi 31 0, qi 0 0, qr 120, qi 38 0, qi 0 0, qr 127, qi 42 0, qi 0 0, qr 134, qi 45 0, qi 0 0, qr 141, qi 47 0, qi 0 0, qr 148, qi 49 0, qi 0 0, qr 155, qi 55 0, qi 0 0, qr 162, qi 57 0, qi 0 0, qr 169, qi 59 0, qi 0 0, qr 176, qi 63 0, qi 0 0, qr 183, qi 83 0, qi 0 0, qr 190, qi 85 0, qi 0 0, qr 197, qi 87 0, qi 0 0, qr 204, qi 95 0, qi 0 0, qr 212, qi 209 0, qi 0 0, qr 429, qi 273 0, qi 0 0, qr 532] }
noncomputable def q8_527 : Obj := qtup []
noncomputable def q8_528 : Obj := { cls := .none, data := Data.fields #[] }
noncomputable def q8_529 : Obj := qtup [qs "value" 857]
noncomputable def q8_530 : Obj := qtup []
noncomputable def q8_531 : Obj := qf0 (nthS top 30) "want_small"
noncomputable def q8_532 : Obj := qcode [qs "want_small" 854, qs "want_small" 855, qs "/claim/cut.py" 856, qi 273 0, qi 1 0, qi 0 0, qi 0 0, qi 3 0, qr 527, .bool true, qi 181 0, qr 528, .none, qr 529, qr 530, qr 531, qi 858 0, qi 273 0, qs "/claim/cut.py" 859]
noncomputable def q8_533 : Obj := qfn (nthS top 30) "want_small" [] .none (qs "minismt.terms" 337) (qr 532) .none
noncomputable def qt8 (P : Params) : BT := qins (qt7 P) [(3, q8_3 P), (12, q8_12), (527, q8_527), (528, q8_528), (529, q8_529), (530, q8_530), (531, q8_531), (532, q8_532), (533, q8_533)]
theorem qp8 (w : World) : (fun os => segRunT treeTable prg w 11 (some (.ref 6)) 1 30 (qsh (qt7 w.params) 527 854 os) (piecesOf (qcut 30 1) qenv qB ⟨209, 0, 272, 17⟩ qF)) = fun os => some (.next, qsh (qt8 w.params) 534 861 os, qB, ⟨273, 0, 275, 66⟩) := by
  rw [PySem.W.Fast.te10110043849684766642, PySem.W.Fast.te14364793385576792824]; kernel_rfl
noncomputable def q9_3 (P : Params) : Obj := qdict (qy "dict") [qe P "__name__" 165 (qs "minismt.terms" 337), qe P "__doc__" 166 .none, qe P "__package__" 167 .none, qe P "__loader__" 168 (qb "__main__.__loader__#opaque"), qe P "__spec__" 169 .none, qe P "__annotations__" 170 (qr 6), qe P "__builtins__" 171 (qr 4), qe P "__file__" 173 (qs "/claim/cut.py" 172), qe P "__cached__" 174 .none, qe P "_wall" 193 (qr 21), qe P "SmtError" 233 (qr 47), qe P "SortFault" 256 (qr 67), qe P "LimitFault" 279 (qr 86), qe P "ModelFault" 302 (qr 105), qe P "gcd_of" 312 (qr 114), qe P "ratio" 321 (qr 121), qe P "mul" 329 (qr 128), qe P "is_whole" 336 (qr 135), qe P "mask_of" 345 (qr 142), qe P "signed_of" 353 (qr 149), qe P "one_value" 362 (qr 156), qe P "divided_value" 371 (qr 163), qe P "rest_value" 379 (qr 170), qe P "shifted_value" 389 (qr 177), qe P "two_value" 399 (qr 184), qe P "extract_value" 408 (qr 191), qe P "sign_extended" 417 (qr 198), qe P "bit_value" 425 (qr 205), qe P "BOOL" 427 (qi 0 426), qe P "INT" 429 (qi 1 428), qe P "REAL" 431 (qi 2 430), qe P "WIDEST" 433 (qi 4096 432), qe P "MOST_BITS" 437 (qi 65536 436), qe P "VALUE_OPS" 442 (qr 206), qe P "Bank" 720 (qr 419), qe P "BoolBank" 853 (qr 524), qe P "want_small" 860 (qr 533), qe P "NumberBank" 974 (qr 620)] 38
noncomputable def q9_12 : Obj := { cls := .none, data := Data.fields #[qi 1 0, qi 0 0, qr 20, qi 5 0, qi 0 0, qr 28, qi 13 0, qi 0 0, qr 56, qi 17 0, qi 0 0, qr 75, qi 21 0, qi 0 0, qr 94, qi 26 0, qi 0 0, qr 113, qi 31 0, qi 0 0, qr 120, qi 38 0, qi 0 0, qr 127, qi 42 0, qi 0 0, qr 134, qi 45 0, qi 0 0, qr 141, qi 47 0, qi 0 0, qr 148, qi 49 0, qi 0 0, qr 155, qi 55 0, qi 0 0, qr 162, qi 57 0, qi 0 0, qr 169, qi 59 0, qi 0 0, qr 176, qi 63 0, qi 0 0, qr 183, qi 83 0, qi 0 0, qr 190, qi 85 0, qi 0 0, qr 197, qi 87 0, qi 0 0, qr 204, qi 95 0, qi 0 0, qr 212, qi 209 0, qi 0 0, qr 429, qi 273 0, qi 0 0, qr 532, qi 276 0, qi 0 0, qr 539] }
noncomputable def q9_524 : Obj := { cls := qy "type", data := Data.cls { name := qS "BoolBank", bases := [qr 419], mro := [qr 524, qr 419, qy "object"], ns := 523, qualname := qS "BoolBank", subclasses := [qr 620] }, slots := #[some (qr 424), none, some (qs "BoolBank" 721), some (qs "BoolBank" 729), some (qb "object.__new__"), some (.bool true)] }
noncomputable def q9_534 : Obj := qtup [qr 524]
noncomputable def q9_535 : Obj := { cls := qy "builtin_function_or_method", data := Data.fields #[qb "type.__prepare__", qy "type"] }
noncomputable def q9_536 (P : Params) : Obj := qdict (qy "dict") [qe P "__module__" 868 (qs "minismt.terms" 337), qe P "__qualname__" 870 (qs "NumberBank" 869), qe P "__firstlineno__" 872 (qi 276 871), qe P "num" 881 (qr 547), qe P "want_number" 890 (qr 554), qe P "plus" 898 (qr 561), qe P "times_num" 908 (qr 568), qe P "times" 917 (qr 575), qe P "over_num" 926 (qr 582), qe P "negative" 934 (qr 589), qe P "minus" 943 (qr 596), qe P "le" 952 (qr 603), qe P "lt" 961 (qr 610), qe P "with_args" 970 (qr 617), qe P "__static_attributes__" 971 (qr 618)] 15
noncomputable def q9_537 : Obj := qtup []
noncomputable def q9_538 : Obj := { cls := .none, data := Data.fields #[qi 278 0, qi 4 0, qr 546, qi 286 0, qi 4 0, qr 553, qi 290 0, qi 4 0, qr 560, qi 293 0, qi 4 0, qr 567, qi 300 0, qi 4 0, qr 574, qi 309 0, qi 4 0, qr 581, qi 312 0, qi 4 0, qr 588, qi 315 0, qi 4 0, qr 595, qi 318 0, qi 4 0, qr 602, qi 321 0, qi 4 0, qr 609, qi 324 0, qi 4 0, qr 616] }
noncomputable def q9_539 : Obj := qcode [qs "NumberBank" 863, qs "NumberBank" 864, qs "/claim/cut.py" 865, qi 276 0, qi 0 0, qi 0 0, qi 0 0, qi 0 0, qr 537, .bool false, qi 181 0, qr 538, .none, .none, .none, .none, qi 866 0, qi 276 0, qs "/claim/cut.py" 867]
noncomputable def q9_540 : Obj := { cls := qy "frame", slots := #[some (qr 539), some (qr 3), some (qr 536), none, some (qs "minismt.terms" 337), none, some (qr 0)] }
noncomputable def q9_541 : Obj := qtup []
noncomputable def q9_542 : Obj := { cls := .none, data := Data.fields #[] }
noncomputable def q9_543 : Obj := qtup [qs "self" 876, qs "value" 877, qs "s" 878]
noncomputable def q9_544 : Obj := qtup []
noncomputable def q9_545 : Obj := qf0 (mth 31 0) "NumberBank.num"
noncomputable def q9_546 : Obj := qcode [qs "num" 873, qs "NumberBank.num" 874, qs "/claim/cut.py" 875, qi 278 0, qi 3 0, qi 0 0, qi 0 0, qi 3 0, qr 541, .bool true, qi 181 0, qr 542, .none, qr 543, qr 544, qr 545, qi 879 0, qi 278 0, qs "/claim/cut.py" 880]
noncomputable def q9_547 : Obj := qfn (mth 31 0) "NumberBank.num" [] .none (qs "minismt.terms" 337) (qr 546) .none
noncomputable def q9_548 : Obj := qtup []
noncomputable def q9_549 : Obj := { cls := .none, data := Data.fields #[] }
noncomputable def q9_550 : Obj := qtup [qs "self" 885, qs "t" 886, qs "where" 887]
noncomputable def q9_551 : Obj := qtup []
noncomputable def q9_552 : Obj := qf0 (mth 31 1) "NumberBank.want_number"
noncomputable def q9_553 : Obj := qcode [qs "want_number" 882, qs "NumberBank.want_number" 883, qs "/claim/cut.py" 884, qi 286 0, qi 3 0, qi 0 0, qi 0 0, qi 3 0, qr 548, .bool true, qi 181 0, qr 549, .none, qr 550, qr 551, qr 552, qi 888 0, qi 286 0, qs "/claim/cut.py" 889]
noncomputable def q9_554 : Obj := qfn (mth 31 1) "NumberBank.want_number" [] .none (qs "minismt.terms" 337) (qr 553) .none
noncomputable def q9_555 : Obj := qtup []
noncomputable def q9_556 : Obj := { cls := .none, data := Data.fields #[] }
noncomputable def q9_557 : Obj := qtup [qs "self" 894, qs "some" 895]
noncomputable def q9_558 : Obj := qtup []
noncomputable def q9_559 : Obj := qf0 (mth 31 2) "NumberBank.plus"
noncomputable def q9_560 : Obj := qcode [qs "plus" 891, qs "NumberBank.plus" 892, qs "/claim/cut.py" 893, qi 290 0, qi 2 0, qi 0 0, qi 0 0, qi 3 0, qr 555, .bool true, qi 181 0, qr 556, .none, qr 557, qr 558, qr 559, qi 896 0, qi 290 0, qs "/claim/cut.py" 897]
noncomputable def q9_561 : Obj := qfn (mth 31 2) "NumberBank.plus" [] .none (qs "minismt.terms" 337) (qr 560) .none
noncomputable def q9_562 : Obj := qtup []
noncomputable def q9_563 : Obj := { cls := .none, data := Data.fields #[] }
noncomputable def q9_564 : Obj := qtup [qs "self" 902, qs "value" 903, qs "t" 904, qs "s" 905]
noncomputable def q9_565 : Obj := qtup []
noncomputable def q9_566 : Obj := qf0 (mth 31 3) "NumberBank.times_num"
noncomputable def q9_567 : Obj := qcode [qs "times_num" 899, qs "NumberBank.times_num" 900, qs "/claim/cut.py" 901, qi 293 0, qi 3 0, qi 0 0, qi 0 0, qi 3 0, qr 562, .bool true, qi 181 0, qr 563, .none, qr 564, qr 565, qr 566, qi 906 0, qi 293 0, qs "/claim/cut.py" 907]
noncomputable def q9_568 : Obj := qfn (mth 31 3) "NumberBank.times_num" [] .none (qs "minismt.terms" 337) (qr 567) .none
noncomputable def q9_569 : Obj := qtup []
noncomputable def q9_570 : Obj := { cls := .none, data := Data.fields #[] }
noncomputable def q9_571 : Obj := qtup [qs "self" 912, qs "a" 913, qs "b" 914]
noncomputable def q9_572 : Obj := qtup []
noncomputable def q9_573 : Obj := qf0 (mth 31 4) "NumberBank.times"
noncomputable def q9_574 : Obj := qcode [qs "times" 909, qs "NumberBank.times" 910, qs "/claim/cut.py" 911, qi 300 0, qi 3 0, qi 0 0, qi 0 0, qi 3 0, qr 569, .bool true, qi 181 0, qr 570, .none, qr 571, qr 572, qr 573, qi 915 0, qi 300 0, qs "/claim/cut.py" 916]
noncomputable def q9_575 : Obj := qfn (mth 31 4) "NumberBank.times" [] .none (qs "minismt.terms" 337) (qr 574) .none
noncomputable def q9_576 : Obj := qtup []
noncomputable def q9_577 : Obj := { cls := .none, data := Data.fields #[] }
noncomputable def q9_578 : Obj := qtup [qs "self" 921, qs "t" 922, qs "value" 923]
noncomputable def q9_579 : Obj := qtup []
noncomputable def q9_580 : Obj := qf0 (mth 31 5) "NumberBank.over_num"
noncomputable def q9_581 : Obj := qcode [qs "over_num" 918, qs "NumberBank.over_num" 919, qs "/claim/cut.py" 920, qi 309 0, qi 3 0, qi 0 0, qi 0 0, qi 3 0, qr 576, .bool true, qi 181 0, qr 577, .none, qr 578, qr 579, qr 580, qi 924 0, qi 309 0, qs "/claim/cut.py" 925]
noncomputable def q9_582 : Obj := qfn (mth 31 5) "NumberBank.over_num" [] .none (qs "minismt.terms" 337) (qr 581) .none
noncomputable def q9_583 : Obj := qtup []
noncomputable def q9_584 : Obj := { cls := .none, data := Data.fields #[] }
noncomputable def q9_585 : Obj := qtup [qs "self" 930, qs "t" 931]
noncomputable def q9_586 : Obj := qtup []
noncomputable def q9_587 : Obj := qf0 (mth 31 6) "NumberBank.negative"
noncomputable def q9_588 : Obj := qcode [qs "negative" 927, qs "NumberBank.negative" 928, qs "/claim/cut.py" 929, qi 312 0, qi 2 0, qi 0 0, qi 0 0, qi 3 0, qr 583, .bool true, qi 181 0, qr 584, .none, qr 585, qr 586, qr 587, qi 932 0, qi 312 0, qs "/claim/cut.py" 933]
noncomputable def q9_589 : Obj := qfn (mth 31 6) "NumberBank.negative" [] .none (qs "minismt.terms" 337) (qr 588) .none
noncomputable def q9_590 : Obj := qtup []
noncomputable def q9_591 : Obj := { cls := .none, data := Data.fields #[] }
noncomputable def q9_592 : Obj := qtup [qs "self" 938, qs "a" 939, qs "b" 940]
noncomputable def q9_593 : Obj := qtup []
noncomputable def q9_594 : Obj := qf0 (mth 31 7) "NumberBank.minus"
noncomputable def q9_595 : Obj := qcode [qs "minus" 935, qs "NumberBank.minus" 936, qs "/claim/cut.py" 937, qi 315 0, qi 3 0, qi 0 0, qi 0 0, qi 3 0, qr 590, .bool true, qi 181 0, qr 591, .none, qr 592, qr 593, qr 594, qi 941 0, qi 315 0, qs "/claim/cut.py" 942]
noncomputable def q9_596 : Obj := qfn (mth 31 7) "NumberBank.minus" [] .none (qs "minismt.terms" 337) (qr 595) .none
noncomputable def q9_597 : Obj := qtup []
noncomputable def q9_598 : Obj := { cls := .none, data := Data.fields #[] }
noncomputable def q9_599 : Obj := qtup [qs "self" 947, qs "a" 948, qs "b" 949]
noncomputable def q9_600 : Obj := qtup []
noncomputable def q9_601 : Obj := qf0 (mth 31 8) "NumberBank.le"
noncomputable def q9_602 : Obj := qcode [qs "le" 944, qs "NumberBank.le" 945, qs "/claim/cut.py" 946, qi 318 0, qi 3 0, qi 0 0, qi 0 0, qi 3 0, qr 597, .bool true, qi 181 0, qr 598, .none, qr 599, qr 600, qr 601, qi 950 0, qi 318 0, qs "/claim/cut.py" 951]
noncomputable def q9_603 : Obj := qfn (mth 31 8) "NumberBank.le" [] .none (qs "minismt.terms" 337) (qr 602) .none
noncomputable def q9_604 : Obj := qtup []
noncomputable def q9_605 : Obj := { cls := .none, data := Data.fields #[] }
noncomputable def q9_606 : Obj := qtup [qs "self" 956, qs "a" 957, qs "b" 958]
noncomputable def q9_607 : Obj := qtup []
noncomputable def q9_608 : Obj := qf0 (mth 31 9) "NumberBank.lt"
noncomputable def q9_609 : Obj := qcode [qs "lt" 953, qs "NumberBank.lt" 954, qs "/claim/cut.py" 955, qi 321 0, qi 3 0, qi 0 0, qi 0 0, qi 3 0, qr 604, .bool true, qi 181 0, qr 605, .none, qr 606, qr 607, qr 608, qi 959 0, qi 321 0, qs "/claim/cut.py" 960]
noncomputable def q9_610 : Obj := qfn (mth 31 9) "NumberBank.lt" [] .none (qs "minismt.terms" 337) (qr 609) .none
noncomputable def q9_611 : Obj := qtup []
noncomputable def q9_612 : Obj := { cls := .none, data := Data.fields #[] }
noncomputable def q9_613 : Obj := qtup [qs "self" 965, qs "t" 966, qs "args" 967]
noncomputable def q9_614 : Obj := qtup []
noncomputable def q9_615 : Obj := qf0 (mth 31 10) "NumberBank.with_args"
noncomputable def q9_616 : Obj := qcode [qs "with_args" 962, qs "NumberBank.with_args" 963, qs "/claim/cut.py" 964, qi 324 0, qi 3 0, qi 0 0, qi 0 0, qi 3 0, qr 611, .bool true, qi 181 0, qr 612, .none, qr 613, qr 614, qr 615, qi 968 0, qi 324 0, qs "/claim/cut.py" 969]
noncomputable def q9_617 : Obj := qfn (mth 31 10) "NumberBank.with_args" [] .none (qs "minismt.terms" 337) (qr 616) .none
noncomputable def q9_618 : Obj := qtup []
noncomputable def q9_619 (P : Params) : Obj := qdict (qy "dict") [qe P "__module__" 868 (qs "minismt.terms" 337), qe P "__firstlineno__" 872 (qi 276 871), qe P "num" 881 (qr 547), qe P "want_number" 890 (qr 554), qe P "plus" 898 (qr 561), qe P "times_num" 908 (qr 568), qe P "times" 917 (qr 575), qe P "over_num" 926 (qr 582), qe P "negative" 934 (qr 589), qe P "minus" 943 (qr 596), qe P "le" 952 (qr 603), qe P "lt" 961 (qr 610), qe P "with_args" 970 (qr 617), qe P "__static_attributes__" 971 (qr 618), qe P "__doc__" 972 .none] 2
noncomputable def q9_620 : Obj := { cls := qy "type", data := Data.cls { name := qS "NumberBank", bases := [qr 524], mro := [qr 620, qr 524, qr 419, qy "object"], ns := 619, qualname := qS "NumberBank" }, slots := #[some (qr 534), none, some (qs "NumberBank" 861), some (qs "NumberBank" 869), some (qb "object.__new__"), some (.bool true)] }
noncomputable def q9_621 : Obj := { cls := qy "super", data := Data.fields #[qr 620, qr 620, qr 620] }
noncomputable def q9_622 : Obj := { cls := qy "builtin_function_or_method", data := Data.fields #[qb "object.__init_subclass__", qr 620] }
noncomputable def qt9 (P : Params) : BT := qins (qt8 P) [(3, q9_3 P), (12, q9_12), (524, q9_524), (534, q9_534), (535, q9_535), (536, q9_536 P), (537, q9_537), (538, q9_538), (539, q9_539), (540, q9_540), (541, q9_541), (542, q9_542), (543, q9_543), (544, q9_544), (545, q9_545), (546, q9_546), (547, q9_547), (548, q9_548), (549, q9_549), (550, q9_550), (551, q9_551), (552, q9_552), (553, q9_553), (554, q9_554), (555, q9_555), (556, q9_556), (557, q9_557), (558, q9_558), (559, q9_559), (560, q9_560), (561, q9_561), (562, q9_562), (563, q9_563), (564, q9_564), (565, q9_565), (566, q9_566), (567, q9_567), (568, q9_568), (569, q9_569), (570, q9_570), (571, q9_571), (572, q9_572), (573, q9_573), (574, q9_574), (575, q9_575), (576, q9_576), (577, q9_577), (578, q9_578), (579, q9_579), (580, q9_580), (581, q9_581), (582, q9_582), (583, q9_583), (584, q9_584), (585, q9_585), (586, q9_586), (587, q9_587), (588, q9_588), (589, q9_589), (590, q9_590), (591, q9_591), (592, q9_592), (593, q9_593), (594, q9_594), (595, q9_595), (596, q9_596), (597, q9_597), (598, q9_598), (599, q9_599), (600, q9_600), (601, q9_601), (602, q9_602), (603, q9_603), (604, q9_604), (605, q9_605), (606, q9_606), (607, q9_607), (608, q9_608), (609, q9_609), (610, q9_610), (611, q9_611), (612, q9_612), (613, q9_613), (614, q9_614), (615, q9_615), (616, q9_616), (617, q9_617), (618, q9_618), (619, q9_619 P), (620, q9_620), (621, q9_621), (622, q9_622)]
theorem qp9 (w : World) : (fun os => segRunT treeTable prg w 11 (some (.ref 6)) 1 589 (qsh (qt8 w.params) 534 861 os) (piecesOf (qcut 31 1) qenv qB ⟨273, 0, 275, 66⟩ qF)) = fun os => some (.next, qsh (qt9 w.params) 623 975 os, qB, ⟨276, 0, 325, 17⟩) := by
  rw [PySem.W.Fast.te10110043849684766642, PySem.W.Fast.te14364793385576792824]; kernel_rfl
noncomputable def q10_3 (P : Params) : Obj := qdict (qy "dict") [qe P "__name__" 165 (qs "minismt.terms" 337), qe P "__doc__" 166 .none, qe P "__package__" 167 .none, qe P "__loader__" 168 (qb "__main__.__loader__#opaque"), qe P "__spec__" 169 .none, qe P "__annotations__" 170 (qr 6), qe P "__builtins__" 171 (qr 4), qe P "__file__" 173 (qs "/claim/cut.py" 172), qe P "__cached__" 174 .none, qe P "_wall" 193 (qr 21), qe P "SmtError" 233 (qr 47), qe P "SortFault" 256 (qr 67), qe P "LimitFault" 279 (qr 86), qe P "ModelFault" 302 (qr 105), qe P "gcd_of" 312 (qr 114), qe P "ratio" 321 (qr 121), qe P "mul" 329 (qr 128), qe P "is_whole" 336 (qr 135), qe P "mask_of" 345 (qr 142), qe P "signed_of" 353 (qr 149), qe P "one_value" 362 (qr 156), qe P "divided_value" 371 (qr 163), qe P "rest_value" 379 (qr 170), qe P "shifted_value" 389 (qr 177), qe P "two_value" 399 (qr 184), qe P "extract_value" 408 (qr 191), qe P "sign_extended" 417 (qr 198), qe P "bit_value" 425 (qr 205), qe P "BOOL" 427 (qi 0 426), qe P "INT" 429 (qi 1 428), qe P "REAL" 431 (qi 2 430), qe P "WIDEST" 433 (qi 4096 432), qe P "MOST_BITS" 437 (qi 65536 436), qe P "VALUE_OPS" 442 (qr 206), qe P "Bank" 720 (qr 419), qe P "BoolBank" 853 (qr 524), qe P "want_small" 860 (qr 533), qe P "NumberBank" 974 (qr 620), qe P "TermBank" 1130 (qr 739)] 39
noncomputable def q10_12 : Obj := { cls := .none, data := Data.fields #[qi 1 0, qi 0 0, qr 20, qi 5 0, qi 0 0, qr 28, qi 13 0, qi 0 0, qr 56, qi 17 0, qi 0 0, qr 75, qi 21 0, qi 0 0, qr 94, qi 26 0, qi 0 0, qr 113, qi 31 0, qi 0 0, qr 120, qi 38 0, qi 0 0, qr 127, qi 42 0, qi 0 0, qr 134, qi 45 0, qi 0 0, qr 141, qi 47 0, qi 0 0, qr 148, qi 49 0, qi 0 0, qr 155, qi 55 0, qi 0 0, qr 162, qi 57 0, qi 0 0, qr 169, qi 59 0, qi 0 0, qr 176, qi 63 0, qi 0 0, qr 183, qi 83 0, qi 0 0, qr 190, qi 85 0, qi 0 0, qr 197, qi 87 0, qi 0 0, qr 204, qi 95 0, qi 0 0, qr 212, qi 209 0, qi 0 0, qr 429, qi 273 0, qi 0 0, qr 532, qi 276 0, qi 0 0, qr 539, qi 326 0, qi 0 0, qr 629] }
noncomputable def q10_620 : Obj := { cls := qy "type", data := Data.cls { name := qS "NumberBank", bases := [qr 524], mro := [qr 620, qr 524, qr 419, qy "object"], ns := 619, qualname := qS "NumberBank", subclasses := [qr 739] }, slots := #[some (qr 534), none, some (qs "NumberBank" 861), some (qs "NumberBank" 869), some (qb "object.__new__"), some (.bool true)] }
noncomputable def q10_623 : Obj := qtup [qr 620]
noncomputable def q10_624 : Obj := { cls := qy "builtin_function_or_method", data := Data.fields #[qb "type.__prepare__", qy "type"] }
noncomputable def q10_625 (P : Params) : Obj := qdict (qy "dict") [qe P "__module__" 982 (qs "minismt.terms" 337), qe P "__qualname__" 984 (qs "TermBank" 983), qe P "__firstlineno__" 986 (qi 326 985), qe P "__init__" 994 (qr 638), qe P "bv_sort" 1002 (qr 645), qe P "find_bv_sort" 1010 (qr 652), qe P "want_bits" 1019 (qr 659), qe P "bv_num" 1029 (qr 666), qe P "bv_one" 1038 (qr 673), qe P "bv_two" 1048 (qr 680), qe P "concat" 1057 (qr 687), qe P "extract" 1067 (qr 694), qe P "zero_extend" 1076 (qr 701), qe P "sign_extend" 1085 (qr 708), qe P "want_place" 1095 (qr 715), qe P "bit" 1104 (qr 722), qe P "carry" 1114 (qr 729), qe P "below" 1124 (qr 736), qe P "__static_attributes__" 1126 (qr 737), qe P "__classcell__" 1127 (qr 626)] 20
noncomputable def q10_626 : Obj := { cls := qy "cell", data := Data.cell (some (qr 739)) }
noncomputable def q10_627 : Obj := qtup []
noncomputable def q10_628 : Obj := { cls := .none, data := Data.fields #[qi 328 0, qi 4 0, qr 637, qi 332 0, qi 4 0, qr 644, qi 343 0, qi 4 0, qr 651, qi 346 0, qi 4 0, qr 658, qi 350 0, qi 4 0, qr 665, qi 354 0, qi 4 0, qr 672, qi 357 0, qi 4 0, qr 679, qi 360 0, qi 4 0, qr 686, qi 365 0, qi 4 0, qr 693, qi 371 0, qi 4 0, qr 700, qi 377 0, qi 4 0, qr 707, qi 383 0, qi 4 0, qr 714, qi 387 0, qi 4 0, qr 721, qi 393 0, qi 4 0, qr 728, qi 396 0, qi 4 0, qr 735] }
noncomputable def q10_629 : Obj := qcode [qs "TermBank" 977, qs "TermBank" 978, qs "/claim/cut.py" 979, qi 326 0, qi 0 0, qi 0 0, qi 0 0, qi 0 0, qr 627, .bool false, qi 181 0, qr 628, .none, .none, .none, .none, qi 980 0, qi 326 0, qs "/claim/cut.py" 981]
noncomputable def q10_630 : Obj := { cls := qy "frame", slots := #[some (qr 629), some (qr 3), some (qr 625), none, some (qs "minismt.terms" 337), none, some (qr 0)] }
noncomputable def q10_631 : Obj := qtup [qr 626]
noncomputable def q10_632 : Obj := qtup [qs "__class__" 990]
noncomputable def q10_633 : Obj := { cls := .none, data := Data.fields #[] }
noncomputable def q10_634 : Obj := qtup [qs "self" 991]
noncomputable def q10_635 : Obj := qtup []
noncomputable def q10_636 : Obj := qf0 (mth 32 0) "TermBank.__init__"
noncomputable def q10_637 : Obj := qcode [qs "__init__" 987, qs "TermBank.__init__" 988, qs "/claim/cut.py" 989, qi 328 0, qi 1 0, qi 0 0, qi 0 0, qi 3 0, qr 632, .bool true, qi 181 0, qr 633, .none, qr 634, qr 635, qr 636, qi 992 0, qi 328 0, qs "/claim/cut.py" 993]
noncomputable def q10_638 : Obj := qfn (mth 32 0) "TermBank.__init__" [(qS "__class__", 626)] .none (qs "minismt.terms" 337) (qr 637) (qr 631)
noncomputable def q10_639 : Obj := qtup []
noncomputable def q10_640 : Obj := { cls := .none, data := Data.fields #[] }
noncomputable def q10_641 : Obj := qtup [qs "self" 998, qs "width" 999]
noncomputable def q10_642 : Obj := qtup []
noncomputable def q10_643 : Obj := qf0 (mth 32 1) "TermBank.bv_sort"
noncomputable def q10_644 : Obj := qcode [qs "bv_sort" 995, qs "TermBank.bv_sort" 996, qs "/claim/cut.py" 997, qi 332 0, qi 2 0, qi 0 0, qi 0 0, qi 3 0, qr 639, .bool true, qi 181 0, qr 640, .none, qr 641, qr 642, qr 643, qi 1000 0, qi 332 0, qs "/claim/cut.py" 1001]
noncomputable def q10_645 : Obj := qfn (mth 32 1) "TermBank.bv_sort" [] .none (qs "minismt.terms" 337) (qr 644) .none
noncomputable def q10_646 : Obj := qtup []
noncomputable def q10_647 : Obj := { cls := .none, data := Data.fields #[] }
noncomputable def q10_648 : Obj := qtup [qs "self" 1006, qs "width" 1007]
noncomputable def q10_649 : Obj := qtup []
noncomputable def q10_650 : Obj := qf0 (mth 32 2) "TermBank.find_bv_sort"
noncomputable def q10_651 : Obj := qcode [qs "find_bv_sort" 1003, qs "TermBank.find_bv_sort" 1004, qs "/claim/cut.py" 1005, qi 343 0, qi 2 0, qi 0 0, qi 0 0, qi 3 0, qr 646, .bool true, qi 181 0, qr 647, .none, qr 648, qr 649, qr 650, qi 1008 0, qi 343 0, qs "/claim/cut.py" 1009]
noncomputable def q10_652 : Obj := qfn (mth 32 2) "TermBank.find_bv_sort" [] .none (qs "minismt.terms" 337) (qr 651) .none
noncomputable def q10_653 : Obj := qtup []
noncomputable def q10_654 : Obj := { cls := .none, data := Data.fields #[] }
noncomputable def q10_655 : Obj := qtup [qs "self" 1014, qs "t" 1015, qs "where" 1016]
noncomputable def q10_656 : Obj := qtup []
noncomputable def q10_657 : Obj := qf0 (mth 32 3) "TermBank.want_bits"
noncomputable def q10_658 : Obj := qcode [qs "want_bits" 1011, qs "TermBank.want_bits" 1012, qs "/claim/cut.py" 1013, qi 346 0, qi 3 0, qi 0 0, qi 0 0, qi 3 0, qr 653, .bool true, qi 181 0, qr 654, .none, qr 655, qr 656, qr 657, qi 1017 0, qi 346 0, qs "/claim/cut.py" 1018]
noncomputable def q10_659 : Obj := qfn (mth 32 3) "TermBank.want_bits" [] .none (qs "minismt.terms" 337) (qr 658) .none
noncomputable def q10_660 : Obj := qtup []
noncomputable def q10_661 : Obj := { cls := .none, data := Data.fields #[] }
noncomputable def q10_662 : Obj := qtup [qs "self" 1023, qs "value" 1024, qs "width" 1025, qs "s" 1026]
noncomputable def q10_663 : Obj := qtup []
noncomputable def q10_664 : Obj := qf0 (mth 32 4) "TermBank.bv_num"
noncomputable def q10_665 : Obj := qcode [qs "bv_num" 1020, qs "TermBank.bv_num" 1021, qs "/claim/cut.py" 1022, qi 350 0, qi 3 0, qi 0 0, qi 0 0, qi 3 0, qr 660, .bool true, qi 181 0, qr 661, .none, qr 662, qr 663, qr 664, qi 1027 0, qi 350 0, qs "/claim/cut.py" 1028]
noncomputable def q10_666 : Obj := qfn (mth 32 4) "TermBank.bv_num" [] .none (qs "minismt.terms" 337) (qr 665) .none
noncomputable def q10_667 : Obj := qtup []
noncomputable def q10_668 : Obj := { cls := .none, data := Data.fields #[] }
noncomputable def q10_669 : Obj := qtup [qs "self" 1033, qs "op" 1034, qs "t" 1035]
noncomputable def q10_670 : Obj := qtup []
noncomputable def q10_671 : Obj := qf0 (mth 32 5) "TermBank.bv_one"
noncomputable def q10_672 : Obj := qcode [qs "bv_one" 1030, qs "TermBank.bv_one" 1031, qs "/claim/cut.py" 1032, qi 354 0, qi 3 0, qi 0 0, qi 0 0, qi 3 0, qr 667, .bool true, qi 181 0, qr 668, .none, qr 669, qr 670, qr 671, qi 1036 0, qi 354 0, qs "/claim/cut.py" 1037]
noncomputable def q10_673 : Obj := qfn (mth 32 5) "TermBank.bv_one" [] .none (qs "minismt.terms" 337) (qr 672) .none
noncomputable def q10_674 : Obj := qtup []
noncomputable def q10_675 : Obj := { cls := .none, data := Data.fields #[] }
noncomputable def q10_676 : Obj := qtup [qs "self" 1042, qs "op" 1043, qs "a" 1044, qs "b" 1045]
noncomputable def q10_677 : Obj := qtup []
noncomputable def q10_678 : Obj := qf0 (mth 32 6) "TermBank.bv_two"
noncomputable def q10_679 : Obj := qcode [qs "bv_two" 1039, qs "TermBank.bv_two" 1040, qs "/claim/cut.py" 1041, qi 357 0, qi 4 0, qi 0 0, qi 0 0, qi 3 0, qr 674, .bool true, qi 181 0, qr 675, .none, qr 676, qr 677, qr 678, qi 1046 0, qi 357 0, qs "/claim/cut.py" 1047]
noncomputable def q10_680 : Obj := qfn (mth 32 6) "TermBank.bv_two" [] .none (qs "minismt.terms" 337) (qr 679) .none
noncomputable def q10_681 : Obj := qtup []
noncomputable def q10_682 : Obj := { cls := .none, data := Data.fields #[] }
noncomputable def q10_683 : Obj := qtup [qs "self" 1052, qs "a" 1053, qs "b" 1054]
noncomputable def q10_684 : Obj := qtup []
noncomputable def q10_685 : Obj := qf0 (mth 32 7) "TermBank.concat"
noncomputable def q10_686 : Obj := qcode [qs "concat" 1049, qs "TermBank.concat" 1050, qs "/claim/cut.py" 1051, qi 360 0, qi 3 0, qi 0 0, qi 0 0, qi 3 0, qr 681, .bool true, qi 181 0, qr 682, .none, qr 683, qr 684, qr 685, qi 1055 0, qi 360 0, qs "/claim/cut.py" 1056]
noncomputable def q10_687 : Obj := qfn (mth 32 7) "TermBank.concat" [] .none (qs "minismt.terms" 337) (qr 686) .none
noncomputable def q10_688 : Obj := qtup []
noncomputable def q10_689 : Obj := { cls := .none, data := Data.fields #[] }
noncomputable def q10_690 : Obj := qtup [qs "self" 1061, qs "high" 1062, qs "low" 1063, qs "t" 1064]
noncomputable def q10_691 : Obj := qtup []
noncomputable def q10_692 : Obj := qf0 (mth 32 8) "TermBank.extract"
noncomputable def q10_693 : Obj := qcode [qs "extract" 1058, qs "TermBank.extract" 1059, qs "/claim/cut.py" 1060, qi 365 0, qi 4 0, qi 0 0, qi 0 0, qi 3 0, qr 688, .bool true, qi 181 0, qr 689, .none, qr 690, qr 691, qr 692, qi 1065 0, qi 365 0, qs "/claim/cut.py" 1066]
noncomputable def q10_694 : Obj := qfn (mth 32 8) "TermBank.extract" [] .none (qs "minismt.terms" 337) (qr 693) .none
noncomputable def q10_695 : Obj := qtup []
noncomputable def q10_696 : Obj := { cls := .none, data := Data.fields #[] }
noncomputable def q10_697 : Obj := qtup [qs "self" 1071, qs "many" 1072, qs "t" 1073]
noncomputable def q10_698 : Obj := qtup []
noncomputable def q10_699 : Obj := qf0 (mth 32 9) "TermBank.zero_extend"
noncomputable def q10_700 : Obj := qcode [qs "zero_extend" 1068, qs "TermBank.zero_extend" 1069, qs "/claim/cut.py" 1070, qi 371 0, qi 3 0, qi 0 0, qi 0 0, qi 3 0, qr 695, .bool true, qi 181 0, qr 696, .none, qr 697, qr 698, qr 699, qi 1074 0, qi 371 0, qs "/claim/cut.py" 1075]
noncomputable def q10_701 : Obj := qfn (mth 32 9) "TermBank.zero_extend" [] .none (qs "minismt.terms" 337) (qr 700) .none
noncomputable def q10_702 : Obj := qtup []
noncomputable def q10_703 : Obj := { cls := .none, data := Data.fields #[] }
noncomputable def q10_704 : Obj := qtup [qs "self" 1080, qs "many" 1081, qs "t" 1082]
noncomputable def q10_705 : Obj := qtup []
noncomputable def q10_706 : Obj := qf0 (mth 32 10) "TermBank.sign_extend"
noncomputable def q10_707 : Obj := qcode [qs "sign_extend" 1077, qs "TermBank.sign_extend" 1078, qs "/claim/cut.py" 1079, qi 377 0, qi 3 0, qi 0 0, qi 0 0, qi 3 0, qr 702, .bool true, qi 181 0, qr 703, .none, qr 704, qr 705, qr 706, qi 1083 0, qi 377 0, qs "/claim/cut.py" 1084]
noncomputable def q10_708 : Obj := qfn (mth 32 10) "TermBank.sign_extend" [] .none (qs "minismt.terms" 337) (qr 707) .none
noncomputable def q10_709 : Obj := qtup []
noncomputable def q10_710 : Obj := { cls := .none, data := Data.fields #[] }
noncomputable def q10_711 : Obj := qtup [qs "self" 1089, qs "i" 1090, qs "t" 1091, qs "where" 1092]
noncomputable def q10_712 : Obj := qtup []
noncomputable def q10_713 : Obj := qf0 (mth 32 11) "TermBank.want_place"
noncomputable def q10_714 : Obj := qcode [qs "want_place" 1086, qs "TermBank.want_place" 1087, qs "/claim/cut.py" 1088, qi 383 0, qi 4 0, qi 0 0, qi 0 0, qi 3 0, qr 709, .bool true, qi 181 0, qr 710, .none, qr 711, qr 712, qr 713, qi 1093 0, qi 383 0, qs "/claim/cut.py" 1094]
noncomputable def q10_715 : Obj := qfn (mth 32 11) "TermBank.want_place" [] .none (qs "minismt.terms" 337) (qr 714) .none
noncomputable def q10_716 : Obj := qtup []
noncomputable def q10_717 : Obj := { cls := .none, data := Data.fields #[] }
noncomputable def q10_718 : Obj := qtup [qs "self" 1099, qs "i" 1100, qs "t" 1101]
noncomputable def q10_719 : Obj := qtup []
noncomputable def q10_720 : Obj := qf0 (mth 32 12) "TermBank.bit"
noncomputable def q10_721 : Obj := qcode [qs "bit" 1096, qs "TermBank.bit" 1097, qs "/claim/cut.py" 1098, qi 387 0, qi 3 0, qi 0 0, qi 0 0, qi 3 0, qr 716, .bool true, qi 181 0, qr 717, .none, qr 718, qr 719, qr 720, qi 1102 0, qi 387 0, qs "/claim/cut.py" 1103]
noncomputable def q10_722 : Obj := qfn (mth 32 12) "TermBank.bit" [] .none (qs "minismt.terms" 337) (qr 721) .none
noncomputable def q10_723 : Obj := qtup []
noncomputable def q10_724 : Obj := { cls := .none, data := Data.fields #[] }
noncomputable def q10_725 : Obj := qtup [qs "self" 1108, qs "i" 1109, qs "a" 1110, qs "b" 1111]
noncomputable def q10_726 : Obj := qtup []
noncomputable def q10_727 : Obj := qf0 (mth 32 13) "TermBank.carry"
noncomputable def q10_728 : Obj := qcode [qs "carry" 1105, qs "TermBank.carry" 1106, qs "/claim/cut.py" 1107, qi 393 0, qi 4 0, qi 0 0, qi 0 0, qi 3 0, qr 723, .bool true, qi 181 0, qr 724, .none, qr 725, qr 726, qr 727, qi 1112 0, qi 393 0, qs "/claim/cut.py" 1113]
noncomputable def q10_729 : Obj := qfn (mth 32 13) "TermBank.carry" [] .none (qs "minismt.terms" 337) (qr 728) .none
noncomputable def q10_730 : Obj := qtup []
noncomputable def q10_731 : Obj := { cls := .none, data := Data.fields #[] }
noncomputable def q10_732 : Obj := qtup [qs "self" 1118, qs "i" 1119, qs "a" 1120, qs "b" 1121]
noncomputable def q10_733 : Obj := qtup []
noncomputable def q10_734 : Obj := qf0 (mth 32 14) "TermBank.below"
noncomputable def q10_735 : Obj := qcode [qs "below" 1115, qs "TermBank.below" 1116, qs "/claim/cut.py" 1117, qi 396 0, qi 4 0, qi 0 0, qi 0 0, qi 3 0, qr 730, .bool true, qi 181 0, qr 731, .none, qr 732, qr 733, qr 734, qi 1122 0, qi 396 0, qs "/claim/cut.py" 1123]
noncomputable def q10_736 : Obj := qfn (mth 32 14) "TermBank.below" [] .none (qs "minismt.terms" 337) (qr 735) .none
noncomputable def q10_737 : Obj := qtup [qs "bv_numbers" 1125]
noncomputable def q10_738 (P : Params) : Obj := qdict (qy "dict") [qe P "__module__" 982 (qs "minismt.terms" 337), qe P "__firstlineno__" 986 (qi 326 985), qe P "__init__" 994 (qr 638), qe P "bv_sort" 1002 (qr 645), qe P "find_bv_sort" 1010 (qr 652), qe P "want_bits" 1019 (qr 659), qe P "bv_num" 1029 (qr 666), qe P "bv_one" 1038 (qr 673), qe P "bv_two" 1048 (qr 680), qe P "concat" 1057 (qr 687), qe P "extract" 1067 (qr 694), qe P "zero_extend" 1076 (qr 701), qe P "sign_extend" 1085 (qr 708), qe P "want_place" 1095 (qr 715), qe P "bit" 1104 (qr 722), qe P "carry" 1114 (qr 729), qe P "below" 1124 (qr 736), qe P "__static_attributes__" 1126 (qr 737), qe P "__doc__" 1128 .none] 3
noncomputable def q10_739 : Obj := { cls := qy "type", data := Data.cls { name := qS "TermBank", bases := [qr 620], mro := [qr 739, qr 620, qr 524, qr 419, qy "object"], ns := 738, qualname := qS "TermBank" }, slots := #[some (qr 623), none, some (qs "TermBank" 975), some (qs "TermBank" 983), some (qb "object.__new__"), some (.bool true)] }
noncomputable def q10_740 : Obj := { cls := qy "super", data := Data.fields #[qr 739, qr 739, qr 739] }
noncomputable def q10_741 : Obj := { cls := qy "builtin_function_or_method", data := Data.fields #[qb "object.__init_subclass__", qr 739] }
noncomputable def qt10 (P : Params) : BT := qins (qt9 P) [(3, q10_3 P), (12, q10_12), (620, q10_620), (623, q10_623), (624, q10_624), (625, q10_625 P), (626, q10_626), (627, q10_627), (628, q10_628), (629, q10_629), (630, q10_630), (631, q10_631), (632, q10_632), (633, q10_633), (634, q10_634), (635, q10_635), (636, q10_636), (637, q10_637), (638, q10_638), (639, q10_639), (640, q10_640), (641, q10_641), (642, q10_642), (643, q10_643), (644, q10_644), (645, q10_645), (646, q10_646), (647, q10_647), (648, q10_648), (649, q10_649), (650, q10_650), (651, q10_651), (652, q10_652), (653, q10_653), (654, q10_654), (655, q10_655), (656, q10_656), (657, q10_657), (658, q10_658), (659, q10_659), (660, q10_660), (661, q10_661), (662, q10_662), (663, q10_663), (664, q10_664), (665, q10_665), (666, q10_666), (667, q10_667), (668, q10_668), (669, q10_669), (670, q10_670), (671, q10_671), (672, q10_672), (673, q10_673), (674, q10_674), (675, q10_675), (676, q10_676), (677, q10_677), (678, q10_678), (679, q10_679), (680, q10_680), (681, q10_681), (682, q10_682), (683, q10_683), (684, q10_684), (685, q10_685), (686, q10_686), (687, q10_687), (688, q10_688), (689, q10_689), (690, q10_690), (691, q10_691), (692, q10_692), (693, q10_693), (694, q10_694), (695, q10_695), (696, q10_696), (697, q10_697), (698, q10_698), (699, q10_699), (700, q10_700), (701, q10_701), (702, q10_702), (703, q10_703), (704, q10_704), (705, q10_705), (706, q10_706), (707, q10_707), (708, q10_708), (709, q10_709), (710, q10_710), (711, q10_711), (712, q10_712), (713, q10_713), (714, q10_714), (715, q10_715), (716, q10_716), (717, q10_717), (718, q10_718), (719, q10_719), (720, q10_720), (721, q10_721), (722, q10_722), (723, q10_723), (724, q10_724), (725, q10_725), (726, q10_726), (727, q10_727), (728, q10_728), (729, q10_729), (730, q10_730), (731, q10_731), (732, q10_732), (733, q10_733), (734, q10_734), (735, q10_735), (736, q10_736), (737, q10_737), (738, q10_738 P), (739, q10_739), (740, q10_740), (741, q10_741)]
theorem qp10 (w : World) : (fun os => segRunT treeTable prg w 11 (some (.ref 6)) 1 755 (qsh (qt9 w.params) 623 975 os) (piecesOf (qcut 32 1) qenv qB ⟨276, 0, 325, 17⟩ qF)) = fun os => some (.next, qsh (qt10 w.params) 742 1131 os, qB, ⟨326, 0, 400, 50⟩) := by
  rw [PySem.W.Fast.te10110043849684766642, PySem.W.Fast.te14364793385576792824]; kernel_rfl
noncomputable def q11_3 (P : Params) : Obj := qdict (qy "dict") [qe P "__name__" 165 (qs "minismt.rewrite" 1131), qe P "__doc__" 166 .none, qe P "__package__" 167 .none, qe P "__loader__" 168 (qb "__main__.__loader__#opaque"), qe P "__spec__" 169 .none, qe P "__annotations__" 170 (qr 6), qe P "__builtins__" 171 (qr 4), qe P "__file__" 173 (qs "/claim/cut.py" 172), qe P "__cached__" 174 .none, qe P "_wall" 193 (qr 21), qe P "SmtError" 233 (qr 47), qe P "SortFault" 256 (qr 67), qe P "LimitFault" 279 (qr 86), qe P "ModelFault" 302 (qr 105), qe P "gcd_of" 312 (qr 114), qe P "ratio" 321 (qr 121), qe P "mul" 329 (qr 128), qe P "is_whole" 336 (qr 135), qe P "mask_of" 345 (qr 142), qe P "signed_of" 353 (qr 149), qe P "one_value" 362 (qr 156), qe P "divided_value" 371 (qr 163), qe P "rest_value" 379 (qr 170), qe P "shifted_value" 389 (qr 177), qe P "two_value" 399 (qr 184), qe P "extract_value" 408 (qr 191), qe P "sign_extended" 417 (qr 198), qe P "bit_value" 425 (qr 205), qe P "BOOL" 427 (qi 0 426), qe P "INT" 429 (qi 1 428), qe P "REAL" 431 (qi 2 430), qe P "WIDEST" 433 (qi 4096 432), qe P "MOST_BITS" 437 (qi 65536 436), qe P "VALUE_OPS" 442 (qr 206), qe P "Bank" 720 (qr 419), qe P "BoolBank" 853 (qr 524), qe P "want_small" 860 (qr 533), qe P "NumberBank" 974 (qr 620), qe P "TermBank" 1130 (qr 739), qe P "DEEPEST" 1134 (qi 50 1133)] 40
noncomputable def qt11 (P : Params) : BT := qins (qt10 P) [(3, q11_3 P)]
theorem qp11 (w : World) : (fun os => segRunT treeTable prg w 11 (some (.ref 6)) 1 19 (qsh (qt10 w.params) 742 1131 os) (piecesOf (qcut 33 2) qenv qB ⟨326, 0, 400, 50⟩ qF)) = fun os => some (.next, qsh (qt11 w.params) 742 1135 os, qB, ⟨402, 0, 402, 7⟩) := by
  rw [PySem.W.Fast.te10110043849684766642, PySem.W.Fast.te14364793385576792824]; kernel_rfl
noncomputable def q12_3 (P : Params) : Obj := qdict (qy "dict") [qe P "__name__" 165 (qs "minismt.rewrite" 1131), qe P "__doc__" 166 .none, qe P "__package__" 167 .none, qe P "__loader__" 168 (qb "__main__.__loader__#opaque"), qe P "__spec__" 169 .none, qe P "__annotations__" 170 (qr 6), qe P "__builtins__" 171 (qr 4), qe P "__file__" 173 (qs "/claim/cut.py" 172), qe P "__cached__" 174 .none, qe P "_wall" 193 (qr 21), qe P "SmtError" 233 (qr 47), qe P "SortFault" 256 (qr 67), qe P "LimitFault" 279 (qr 86), qe P "ModelFault" 302 (qr 105), qe P "gcd_of" 312 (qr 114), qe P "ratio" 321 (qr 121), qe P "mul" 329 (qr 128), qe P "is_whole" 336 (qr 135), qe P "mask_of" 345 (qr 142), qe P "signed_of" 353 (qr 149), qe P "one_value" 362 (qr 156), qe P "divided_value" 371 (qr 163), qe P "rest_value" 379 (qr 170), qe P "shifted_value" 389 (qr 177), qe P "two_value" 399 (qr 184), qe P "extract_value" 408 (qr 191), qe P "sign_extended" 417 (qr 198), qe P "bit_value" 425 (qr 205), qe P "BOOL" 427 (qi 0 426), qe P "INT" 429 (qi 1 428), qe P "REAL" 431 (qi 2 430), qe P "WIDEST" 433 (qi 4096 432), qe P "MOST_BITS" 437 (qi 65536 436), qe P "VALUE_OPS" 442 (qr 206), qe P "Bank" 720 (qr 419), qe P "BoolBank" 853 (qr 524), qe P "want_small" 860 (qr 533), qe P "NumberBank" 974 (qr 620), qe P "TermBank" 1130 (qr 739), qe P "DEEPEST" 1134 (qi 50 1133), qe P "BoolRewriter" 1318 (qr 864)] 41
noncomputable def q12_12 : Obj := { cls := .none, data := Data.fields #[qi 1 0, qi 0 0, qr 20, qi 5 0, qi 0 0, qr 28, qi 13 0, qi 0 0, qr 56, qi 17 0, qi 0 0, qr 75, qi 21 0, qi 0 0, qr 94, qi 26 0, qi 0 0, qr 113, qi 31 0, qi 0 0, qr 120, qi 38 0, qi 0 0, qr 127, qi 42 0, qi 0 0, qr 134, qi 45 0, qi 0 0, qr 141, qi 47 0, qi 0 0, qr 148, qi 49 0, qi 0 0, qr 155, qi 55 0, qi 0 0, qr 162, qi 57 0, qi 0 0, qr 169, qi 59 0, qi 0 0, qr 176, qi 63 0, qi 0 0, qr 183, qi 83 0, qi 0 0, qr 190, qi 85 0, qi 0 0, qr 197, qi 87 0, qi 0 0, qr 204, qi 95 0, qi 0 0, qr 212, qi 209 0, qi 0 0, qr 429, qi 273 0, qi 0 0, qr 532, qi 276 0, qi 0 0, qr 539, qi 326 0, qi 0 0, qr 629, qi 403 0, qi 0 0, qr 747] }
noncomputable def q12_742 : Obj := qtup []
noncomputable def q12_743 : Obj := { cls := qy "builtin_function_or_method", data := Data.fields #[qb "type.__prepare__", qy "type"] }
noncomputable def q12_744 (P : Params) : Obj := qdict (qy "dict") [qe P "__module__" 1142 (qs "minismt.rewrite" 1131), qe P "__qualname__" 1144 (qs "BoolRewriter" 1143), qe P "__firstlineno__" 1146 (qi 403 1145), qe P "__init__" 1154 (qr 755), qe P "simplify" 1162 (qr 762), qe P "made" 1171 (qr 769), qe P "flat" 1185 (qr 776), qe P "thinned" 1191 (qr 781), qe P "joined" 1204 (qr 788), qe P "negated" 1212 (qr 795), qe P "parity" 1220 (qr 802), qe P "same" 1231 (qr 809), qe P "chosen_bool" 1241 (qr 816), qe P "chosen" 1251 (qr 823), qe P "equal" 1264 (qr 831), qe P "equal_others" 1275 (qr 839), qe P "equal_chosen" 1289 (qr 847), qe P "are_too_many" 1297 (qr 854), qe P "apart" 1306 (qr 861), qe P "__static_attributes__" 1311 (qr 862)] 20
noncomputable def q12_745 : Obj := qtup []
noncomputable def q12_746 : Obj := { cls := .none, data := Data.fields #[qi 405 0, qi 4 0, qr 754, qi 411 0, qi 4 0, qr 761, qi 414 0, qi 4 0, qr 768, qi 417 0, qi 4 0, qr 775, qi 432 0, qi 4 0, qr 780, qi 444 0, qi 4 0, qr 787, qi 454 0, qi 4 0, qr 794, qi 457 0, qi 4 0, qr 801, qi 460 0, qi 4 0, qr 808, qi 474 0, qi 4 0, qr 815, qi 487 0, qi 4 0, qr 822, qi 500 0, qi 4 0, qr 830, qi 512 0, qi 4 0, qr 838, qi 515 0, qi 4 0, qr 846, qi 521 0, qi 4 0, qr 853, qi 524 0, qi 4 0, qr 860] }
noncomputable def q12_747 : Obj := qcode [qs "BoolRewriter" 1137, qs "BoolRewriter" 1138, qs "/claim/cut.py" 1139, qi 403 0, qi 0 0, qi 0 0, qi 0 0, qi 0 0, qr 745, .bool false, qi 181 0, qr 746, .none, .none, .none, .none, qi 1140 0, qi 403 0, qs "/claim/cut.py" 1141]
noncomputable def q12_748 : Obj := { cls := qy "frame", slots := #[some (qr 747), some (qr 3), some (qr 744), none, some (qs "minismt.rewrite" 1131), none, some (qr 0)] }
noncomputable def q12_749 : Obj := qtup []
noncomputable def q12_750 : Obj := { cls := .none, data := Data.fields #[] }
noncomputable def q12_751 : Obj := qtup [qs "self" 1150, qs "bank" 1151]
noncomputable def q12_752 : Obj := qtup []
noncomputable def q12_753 : Obj := qf0 (mth 35 0) "BoolRewriter.__init__"
noncomputable def q12_754 : Obj := qcode [qs "__init__" 1147, qs "BoolRewriter.__init__" 1148, qs "/claim/cut.py" 1149, qi 405 0, qi 2 0, qi 0 0, qi 0 0, qi 3 0, qr 749, .bool true, qi 181 0, qr 750, .none, qr 751, qr 752, qr 753, qi 1152 0, qi 405 0, qs "/claim/cut.py" 1153]
noncomputable def q12_755 : Obj := qfn (mth 35 0) "BoolRewriter.__init__" [] .none (qs "minismt.rewrite" 1131) (qr 754) .none
noncomputable def q12_756 : Obj := qtup []
noncomputable def q12_757 : Obj := { cls := .none, data := Data.fields #[] }
noncomputable def q12_758 : Obj := qtup [qs "self" 1158, qs "t" 1159]
noncomputable def q12_759 : Obj := qtup []
noncomputable def q12_760 : Obj := qf0 (mth 35 1) "BoolRewriter.simplify"
noncomputable def q12_761 : Obj := qcode [qs "simplify" 1155, qs "BoolRewriter.simplify" 1156, qs "/claim/cut.py" 1157, qi 411 0, qi 2 0, qi 0 0, qi 0 0, qi 3 0, qr 756, .bool true, qi 181 0, qr 757, .none, qr 758, qr 759, qr 760, qi 1160 0, qi 411 0, qs "/claim/cut.py" 1161]
noncomputable def q12_762 : Obj := qfn (mth 35 1) "BoolRewriter.simplify" [] .none (qs "minismt.rewrite" 1131) (qr 761) .none
noncomputable def q12_763 : Obj := qtup []
noncomputable def q12_764 : Obj := { cls := .none, data := Data.fields #[] }
noncomputable def q12_765 : Obj := qtup [qs "self" 1166, qs "t" 1167, qs "args" 1168]
noncomputable def q12_766 : Obj := qtup []
noncomputable def q12_767 : Obj := qf0 (mth 35 2) "BoolRewriter.made"
noncomputable def q12_768 : Obj := qcode [qs "made" 1163, qs "BoolRewriter.made" 1164, qs "/claim/cut.py" 1165, qi 414 0, qi 3 0, qi 0 0, qi 0 0, qi 3 0, qr 763, .bool true, qi 181 0, qr 764, .none, qr 765, qr 766, qr 767, qi 1169 0, qi 414 0, qs "/claim/cut.py" 1170]
noncomputable def q12_769 : Obj := qfn (mth 35 2) "BoolRewriter.made" [] .none (qs "minismt.rewrite" 1131) (qr 768) .none
noncomputable def q12_770 : Obj := qtup []
noncomputable def q12_771 : Obj := { cls := .none, data := Data.fields #[] }
noncomputable def q12_772 : Obj := qtup [qs "self" 1175, qs "op" 1176, qs "some" 1177, qs "unit" 1178, qs "settling" 1179, qs "found" 1180, qs "stack" 1181, qs "t" 1182]
noncomputable def q12_773 : Obj := qtup []
noncomputable def q12_774 : Obj := qf0 (mth 35 3) "BoolRewriter.flat"
noncomputable def q12_775 : Obj := qcode [qs "flat" 1172, qs "BoolRewriter.flat" 1173, qs "/claim/cut.py" 1174, qi 417 0, qi 3 0, qi 0 0, qi 0 0, qi 3 0, qr 770, .bool true, qi 181 0, qr 771, .none, qr 772, qr 773, qr 774, qi 1183 0, qi 417 0, qs "/claim/cut.py" 1184]
noncomputable def q12_776 : Obj := qfn (mth 35 3) "BoolRewriter.flat" [] .none (qs "minismt.rewrite" 1131) (qr 775) .none
noncomputable def q12_777 : Obj := qtup []
noncomputable def q12_778 : Obj := { cls := .none, data := Data.fields #[] }
noncomputable def q12_779 : Obj := qf0 (mth 35 4) "BoolRewriter.thinned"
noncomputable def q12_780 : Obj := qcode [qs "thinned" 1186, qs "BoolRewriter.thinned" 1187, qs "/claim/cut.py" 1188, qi 432 0, qi 3 0, qi 0 0, qi 0 0, qi 3 0, qr 777, .bool true, qi 181 0, qr 778, .none, .none, .none, qr 779, qi 1189 0, qi 432 0, qs "/claim/cut.py" 1190]
noncomputable def q12_781 : Obj := qfn (mth 35 4) "BoolRewriter.thinned" [] .none (qs "minismt.rewrite" 1131) (qr 780) .none
noncomputable def q12_782 : Obj := qtup []
noncomputable def q12_783 : Obj := { cls := .none, data := Data.fields #[] }
noncomputable def q12_784 : Obj := qtup [qs "self" 1195, qs "op" 1196, qs "some" 1197, qs "settling" 1198, qs "other" 1199, qs "found" 1200, qs "kept" 1201]
noncomputable def q12_785 : Obj := qtup []
noncomputable def q12_786 : Obj := qf0 (mth 35 5) "BoolRewriter.joined"
noncomputable def q12_787 : Obj := qcode [qs "joined" 1192, qs "BoolRewriter.joined" 1193, qs "/claim/cut.py" 1194, qi 444 0, qi 3 0, qi 0 0, qi 0 0, qi 3 0, qr 782, .bool true, qi 181 0, qr 783, .none, qr 784, qr 785, qr 786, qi 1202 0, qi 444 0, qs "/claim/cut.py" 1203]
noncomputable def q12_788 : Obj := qfn (mth 35 5) "BoolRewriter.joined" [] .none (qs "minismt.rewrite" 1131) (qr 787) .none
noncomputable def q12_789 : Obj := qtup []
noncomputable def q12_790 : Obj := { cls := .none, data := Data.fields #[] }
noncomputable def q12_791 : Obj := qtup [qs "self" 1208, qs "t" 1209]
noncomputable def q12_792 : Obj := qtup []
noncomputable def q12_793 : Obj := qf0 (mth 35 6) "BoolRewriter.negated"
noncomputable def q12_794 : Obj := qcode [qs "negated" 1205, qs "BoolRewriter.negated" 1206, qs "/claim/cut.py" 1207, qi 454 0, qi 2 0, qi 0 0, qi 0 0, qi 3 0, qr 789, .bool true, qi 181 0, qr 790, .none, qr 791, qr 792, qr 793, qi 1210 0, qi 454 0, qs "/claim/cut.py" 1211]
noncomputable def q12_795 : Obj := qfn (mth 35 6) "BoolRewriter.negated" [] .none (qs "minismt.rewrite" 1131) (qr 794) .none
noncomputable def q12_796 : Obj := qtup []
noncomputable def q12_797 : Obj := { cls := .none, data := Data.fields #[] }
noncomputable def q12_798 : Obj := qtup [qs "self" 1216, qs "some" 1217]
noncomputable def q12_799 : Obj := qtup []
noncomputable def q12_800 : Obj := qf0 (mth 35 7) "BoolRewriter.parity"
noncomputable def q12_801 : Obj := qcode [qs "parity" 1213, qs "BoolRewriter.parity" 1214, qs "/claim/cut.py" 1215, qi 457 0, qi 2 0, qi 0 0, qi 0 0, qi 3 0, qr 796, .bool true, qi 181 0, qr 797, .none, qr 798, qr 799, qr 800, qi 1218 0, qi 457 0, qs "/claim/cut.py" 1219]
noncomputable def q12_802 : Obj := qfn (mth 35 7) "BoolRewriter.parity" [] .none (qs "minismt.rewrite" 1131) (qr 801) .none
noncomputable def q12_803 : Obj := qtup []
noncomputable def q12_804 : Obj := { cls := .none, data := Data.fields #[] }
noncomputable def q12_805 : Obj := qtup [qs "self" 1224, qs "a" 1225, qs "b" 1226, qs "is_odd" 1227, qs "result" 1228]
noncomputable def q12_806 : Obj := qtup []
noncomputable def q12_807 : Obj := qf0 (mth 35 8) "BoolRewriter.same"
noncomputable def q12_808 : Obj := qcode [qs "same" 1221, qs "BoolRewriter.same" 1222, qs "/claim/cut.py" 1223, qi 460 0, qi 3 0, qi 0 0, qi 0 0, qi 3 0, qr 803, .bool true, qi 181 0, qr 804, .none, qr 805, qr 806, qr 807, qi 1229 0, qi 460 0, qs "/claim/cut.py" 1230]
noncomputable def q12_809 : Obj := qfn (mth 35 8) "BoolRewriter.same" [] .none (qs "minismt.rewrite" 1131) (qr 808) .none
noncomputable def q12_810 : Obj := qtup []
noncomputable def q12_811 : Obj := { cls := .none, data := Data.fields #[] }
noncomputable def q12_812 : Obj := qtup [qs "self" 1235, qs "c" 1236, qs "a" 1237, qs "b" 1238]
noncomputable def q12_813 : Obj := qtup []
noncomputable def q12_814 : Obj := qf0 (mth 35 9) "BoolRewriter.chosen_bool"
noncomputable def q12_815 : Obj := qcode [qs "chosen_bool" 1232, qs "BoolRewriter.chosen_bool" 1233, qs "/claim/cut.py" 1234, qi 474 0, qi 4 0, qi 0 0, qi 0 0, qi 3 0, qr 810, .bool true, qi 181 0, qr 811, .none, qr 812, qr 813, qr 814, qi 1239 0, qi 474 0, qs "/claim/cut.py" 1240]
noncomputable def q12_816 : Obj := qfn (mth 35 9) "BoolRewriter.chosen_bool" [] .none (qs "minismt.rewrite" 1131) (qr 815) .none
noncomputable def q12_817 : Obj := qtup []
noncomputable def q12_818 : Obj := { cls := .none, data := Data.fields #[] }
noncomputable def q12_819 : Obj := qtup [qs "self" 1245, qs "c" 1246, qs "a" 1247, qs "b" 1248]
noncomputable def q12_820 : Obj := qtup []
noncomputable def q12_821 : Obj := qf0 (mth 35 10) "BoolRewriter.chosen"
noncomputable def q12_822 : Obj := qcode [qs "chosen" 1242, qs "BoolRewriter.chosen" 1243, qs "/claim/cut.py" 1244, qi 487 0, qi 4 0, qi 0 0, qi 0 0, qi 3 0, qr 817, .bool true, qi 181 0, qr 818, .none, qr 819, qr 820, qr 821, qi 1249 0, qi 487 0, qs "/claim/cut.py" 1250]
noncomputable def q12_823 : Obj := qfn (mth 35 10) "BoolRewriter.chosen" [] .none (qs "minismt.rewrite" 1131) (qr 822) .none
noncomputable def q12_824 : Obj := qtup [qi 0 1252]
noncomputable def q12_825 : Obj := qtup []
noncomputable def q12_826 : Obj := { cls := .none, data := Data.fields #[] }
noncomputable def q12_827 : Obj := qtup [qs "self" 1256, qs "a" 1257, qs "b" 1258, qs "deep" 1259, qs "value" 1260, qs "other" 1261]
noncomputable def q12_828 : Obj := qtup []
noncomputable def q12_829 : Obj := qf0 (mth 35 11) "BoolRewriter.equal"
noncomputable def q12_830 : Obj := qcode [qs "equal" 1253, qs "BoolRewriter.equal" 1254, qs "/claim/cut.py" 1255, qi 500 0, qi 4 0, qi 0 0, qi 0 0, qi 3 0, qr 825, .bool true, qi 181 0, qr 826, .none, qr 827, qr 828, qr 829, qi 1262 0, qi 500 0, qs "/claim/cut.py" 1263]
noncomputable def q12_831 : Obj := qfn (mth 35 11) "BoolRewriter.equal" [] (qr 824) (qs "minismt.rewrite" 1131) (qr 830) .none
noncomputable def q12_832 : Obj := qtup [qi 0 1265]
noncomputable def q12_833 : Obj := qtup []
noncomputable def q12_834 : Obj := { cls := .none, data := Data.fields #[] }
noncomputable def q12_835 : Obj := qtup [qs "self" 1269, qs "a" 1270, qs "b" 1271, qs "deep" 1272]
noncomputable def q12_836 : Obj := qtup []
noncomputable def q12_837 : Obj := qf0 (mth 35 12) "BoolRewriter.equal_others"
noncomputable def q12_838 : Obj := qcode [qs "equal_others" 1266, qs "BoolRewriter.equal_others" 1267, qs "/claim/cut.py" 1268, qi 512 0, qi 4 0, qi 0 0, qi 0 0, qi 3 0, qr 833, .bool true, qi 181 0, qr 834, .none, qr 835, qr 836, qr 837, qi 1273 0, qi 512 0, qs "/claim/cut.py" 1274]
noncomputable def q12_839 : Obj := qfn (mth 35 12) "BoolRewriter.equal_others" [] (qr 832) (qs "minismt.rewrite" 1131) (qr 838) .none
noncomputable def q12_840 : Obj := qtup [qi 0 1276]
noncomputable def q12_841 : Obj := qtup []
noncomputable def q12_842 : Obj := { cls := .none, data := Data.fields #[] }
noncomputable def q12_843 : Obj := qtup [qs "self" 1280, qs "value" 1281, qs "b" 1282, qs "deep" 1283, qs "c" 1284, qs "first" 1285, qs "second" 1286]
noncomputable def q12_844 : Obj := qtup []
noncomputable def q12_845 : Obj := qf0 (mth 35 13) "BoolRewriter.equal_chosen"
noncomputable def q12_846 : Obj := qcode [qs "equal_chosen" 1277, qs "BoolRewriter.equal_chosen" 1278, qs "/claim/cut.py" 1279, qi 515 0, qi 4 0, qi 0 0, qi 0 0, qi 3 0, qr 841, .bool true, qi 181 0, qr 842, .none, qr 843, qr 844, qr 845, qi 1287 0, qi 515 0, qs "/claim/cut.py" 1288]
noncomputable def q12_847 : Obj := qfn (mth 35 13) "BoolRewriter.equal_chosen" [] (qr 840) (qs "minismt.rewrite" 1131) (qr 846) .none
noncomputable def q12_848 : Obj := qtup []
noncomputable def q12_849 : Obj := { cls := .none, data := Data.fields #[] }
noncomputable def q12_850 : Obj := qtup [qs "self" 1293, qs "args" 1294]
noncomputable def q12_851 : Obj := qtup []
noncomputable def q12_852 : Obj := qf0 (mth 35 14) "BoolRewriter.are_too_many"
noncomputable def q12_853 : Obj := qcode [qs "are_too_many" 1290, qs "BoolRewriter.are_too_many" 1291, qs "/claim/cut.py" 1292, qi 521 0, qi 2 0, qi 0 0, qi 0 0, qi 3 0, qr 848, .bool true, qi 181 0, qr 849, .none, qr 850, qr 851, qr 852, qi 1295 0, qi 521 0, qs "/claim/cut.py" 1296]
noncomputable def q12_854 : Obj := qfn (mth 35 14) "BoolRewriter.are_too_many" [] .none (qs "minismt.rewrite" 1131) (qr 853) .none
noncomputable def q12_855 : Obj := qtup []
noncomputable def q12_856 : Obj := { cls := .none, data := Data.fields #[] }
noncomputable def q12_857 : Obj := qtup [qs "self" 1301, qs "t" 1302, qs "args" 1303]
noncomputable def q12_858 : Obj := qtup []
noncomputable def q12_859 : Obj := qf0 (mth 35 15) "BoolRewriter.apart"
noncomputable def q12_860 : Obj := qcode [qs "apart" 1298, qs "BoolRewriter.apart" 1299, qs "/claim/cut.py" 1300, qi 524 0, qi 3 0, qi 0 0, qi 0 0, qi 3 0, qr 855, .bool true, qi 181 0, qr 856, .none, qr 857, qr 858, qr 859, qi 1304 0, qi 524 0, qs "/claim/cut.py" 1305]
noncomputable def q12_861 : Obj := qfn (mth 35 15) "BoolRewriter.apart" [] .none (qs "minismt.rewrite" 1131) (qr 860) .none
noncomputable def q12_862 : Obj := qtup [qs "bank" 1307, qs "known" 1308, qs "no" 1309, qs "yes" 1310]
noncomputable def q12_863 (P : Params) : Obj := qdict (qy "dict") [qe P "__module__" 1142 (qs "minismt.rewrite" 1131), qe P "__firstlineno__" 1146 (qi 403 1145), qe P "__init__" 1154 (qr 755), qe P "simplify" 1162 (qr 762), qe P "made" 1171 (qr 769), qe P "flat" 1185 (qr 776), qe P "thinned" 1191 (qr 781), qe P "joined" 1204 (qr 788), qe P "negated" 1212 (qr 795), qe P "parity" 1220 (qr 802), qe P "same" 1231 (qr 809), qe P "chosen_bool" 1241 (qr 816), qe P "chosen" 1251 (qr 823), qe P "equal" 1264 (qr 831), qe P "equal_others" 1275 (qr 839), qe P "equal_chosen" 1289 (qr 847), qe P "are_too_many" 1297 (qr 854), qe P "apart" 1306 (qr 861), qe P "__static_attributes__" 1311 (qr 862), qe P "__dict__" 1313 (qr 865), qe P "__weakref__" 1315 (qr 866), qe P "__doc__" 1316 .none] 4
noncomputable def q12_864 : Obj := { cls := qy "type", data := Data.cls { name := qS "BoolRewriter", bases := [qy "object"], mro := [qr 864, qy "object"], ns := 863, qualname := qS "BoolRewriter" }, slots := #[none, none, some (qs "BoolRewriter" 1135), some (qs "BoolRewriter" 1143), some (qb "object.__new__"), some (.bool true)] }
noncomputable def q12_865 : Obj := { cls := qy "getset_descriptor", data := Data.fields #[qs "__dict__" 1312, qr 864, qb "function.__dict__", qb "function.__dict__#set"] }
noncomputable def q12_866 : Obj := { cls := qy "getset_descriptor", data := Data.fields #[qs "__weakref__" 1314, qr 864, qb "ExceptionGroup.__weakref__", .none] }
noncomputable def q12_867 : Obj := { cls := qy "super", data := Data.fields #[qr 864, qr 864, qr 864] }
noncomputable def q12_868 : Obj := { cls := qy "builtin_function_or_method", data := Data.fields #[qb "object.__init_subclass__", qr 864] }
noncomputable def qt12 (P : Params) : BT := qins (qt11 P) [(3, q12_3 P), (12, q12_12), (742, q12_742), (743, q12_743), (744, q12_744 P), (745, q12_745), (746, q12_746), (747, q12_747), (748, q12_748), (749, q12_749), (750, q12_750), (751, q12_751), (752, q12_752), (753, q12_753), (754, q12_754), (755, q12_755), (756, q12_756), (757, q12_757), (758, q12_758), (759, q12_759), (760, q12_760), (761, q12_761), (762, q12_762), (763, q12_763), (764, q12_764), (765, q12_765), (766, q12_766), (767, q12_767), (768, q12_768), (769, q12_769), (770, q12_770), (771, q12_771), (772, q12_772), (773, q12_773), (774, q12_774), (775, q12_775), (776, q12_776), (777, q12_777), (778, q12_778), (779, q12_779), (780, q12_780), (781, q12_781), (782, q12_782), (783, q12_783), (784, q12_784), (785, q12_785), (786, q12_786), (787, q12_787), (788, q12_788), (789, q12_789), (790, q12_790), (791, q12_791), (792, q12_792), (793, q12_793), (794, q12_794), (795, q12_795), (796, q12_796), (797, q12_797), (798, q12_798), (799, q12_799), (800, q12_800), (801, q12_801), (802, q12_802), (803, q12_803), (804, q12_804), (805, q12_805), (806, q12_806), (807, q12_807), (808, q12_808), (809, q12_809), (810, q12_810), (811, q12_811), (812, q12_812), (813, q12_813), (814, q12_814), (815, q12_815), (816, q12_816), (817, q12_817), (818, q12_818), (819, q12_819), (820, q12_820), (821, q12_821), (822, q12_822), (823, q12_823), (824, q12_824), (825, q12_825), (826, q12_826), (827, q12_827), (828, q12_828), (829, q12_829), (830, q12_830), (831, q12_831), (832, q12_832), (833, q12_833), (834, q12_834), (835, q12_835), (836, q12_836), (837, q12_837), (838, q12_838), (839, q12_839), (840, q12_840), (841, q12_841), (842, q12_842), (843, q12_843), (844, q12_844), (845, q12_845), (846, q12_846), (847, q12_847), (848, q12_848), (849, q12_849), (850, q12_850), (851, q12_851), (852, q12_852), (853, q12_853), (854, q12_854), (855, q12_855), (856, q12_856), (857, q12_857), (858, q12_858), (859, q12_859), (860, q12_860), (861, q12_861), (862, q12_862), (863, q12_863 P), (864, q12_864), (865, q12_865), (866, q12_866), (867, q12_867), (868, q12_868)]
theorem qp12 (w : World) : (fun os => segRunT treeTable prg w 11 (some (.ref 6)) 1 739 (qsh (qt11 w.params) 742 1135 os) (piecesOf (qcut 35 1) qenv qB ⟨402, 0, 402, 7⟩ qF)) = fun os => some (.next, qsh (qt12 w.params) 869 1319 os, qB, ⟨403, 0, 525, 17⟩) := by
  rw [PySem.W.Fast.te10110043849684766642, PySem.W.Fast.te14364793385576792824]; kernel_rfl
noncomputable def q13_3 (P : Params) : Obj := qdict (qy "dict") [qe P "__name__" 165 (qs "minismt.rewrite" 1131), qe P "__doc__" 166 .none, qe P "__package__" 167 .none, qe P "__loader__" 168 (qb "__main__.__loader__#opaque"), qe P "__spec__" 169 .none, qe P "__annotations__" 170 (qr 6), qe P "__builtins__" 171 (qr 4), qe P "__file__" 173 (qs "/claim/cut.py" 172), qe P "__cached__" 174 .none, qe P "_wall" 193 (qr 21), qe P "SmtError" 233 (qr 47), qe P "SortFault" 256 (qr 67), qe P "LimitFault" 279 (qr 86), qe P "ModelFault" 302 (qr 105), qe P "gcd_of" 312 (qr 114), qe P "ratio" 321 (qr 121), qe P "mul" 329 (qr 128), qe P "is_whole" 336 (qr 135), qe P "mask_of" 345 (qr 142), qe P "signed_of" 353 (qr 149), qe P "one_value" 362 (qr 156), qe P "divided_value" 371 (qr 163), qe P "rest_value" 379 (qr 170), qe P "shifted_value" 389 (qr 177), qe P "two_value" 399 (qr 184), qe P "extract_value" 408 (qr 191), qe P "sign_extended" 417 (qr 198), qe P "bit_value" 425 (qr 205), qe P "BOOL" 427 (qi 0 426), qe P "INT" 429 (qi 1 428), qe P "REAL" 431 (qi 2 430), qe P "WIDEST" 433 (qi 4096 432), qe P "MOST_BITS" 437 (qi 65536 436), qe P "VALUE_OPS" 442 (qr 206), qe P "Bank" 720 (qr 419), qe P "BoolBank" 853 (qr 524), qe P "want_small" 860 (qr 533), qe P "NumberBank" 974 (qr 620), qe P "TermBank" 1130 (qr 739), qe P "DEEPEST" 1134 (qi 50 1133), qe P "BoolRewriter" 1318 (qr 864), qe P "BitsRewriter" 1595 (qr 1058)] 42
noncomputable def q13_12 : Obj := { cls := .none, data := Data.fields #[qi 1 0, qi 0 0, qr 20, qi 5 0, qi 0 0, qr 28, qi 13 0, qi 0 0, qr 56, qi 17 0, qi 0 0, qr 75, qi 21 0, qi 0 0, qr 94, qi 26 0, qi 0 0, qr 113, qi 31 0, qi 0 0, qr 120, qi 38 0, qi 0 0, qr 127, qi 42 0, qi 0 0, qr 134, qi 45 0, qi 0 0, qr 141, qi 47 0, qi 0 0, qr 148, qi 49 0, qi 0 0, qr 155, qi 55 0, qi 0 0, qr 162, qi 57 0, qi 0 0, qr 169, qi 59 0, qi 0 0, qr 176, qi 63 0, qi 0 0, qr 183, qi 83 0, qi 0 0, qr 190, qi 85 0, qi 0 0, qr 197, qi 87 0, qi 0 0, qr 204, qi 95 0, qi 0 0, qr 212, qi 209 0, qi 0 0, qr 429, qi 273 0, qi 0 0, qr 532, qi 276 0, qi 0 0, qr 539, qi 326 0, qi 0 0, qr 629, qi 403 0, qi 0 0, qr 747, qi 526 0, qi 0 0, qr 875] }
noncomputable def q13_864 : Obj := { cls := qy "type", data := Data.cls { name := qS "BoolRewriter", bases := [qy "object"], mro := [qr 864, qy "object"], ns := 863, qualname := qS "BoolRewriter", subclasses := [qr 1058] }, slots := #[none, none, some (qs "BoolRewriter" 1135), some (qs "BoolRewriter" 1143), some (qb "object.__new__"), some (.bool true)] }
noncomputable def q13_869 : Obj := qtup [qr 864]
noncomputable def q13_870 : Obj := { cls := qy "builtin_function_or_method", data := Data.fields #[qb "type.__prepare__", qy "type"] }
noncomputable def q13_871 (P : Params) : Obj := qdict (qy "dict") [qe P "__module__" 1326 (qs "minismt.rewrite" 1131), qe P "__qualname__" 1328 (qs "BitsRewriter" 1327), qe P "__firstlineno__" 1330 (qi 526 1329), qe P "made" 1339 (qr 883), qe P "equal_others" 1351 (qr 892), qe P "are_too_many" 1359 (qr 899), qe P "is_bits" 1367 (qr 906), qe P "value_or" 1376 (qr 913), qe P "number" 1385 (qr 920), qe P "one_bits" 1394 (qr 927), qe P "two_bits" 1404 (qr 934), qe P "mixed_bits" 1414 (qr 941), qe P "is_turned" 1424 (qr 948), qe P "mixed_number" 1434 (qr 955), qe P "less_bits" 1443 (qr 962), qe P "shifted_bits" 1453 (qr 969), qe P "divided_bits" 1463 (qr 976), qe P "asked_bits" 1473 (qr 983), qe P "put_together" 1482 (qr 990), qe P "cut_out" 1492 (qr 997), qe P "cut_within" 1502 (qr 1004), qe P "cut_here" 1512 (qr 1011), qe P "wider" 1521 (qr 1018), qe P "wider_signed" 1530 (qr 1025), qe P "equal_bits" 1541 (qr 1033), qe P "equal_number" 1565 (qr 1041), qe P "bit_of" 1578 (qr 1048), qe P "bit_within" 1590 (qr 1055), qe P "__static_attributes__" 1591 (qr 1056), qe P "__classcell__" 1592 (qr 872)] 30
noncomputable def q13_872 : Obj := { cls := qy "cell", data := Data.cell (some (qr 1058)) }
noncomputable def q13_873 : Obj := qtup []
noncomputable def q13_874 : Obj := { cls := .none, data := Data.fields #[qi 528 0, qi 4 0, qr 882, qi 531 0, qi 4 0, qr 891, qi 534 0, qi 4 0, qr 898, qi 537 0, qi 4 0, qr 905, qi 540 0, qi 4 0, qr 912, qi 543 0, qi 4 0, qr 919, qi 546 0, qi 4 0, qr 926, qi 549 0, qi 4 0, qr 933, qi 552 0, qi 4 0, qr 940, qi 555 0, qi 4 0, qr 947, qi 560 0, qi 4 0, qr 954, qi 563 0, qi 4 0, qr 961, qi 566 0, qi 4 0, qr 968, qi 569 0, qi 4 0, qr 975, qi 572 0, qi 4 0, qr 982, qi 575 0, qi 4 0, qr 989, qi 578 0, qi 4 0, qr 996, qi 581 0, qi 4 0, qr 1003, qi 584 0, qi 4 0, qr 1010, qi 587 0, qi 4 0, qr 1017, qi 590 0, qi 4 0, qr 1024, qi 593 0, qi 4 0, qr 1032, qi 604 0, qi 4 0, qr 1040, qi 633 0, qi 4 0, qr 1047, qi 648 0, qi 4 0, qr 1054] }
noncomputable def q13_875 : Obj := qcode [qs "BitsRewriter" 1321, qs "BitsRewriter" 1322, qs "/claim/cut.py" 1323, qi 526 0, qi 0 0, qi 0 0, qi 0 0, qi 0 0, qr 873, .bool false, qi 181 0, qr 874, .none, .none, .none, .none, qi 1324 0, qi 526 0, qs "/claim/cut.py" 1325]
noncomputable def q13_876 : Obj := { cls := qy "frame", slots := #[some (qr 875), some (qr 3), some (qr 871), none, some (qs "minismt.rewrite" 1131), none, some (qr 0)] }
noncomputable def q13_877 : Obj := qtup []
noncomputable def q13_878 : Obj := { cls := .none, data := Data.fields #[] }
noncomputable def q13_879 : Obj := qtup [qs "self" 1334, qs "t" 1335, qs "args" 1336]
noncomputable def q13_880 : Obj := qtup []
noncomputable def q13_881 : Obj := qf0 (mth 36 0) "BitsRewriter.made"
noncomputable def q13_882 : Obj := qcode [qs "made" 1331, qs "BitsRewriter.made" 1332, qs "/claim/cut.py" 1333, qi 528 0, qi 3 0, qi 0 0, qi 0 0, qi 3 0, qr 877, .bool true, qi 181 0, qr 878, .none, qr 879, qr 880, qr 881, qi 1337 0, qi 528 0, qs "/claim/cut.py" 1338]
noncomputable def q13_883 : Obj := qfn (mth 36 0) "BitsRewriter.made" [] .none (qs "minismt.rewrite" 1131) (qr 882) .none
noncomputable def q13_884 : Obj := qtup [qi 0 1340]
noncomputable def q13_885 : Obj := qtup [qr 872]
noncomputable def q13_886 : Obj := qtup [qs "__class__" 1344]
noncomputable def q13_887 : Obj := { cls := .none, data := Data.fields #[] }
noncomputable def q13_888 : Obj := qtup [qs "self" 1345, qs "a" 1346, qs "b" 1347, qs "deep" 1348]
noncomputable def q13_889 : Obj := qtup []
noncomputable def q13_890 : Obj := qf0 (mth 36 1) "BitsRewriter.equal_others"
noncomputable def q13_891 : Obj := qcode [qs "equal_others" 1341, qs "BitsRewriter.equal_others" 1342, qs "/claim/cut.py" 1343, qi 531 0, qi 4 0, qi 0 0, qi 0 0, qi 3 0, qr 886, .bool true, qi 181 0, qr 887, .none, qr 888, qr 889, qr 890, qi 1349 0, qi 531 0, qs "/claim/cut.py" 1350]
noncomputable def q13_892 : Obj := qfn (mth 36 1) "BitsRewriter.equal_others" [(qS "__class__", 872)] (qr 884) (qs "minismt.rewrite" 1131) (qr 891) (qr 885)
noncomputable def q13_893 : Obj := qtup []
noncomputable def q13_894 : Obj := { cls := .none, data := Data.fields #[] }
noncomputable def q13_895 : Obj := qtup [qs "self" 1355, qs "args" 1356]
noncomputable def q13_896 : Obj := qtup []
noncomputable def q13_897 : Obj := qf0 (mth 36 2) "BitsRewriter.are_too_many"
noncomputable def q13_898 : Obj := qcode [qs "are_too_many" 1352, qs "BitsRewriter.are_too_many" 1353, qs "/claim/cut.py" 1354, qi 534 0, qi 2 0, qi 0 0, qi 0 0, qi 3 0, qr 893, .bool true, qi 181 0, qr 894, .none, qr 895, qr 896, qr 897, qi 1357 0, qi 534 0, qs "/claim/cut.py" 1358]
noncomputable def q13_899 : Obj := qfn (mth 36 2) "BitsRewriter.are_too_many" [] .none (qs "minismt.rewrite" 1131) (qr 898) .none
noncomputable def q13_900 : Obj := qtup []
noncomputable def q13_901 : Obj := { cls := .none, data := Data.fields #[] }
noncomputable def q13_902 : Obj := qtup [qs "self" 1363, qs "t" 1364]
noncomputable def q13_903 : Obj := qtup []
noncomputable def q13_904 : Obj := qf0 (mth 36 3) "BitsRewriter.is_bits"
noncomputable def q13_905 : Obj := qcode [qs "is_bits" 1360, qs "BitsRewriter.is_bits" 1361, qs "/claim/cut.py" 1362, qi 537 0, qi 2 0, qi 0 0, qi 0 0, qi 3 0, qr 900, .bool true, qi 181 0, qr 901, .none, qr 902, qr 903, qr 904, qi 1365 0, qi 537 0, qs "/claim/cut.py" 1366]
noncomputable def q13_906 : Obj := qfn (mth 36 3) "BitsRewriter.is_bits" [] .none (qs "minismt.rewrite" 1131) (qr 905) .none
noncomputable def q13_907 : Obj := qtup []
noncomputable def q13_908 : Obj := { cls := .none, data := Data.fields #[] }
noncomputable def q13_909 : Obj := qtup [qs "self" 1371, qs "t" 1372, qs "other" 1373]
noncomputable def q13_910 : Obj := qtup []
noncomputable def q13_911 : Obj := qf0 (mth 36 4) "BitsRewriter.value_or"
noncomputable def q13_912 : Obj := qcode [qs "value_or" 1368, qs "BitsRewriter.value_or" 1369, qs "/claim/cut.py" 1370, qi 540 0, qi 3 0, qi 0 0, qi 0 0, qi 3 0, qr 907, .bool true, qi 181 0, qr 908, .none, qr 909, qr 910, qr 911, qi 1374 0, qi 540 0, qs "/claim/cut.py" 1375]
noncomputable def q13_913 : Obj := qfn (mth 36 4) "BitsRewriter.value_or" [] .none (qs "minismt.rewrite" 1131) (qr 912) .none
noncomputable def q13_914 : Obj := qtup []
noncomputable def q13_915 : Obj := { cls := .none, data := Data.fields #[] }
noncomputable def q13_916 : Obj := qtup [qs "self" 1380, qs "value" 1381, qs "like" 1382]
noncomputable def q13_917 : Obj := qtup []
noncomputable def q13_918 : Obj := qf0 (mth 36 5) "BitsRewriter.number"
noncomputable def q13_919 : Obj := qcode [qs "number" 1377, qs "BitsRewriter.number" 1378, qs "/claim/cut.py" 1379, qi 543 0, qi 3 0, qi 0 0, qi 0 0, qi 3 0, qr 914, .bool true, qi 181 0, qr 915, .none, qr 916, qr 917, qr 918, qi 1383 0, qi 543 0, qs "/claim/cut.py" 1384]
noncomputable def q13_920 : Obj := qfn (mth 36 5) "BitsRewriter.number" [] .none (qs "minismt.rewrite" 1131) (qr 919) .none
noncomputable def q13_921 : Obj := qtup []
noncomputable def q13_922 : Obj := { cls := .none, data := Data.fields #[] }
noncomputable def q13_923 : Obj := qtup [qs "self" 1389, qs "op" 1390, qs "a" 1391]
noncomputable def q13_924 : Obj := qtup []
noncomputable def q13_925 : Obj := qf0 (mth 36 6) "BitsRewriter.one_bits"
noncomputable def q13_926 : Obj := qcode [qs "one_bits" 1386, qs "BitsRewriter.one_bits" 1387, qs "/claim/cut.py" 1388, qi 546 0, qi 3 0, qi 0 0, qi 0 0, qi 3 0, qr 921, .bool true, qi 181 0, qr 922, .none, qr 923, qr 924, qr 925, qi 1392 0, qi 546 0, qs "/claim/cut.py" 1393]
noncomputable def q13_927 : Obj := qfn (mth 36 6) "BitsRewriter.one_bits" [] .none (qs "minismt.rewrite" 1131) (qr 926) .none
noncomputable def q13_928 : Obj := qtup []
noncomputable def q13_929 : Obj := { cls := .none, data := Data.fields #[] }
noncomputable def q13_930 : Obj := qtup [qs "self" 1398, qs "op" 1399, qs "a" 1400, qs "b" 1401]
noncomputable def q13_931 : Obj := qtup []
noncomputable def q13_932 : Obj := qf0 (mth 36 7) "BitsRewriter.two_bits"
noncomputable def q13_933 : Obj := qcode [qs "two_bits" 1395, qs "BitsRewriter.two_bits" 1396, qs "/claim/cut.py" 1397, qi 549 0, qi 4 0, qi 0 0, qi 0 0, qi 3 0, qr 928, .bool true, qi 181 0, qr 929, .none, qr 930, qr 931, qr 932, qi 1402 0, qi 549 0, qs "/claim/cut.py" 1403]
noncomputable def q13_934 : Obj := qfn (mth 36 7) "BitsRewriter.two_bits" [] .none (qs "minismt.rewrite" 1131) (qr 933) .none
noncomputable def q13_935 : Obj := qtup []
noncomputable def q13_936 : Obj := { cls := .none, data := Data.fields #[] }
noncomputable def q13_937 : Obj := qtup [qs "self" 1408, qs "op" 1409, qs "a" 1410, qs "b" 1411]
noncomputable def q13_938 : Obj := qtup []
noncomputable def q13_939 : Obj := qf0 (mth 36 8) "BitsRewriter.mixed_bits"
noncomputable def q13_940 : Obj := qcode [qs "mixed_bits" 1405, qs "BitsRewriter.mixed_bits" 1406, qs "/claim/cut.py" 1407, qi 552 0, qi 4 0, qi 0 0, qi 0 0, qi 3 0, qr 935, .bool true, qi 181 0, qr 936, .none, qr 937, qr 938, qr 939, qi 1412 0, qi 552 0, qs "/claim/cut.py" 1413]
noncomputable def q13_941 : Obj := qfn (mth 36 8) "BitsRewriter.mixed_bits" [] .none (qs "minismt.rewrite" 1131) (qr 940) .none
noncomputable def q13_942 : Obj := qtup []
noncomputable def q13_943 : Obj := { cls := .none, data := Data.fields #[] }
noncomputable def q13_944 : Obj := qtup [qs "self" 1418, qs "op" 1419, qs "a" 1420, qs "b" 1421]
noncomputable def q13_945 : Obj := qtup []
noncomputable def q13_946 : Obj := qf0 (mth 36 9) "BitsRewriter.is_turned"
noncomputable def q13_947 : Obj := qcode [qs "is_turned" 1415, qs "BitsRewriter.is_turned" 1416, qs "/claim/cut.py" 1417, qi 555 0, qi 4 0, qi 0 0, qi 0 0, qi 3 0, qr 942, .bool true, qi 181 0, qr 943, .none, qr 944, qr 945, qr 946, qi 1422 0, qi 555 0, qs "/claim/cut.py" 1423]
noncomputable def q13_948 : Obj := qfn (mth 36 9) "BitsRewriter.is_turned" [] .none (qs "minismt.rewrite" 1131) (qr 947) .none
noncomputable def q13_949 : Obj := qtup []
noncomputable def q13_950 : Obj := { cls := .none, data := Data.fields #[] }
noncomputable def q13_951 : Obj := qtup [qs "self" 1428, qs "op" 1429, qs "value" 1430, qs "b" 1431]
noncomputable def q13_952 : Obj := qtup []
noncomputable def q13_953 : Obj := qf0 (mth 36 10) "BitsRewriter.mixed_number"
noncomputable def q13_954 : Obj := qcode [qs "mixed_number" 1425, qs "BitsRewriter.mixed_number" 1426, qs "/claim/cut.py" 1427, qi 560 0, qi 4 0, qi 0 0, qi 0 0, qi 3 0, qr 949, .bool true, qi 181 0, qr 950, .none, qr 951, qr 952, qr 953, qi 1432 0, qi 560 0, qs "/claim/cut.py" 1433]
noncomputable def q13_955 : Obj := qfn (mth 36 10) "BitsRewriter.mixed_number" [] .none (qs "minismt.rewrite" 1131) (qr 954) .none
noncomputable def q13_956 : Obj := qtup []
noncomputable def q13_957 : Obj := { cls := .none, data := Data.fields #[] }
noncomputable def q13_958 : Obj := qtup [qs "self" 1438, qs "a" 1439, qs "b" 1440]
noncomputable def q13_959 : Obj := qtup []
noncomputable def q13_960 : Obj := qf0 (mth 36 11) "BitsRewriter.less_bits"
noncomputable def q13_961 : Obj := qcode [qs "less_bits" 1435, qs "BitsRewriter.less_bits" 1436, qs "/claim/cut.py" 1437, qi 563 0, qi 3 0, qi 0 0, qi 0 0, qi 3 0, qr 956, .bool true, qi 181 0, qr 957, .none, qr 958, qr 959, qr 960, qi 1441 0, qi 563 0, qs "/claim/cut.py" 1442]
noncomputable def q13_962 : Obj := qfn (mth 36 11) "BitsRewriter.less_bits" [] .none (qs "minismt.rewrite" 1131) (qr 961) .none
noncomputable def q13_963 : Obj := qtup []
noncomputable def q13_964 : Obj := { cls := .none, data := Data.fields #[] }
noncomputable def q13_965 : Obj := qtup [qs "self" 1447, qs "op" 1448, qs "a" 1449, qs "b" 1450]
noncomputable def q13_966 : Obj := qtup []
noncomputable def q13_967 : Obj := qf0 (mth 36 12) "BitsRewriter.shifted_bits"
noncomputable def q13_968 : Obj := qcode [qs "shifted_bits" 1444, qs "BitsRewriter.shifted_bits" 1445, qs "/claim/cut.py" 1446, qi 566 0, qi 4 0, qi 0 0, qi 0 0, qi 3 0, qr 963, .bool true, qi 181 0, qr 964, .none, qr 965, qr 966, qr 967, qi 1451 0, qi 566 0, qs "/claim/cut.py" 1452]
noncomputable def q13_969 : Obj := qfn (mth 36 12) "BitsRewriter.shifted_bits" [] .none (qs "minismt.rewrite" 1131) (qr 968) .none
noncomputable def q13_970 : Obj := qtup []
noncomputable def q13_971 : Obj := { cls := .none, data := Data.fields #[] }
noncomputable def q13_972 : Obj := qtup [qs "self" 1457, qs "op" 1458, qs "a" 1459, qs "b" 1460]
noncomputable def q13_973 : Obj := qtup []
noncomputable def q13_974 : Obj := qf0 (mth 36 13) "BitsRewriter.divided_bits"
noncomputable def q13_975 : Obj := qcode [qs "divided_bits" 1454, qs "BitsRewriter.divided_bits" 1455, qs "/claim/cut.py" 1456, qi 569 0, qi 4 0, qi 0 0, qi 0 0, qi 3 0, qr 970, .bool true, qi 181 0, qr 971, .none, qr 972, qr 973, qr 974, qi 1461 0, qi 569 0, qs "/claim/cut.py" 1462]
noncomputable def q13_976 : Obj := qfn (mth 36 13) "BitsRewriter.divided_bits" [] .none (qs "minismt.rewrite" 1131) (qr 975) .none
noncomputable def q13_977 : Obj := qtup []
noncomputable def q13_978 : Obj := { cls := .none, data := Data.fields #[] }
noncomputable def q13_979 : Obj := qtup [qs "self" 1467, qs "op" 1468, qs "a" 1469, qs "b" 1470]
noncomputable def q13_980 : Obj := qtup []
noncomputable def q13_981 : Obj := qf0 (mth 36 14) "BitsRewriter.asked_bits"
noncomputable def q13_982 : Obj := qcode [qs "asked_bits" 1464, qs "BitsRewriter.asked_bits" 1465, qs "/claim/cut.py" 1466, qi 572 0, qi 4 0, qi 0 0, qi 0 0, qi 3 0, qr 977, .bool true, qi 181 0, qr 978, .none, qr 979, qr 980, qr 981, qi 1471 0, qi 572 0, qs "/claim/cut.py" 1472]
noncomputable def q13_983 : Obj := qfn (mth 36 14) "BitsRewriter.asked_bits" [] .none (qs "minismt.rewrite" 1131) (qr 982) .none
noncomputable def q13_984 : Obj := qtup []
noncomputable def q13_985 : Obj := { cls := .none, data := Data.fields #[] }
noncomputable def q13_986 : Obj := qtup [qs "self" 1477, qs "a" 1478, qs "b" 1479]
noncomputable def q13_987 : Obj := qtup []
noncomputable def q13_988 : Obj := qf0 (mth 36 15) "BitsRewriter.put_together"
noncomputable def q13_989 : Obj := qcode [qs "put_together" 1474, qs "BitsRewriter.put_together" 1475, qs "/claim/cut.py" 1476, qi 575 0, qi 3 0, qi 0 0, qi 0 0, qi 3 0, qr 984, .bool true, qi 181 0, qr 985, .none, qr 986, qr 987, qr 988, qi 1480 0, qi 575 0, qs "/claim/cut.py" 1481]
noncomputable def q13_990 : Obj := qfn (mth 36 15) "BitsRewriter.put_together" [] .none (qs "minismt.rewrite" 1131) (qr 989) .none
noncomputable def q13_991 : Obj := qtup []
noncomputable def q13_992 : Obj := { cls := .none, data := Data.fields #[] }
noncomputable def q13_993 : Obj := qtup [qs "self" 1486, qs "high" 1487, qs "low" 1488, qs "a" 1489]
noncomputable def q13_994 : Obj := qtup []
noncomputable def q13_995 : Obj := qf0 (mth 36 16) "BitsRewriter.cut_out"
noncomputable def q13_996 : Obj := qcode [qs "cut_out" 1483, qs "BitsRewriter.cut_out" 1484, qs "/claim/cut.py" 1485, qi 578 0, qi 4 0, qi 0 0, qi 0 0, qi 3 0, qr 991, .bool true, qi 181 0, qr 992, .none, qr 993, qr 994, qr 995, qi 1490 0, qi 578 0, qs "/claim/cut.py" 1491]
noncomputable def q13_997 : Obj := qfn (mth 36 16) "BitsRewriter.cut_out" [] .none (qs "minismt.rewrite" 1131) (qr 996) .none
noncomputable def q13_998 : Obj := qtup []
noncomputable def q13_999 : Obj := { cls := .none, data := Data.fields #[] }
noncomputable def q13_1000 : Obj := qtup [qs "self" 1496, qs "high" 1497, qs "low" 1498, qs "a" 1499]
noncomputable def q13_1001 : Obj := qtup []
noncomputable def q13_1002 : Obj := qf0 (mth 36 17) "BitsRewriter.cut_within"
noncomputable def q13_1003 : Obj := qcode [qs "cut_within" 1493, qs "BitsRewriter.cut_within" 1494, qs "/claim/cut.py" 1495, qi 581 0, qi 4 0, qi 0 0, qi 0 0, qi 3 0, qr 998, .bool true, qi 181 0, qr 999, .none, qr 1000, qr 1001, qr 1002, qi 1500 0, qi 581 0, qs "/claim/cut.py" 1501]
noncomputable def q13_1004 : Obj := qfn (mth 36 17) "BitsRewriter.cut_within" [] .none (qs "minismt.rewrite" 1131) (qr 1003) .none
noncomputable def q13_1005 : Obj := qtup []
noncomputable def q13_1006 : Obj := { cls := .none, data := Data.fields #[] }
noncomputable def q13_1007 : Obj := qtup [qs "self" 1506, qs "high" 1507, qs "low" 1508, qs "a" 1509]
noncomputable def q13_1008 : Obj := qtup []
noncomputable def q13_1009 : Obj := qf0 (mth 36 18) "BitsRewriter.cut_here"
noncomputable def q13_1010 : Obj := qcode [qs "cut_here" 1503, qs "BitsRewriter.cut_here" 1504, qs "/claim/cut.py" 1505, qi 584 0, qi 4 0, qi 0 0, qi 0 0, qi 3 0, qr 1005, .bool true, qi 181 0, qr 1006, .none, qr 1007, qr 1008, qr 1009, qi 1510 0, qi 584 0, qs "/claim/cut.py" 1511]
noncomputable def q13_1011 : Obj := qfn (mth 36 18) "BitsRewriter.cut_here" [] .none (qs "minismt.rewrite" 1131) (qr 1010) .none
noncomputable def q13_1012 : Obj := qtup []
noncomputable def q13_1013 : Obj := { cls := .none, data := Data.fields #[] }
noncomputable def q13_1014 : Obj := qtup [qs "self" 1516, qs "many" 1517, qs "a" 1518]
noncomputable def q13_1015 : Obj := qtup []
noncomputable def q13_1016 : Obj := qf0 (mth 36 19) "BitsRewriter.wider"
noncomputable def q13_1017 : Obj := qcode [qs "wider" 1513, qs "BitsRewriter.wider" 1514, qs "/claim/cut.py" 1515, qi 587 0, qi 3 0, qi 0 0, qi 0 0, qi 3 0, qr 1012, .bool true, qi 181 0, qr 1013, .none, qr 1014, qr 1015, qr 1016, qi 1519 0, qi 587 0, qs "/claim/cut.py" 1520]
noncomputable def q13_1018 : Obj := qfn (mth 36 19) "BitsRewriter.wider" [] .none (qs "minismt.rewrite" 1131) (qr 1017) .none
noncomputable def q13_1019 : Obj := qtup []
noncomputable def q13_1020 : Obj := { cls := .none, data := Data.fields #[] }
noncomputable def q13_1021 : Obj := qtup [qs "self" 1525, qs "many" 1526, qs "a" 1527]
noncomputable def q13_1022 : Obj := qtup []
noncomputable def q13_1023 : Obj := qf0 (mth 36 20) "BitsRewriter.wider_signed"
noncomputable def q13_1024 : Obj := qcode [qs "wider_signed" 1522, qs "BitsRewriter.wider_signed" 1523, qs "/claim/cut.py" 1524, qi 590 0, qi 3 0, qi 0 0, qi 0 0, qi 3 0, qr 1019, .bool true, qi 181 0, qr 1020, .none, qr 1021, qr 1022, qr 1023, qi 1528 0, qi 590 0, qs "/claim/cut.py" 1529]
noncomputable def q13_1025 : Obj := qfn (mth 36 20) "BitsRewriter.wider_signed" [] .none (qs "minismt.rewrite" 1131) (qr 1024) .none
noncomputable def q13_1026 : Obj := qtup [qi 0 1531]
noncomputable def q13_1027 : Obj := qtup []
noncomputable def q13_1028 : Obj := { cls := .none, data := Data.fields #[] }
noncomputable def q13_1029 : Obj := qtup [qs "self" 1535, qs "a" 1536, qs "b" 1537, qs "deep" 1538]
noncomputable def q13_1030 : Obj := qtup []
noncomputable def q13_1031 : Obj := qf0 (mth 36 21) "BitsRewriter.equal_bits"
noncomputable def q13_1032 : Obj := qcode [qs "equal_bits" 1532, qs "BitsRewriter.equal_bits" 1533, qs "/claim/cut.py" 1534, qi 593 0, qi 4 0, qi 0 0, qi 0 0, qi 3 0, qr 1027, .bool true, qi 181 0, qr 1028, .none, qr 1029, qr 1030, qr 1031, qi 1539 0, qi 593 0, qs "/claim/cut.py" 1540]
noncomputable def q13_1033 : Obj := qfn (mth 36 21) "BitsRewriter.equal_bits" [] (qr 1026) (qs "minismt.rewrite" 1131) (qr 1032) .none
noncomputable def q13_1034 : Obj := qtup [qi 0 1542]
noncomputable def q13_1035 : Obj := qtup []
noncomputable def q13_1036 : Obj := { cls := .none, data := Data.fields #[] }
noncomputable def q13_1037 : Obj := qtup [qs "self" 1546, qs "value" 1547, qs "b" 1548, qs "deep" 1549, qs "kind" 1550, qs "args" 1551, qs "width" 1552, qs "back" 1553, qs "seam" 1554, qs "high" 1555, qs "low" 1556, qs "both" 1557, qs "part" 1558, qs "wanted" 1559, qs "known" 1560, qs "inner" 1561, qs "is_right" 1562]
noncomputable def q13_1038 : Obj := qtup []
noncomputable def q13_1039 : Obj := qf0 (mth 36 22) "BitsRewriter.equal_number"
noncomputable def q13_1040 : Obj := qcode [qs "equal_number" 1543, qs "BitsRewriter.equal_number" 1544, qs "/claim/cut.py" 1545, qi 604 0, qi 4 0, qi 0 0, qi 0 0, qi 3 0, qr 1035, .bool true, qi 181 0, qr 1036, .none, qr 1037, qr 1038, qr 1039, qi 1563 0, qi 604 0, qs "/claim/cut.py" 1564]
noncomputable def q13_1041 : Obj := qfn (mth 36 22) "BitsRewriter.equal_number" [] (qr 1034) (qs "minismt.rewrite" 1131) (qr 1040) .none
noncomputable def q13_1042 : Obj := qtup []
noncomputable def q13_1043 : Obj := { cls := .none, data := Data.fields #[] }
noncomputable def q13_1044 : Obj := qtup [qs "self" 1569, qs "i" 1570, qs "a" 1571, qs "many" 1572, qs "within" 1573, qs "found" 1574, qs "lap" 1575]
noncomputable def q13_1045 : Obj := qtup []
noncomputable def q13_1046 : Obj := qf0 (mth 36 23) "BitsRewriter.bit_of"
noncomputable def q13_1047 : Obj := qcode [qs "bit_of" 1566, qs "BitsRewriter.bit_of" 1567, qs "/claim/cut.py" 1568, qi 633 0, qi 3 0, qi 0 0, qi 0 0, qi 3 0, qr 1042, .bool true, qi 181 0, qr 1043, .none, qr 1044, qr 1045, qr 1046, qi 1576 0, qi 633 0, qs "/claim/cut.py" 1577]
noncomputable def q13_1048 : Obj := qfn (mth 36 23) "BitsRewriter.bit_of" [] .none (qs "minismt.rewrite" 1131) (qr 1047) .none
noncomputable def q13_1049 : Obj := qtup []
noncomputable def q13_1050 : Obj := { cls := .none, data := Data.fields #[] }
noncomputable def q13_1051 : Obj := qtup [qs "self" 1582, qs "i" 1583, qs "a" 1584, qs "kind" 1585, qs "args" 1586, qs "seam" 1587]
noncomputable def q13_1052 : Obj := qtup []
noncomputable def q13_1053 : Obj := qf0 (mth 36 24) "BitsRewriter.bit_within"
noncomputable def q13_1054 : Obj := qcode [qs "bit_within" 1579, qs "BitsRewriter.bit_within" 1580, qs "/claim/cut.py" 1581, qi 648 0, qi 3 0, qi 0 0, qi 0 0, qi 3 0, qr 1049, .bool true, qi 181 0, qr 1050, .none, qr 1051, qr 1052, qr 1053, qi 1588 0, qi 648 0, qs "/claim/cut.py" 1589]
noncomputable def q13_1055 : Obj := qfn (mth 36 24) "BitsRewriter.bit_within" [] .none (qs "minismt.rewrite" 1131) (qr 1054) .none
noncomputable def q13_1056 : Obj := qtup []
noncomputable def q13_1057 (P : Params) : Obj := qdict (qy "dict") [qe P "__module__" 1326 (qs "minismt.rewrite" 1131), qe P "__firstlineno__" 1330 (qi 526 1329), qe P "made" 1339 (qr 883), qe P "equal_others" 1351 (qr 892), qe P "are_too_many" 1359 (qr 899), qe P "is_bits" 1367 (qr 906), qe P "value_or" 1376 (qr 913), qe P "number" 1385 (qr 920), qe P "one_bits" 1394 (qr 927), qe P "two_bits" 1404 (qr 934), qe P "mixed_bits" 1414 (qr 941), qe P "is_turned" 1424 (qr 948), qe P "mixed_number" 1434 (qr 955), qe P "less_bits" 1443 (qr 962), qe P "shifted_bits" 1453 (qr 969), qe P "divided_bits" 1463 (qr 976), qe P "asked_bits" 1473 (qr 983), qe P "put_together" 1482 (qr 990), qe P "cut_out" 1492 (qr 997), qe P "cut_within" 1502 (qr 1004), qe P "cut_here" 1512 (qr 1011), qe P "wider" 1521 (qr 1018), qe P "wider_signed" 1530 (qr 1025), qe P "equal_bits" 1541 (qr 1033), qe P "equal_number" 1565 (qr 1041), qe P "bit_of" 1578 (qr 1048), qe P "bit_within" 1590 (qr 1055), qe P "__static_attributes__" 1591 (qr 1056), qe P "__doc__" 1593 .none] 3
noncomputable def q13_1058 : Obj := { cls := qy "type", data := Data.cls { name := qS "BitsRewriter", bases := [qr 864], mro := [qr 1058, qr 864, qy "object"], ns := 1057, qualname := qS "BitsRewriter" }, slots := #[some (qr 869), none, some (qs "BitsRewriter" 1319), some (qs "BitsRewriter" 1327), some (qb "object.__new__"), some (.bool true)] }
noncomputable def q13_1059 : Obj := { cls := qy "super", data := Data.fields #[qr 1058, qr 1058, qr 1058] }
noncomputable def q13_1060 : Obj := { cls := qy "builtin_function_or_method", data := Data.fields #[qb "object.__init_subclass__", qr 1058] }
noncomputable def qt13 (P : Params) : BT := qins (qt12 P) [(3, q13_3 P), (12, q13_12), (864, q13_864), (869, q13_869), (870, q13_870), (871, q13_871 P), (872, q13_872), (873, q13_873), (874, q13_874), (875, q13_875), (876, q13_876), (877, q13_877), (878, q13_878), (879, q13_879), (880, q13_880), (881, q13_881), (882, q13_882), (883, q13_883), (884, q13_884), (885, q13_885), (886, q13_886), (887, q13_887), (888, q13_888), (889, q13_889), (890, q13_890), (891, q13_891), (892, q13_892), (893, q13_893), (894, q13_894), (895, q13_895), (896, q13_896), (897, q13_897), (898, q13_898), (899, q13_899), (900, q13_900), (901, q13_901), (902, q13_902), (903, q13_903), (904, q13_904), (905, q13_905), (906, q13_906), (907, q13_907), (908, q13_908), (909, q13_909), (910, q13_910), (911, q13_911), (912, q13_912), (913, q13_913), (914, q13_914), (915, q13_915), (916, q13_916), (917, q13_917), (918, q13_918), (919, q13_919), (920, q13_920), (921, q13_921), (922, q13_922), (923, q13_923), (924, q13_924), (925, q13_925), (926, q13_926), (927, q13_927), (928, q13_928), (929, q13_929), (930, q13_930), (931, q13_931), (932, q13_932), (933, q13_933), (934, q13_934), (935, q13_935), (936, q13_936), (937, q13_937), (938, q13_938), (939, q13_939), (940, q13_940), (941, q13_941), (942, q13_942), (943, q13_943), (944, q13_944), (945, q13_945), (946, q13_946), (947, q13_947), (948, q13_948), (949, q13_949), (950, q13_950), (951, q13_951), (952, q13_952), (953, q13_953), (954, q13_954), (955, q13_955), (956, q13_956), (957, q13_957), (958, q13_958), (959, q13_959), (960, q13_960), (961, q13_961), (962, q13_962), (963, q13_963), (964, q13_964), (965, q13_965), (966, q13_966), (967, q13_967), (968, q13_968), (969, q13_969), (970, q13_970), (971, q13_971), (972, q13_972), (973, q13_973), (974, q13_974), (975, q13_975), (976, q13_976), (977, q13_977), (978, q13_978), (979, q13_979), (980, q13_980), (981, q13_981), (982, q13_982), (983, q13_983), (984, q13_984), (985, q13_985), (986, q13_986), (987, q13_987), (988, q13_988), (989, q13_989), (990, q13_990), (991, q13_991), (992, q13_992), (993, q13_993), (994, q13_994), (995, q13_995), (996, q13_996), (997, q13_997), (998, q13_998), (999, q13_999), (1000, q13_1000), (1001, q13_1001), (1002, q13_1002), (1003, q13_1003), (1004, q13_1004), (1005, q13_1005), (1006, q13_1006), (1007, q13_1007), (1008, q13_1008), (1009, q13_1009), (1010, q13_1010), (1011, q13_1011), (1012, q13_1012), (1013, q13_1013), (1014, q13_1014), (1015, q13_1015), (1016, q13_1016), (1017, q13_1017), (1018, q13_1018), (1019, q13_1019), (1020, q13_1020), (1021, q13_1021), (1022, q13_1022), (1023, q13_1023), (1024, q13_1024), (1025, q13_1025), (1026, q13_1026), (1027, q13_1027), (1028, q13_1028), (1029, q13_1029), (1030, q13_1030), (1031, q13_1031), (1032, q13_1032), (1033, q13_1033), (1034, q13_1034), (1035, q13_1035), (1036, q13_1036), (1037, q13_1037), (1038, q13_1038), (1039, q13_1039), (1040, q13_1040), (1041, q13_1041), (1042, q13_1042), (1043, q13_1043), (1044, q13_1044), (1045, q13_1045), (1046, q13_1046), (1047, q13_1047), (1048, q13_1048), (1049, q13_1049), (1050, q13_1050), (1051, q13_1051), (1052, q13_1052), (1053, q13_1053), (1054, q13_1054), (1055, q13_1055), (1056, q13_1056), (1057, q13_1057 P), (1058, q13_1058), (1059, q13_1059), (1060, q13_1060)]
theorem qp13 (w : World) : (fun os => segRunT treeTable prg w 11 (some (.ref 6)) 1 1091 (qsh (qt12 w.params) 869 1319 os) (piecesOf (qcut 36 1) qenv qB ⟨403, 0, 525, 17⟩ qF)) = fun os => some (.next, qsh (qt13 w.params) 1061 1596 os, qB, ⟨526, 0, 661, 19⟩) := by
  rw [PySem.W.Fast.te10110043849684766642, PySem.W.Fast.te14364793385576792824]; kernel_rfl
noncomputable def q14_3 (P : Params) : Obj := qdict (qy "dict") [qe P "__name__" 165 (qs "law_sj0105_01" 1596), qe P "__doc__" 166 .none, qe P "__package__" 167 .none, qe P "__loader__" 168 (qb "__main__.__loader__#opaque"), qe P "__spec__" 169 .none, qe P "__annotations__" 170 (qr 6), qe P "__builtins__" 171 (qr 4), qe P "__file__" 173 (qs "/claim/cut.py" 172), qe P "__cached__" 174 .none, qe P "_wall" 193 (qr 21), qe P "SmtError" 233 (qr 47), qe P "SortFault" 256 (qr 67), qe P "LimitFault" 279 (qr 86), qe P "ModelFault" 302 (qr 105), qe P "gcd_of" 312 (qr 114), qe P "ratio" 321 (qr 121), qe P "mul" 329 (qr 128), qe P "is_whole" 336 (qr 135), qe P "mask_of" 345 (qr 142), qe P "signed_of" 353 (qr 149), qe P "one_value" 362 (qr 156), qe P "divided_value" 371 (qr 163), qe P "rest_value" 379 (qr 170), qe P "shifted_value" 389 (qr 177), qe P "two_value" 399 (qr 184), qe P "extract_value" 408 (qr 191), qe P "sign_extended" 417 (qr 198), qe P "bit_value" 425 (qr 205), qe P "BOOL" 427 (qi 0 426), qe P "INT" 429 (qi 1 428), qe P "REAL" 431 (qi 2 430), qe P "WIDEST" 433 (qi 4096 432), qe P "MOST_BITS" 437 (qi 65536 436), qe P "VALUE_OPS" 442 (qr 206), qe P "Bank" 720 (qr 419), qe P "BoolBank" 853 (qr 524), qe P "want_small" 860 (qr 533), qe P "NumberBank" 974 (qr 620), qe P "TermBank" 1130 (qr 739), qe P "DEEPEST" 1134 (qi 50 1133), qe P "BoolRewriter" 1318 (qr 864), qe P "BitsRewriter" 1595 (qr 1058), qe P "_law_next" 1606 (qr 1067), qe P "_law_drawn" 1612 (qr 1072), qe P "_law_bottom" 1626 (qr 1079), qe P "_law_upon" 1637 (qr 1086), qe P "_law_often" 1643 (qr 1091), qe P "_law_round" 1649 (qr 1096), qe P "_law_widened" 1655 (qr 1101), qe P "_law_course" 1661 (qr 1106), qe P "_law_grown" 1667 (qr 1111), qe P "_law_due" 1676 (qr 1118), qe P "law" 1682 (qr 1123)] 53
noncomputable def q14_12 : Obj := { cls := .none, data := Data.fields #[qi 1 0, qi 0 0, qr 20, qi 5 0, qi 0 0, qr 28, qi 13 0, qi 0 0, qr 56, qi 17 0, qi 0 0, qr 75, qi 21 0, qi 0 0, qr 94, qi 26 0, qi 0 0, qr 113, qi 31 0, qi 0 0, qr 120, qi 38 0, qi 0 0, qr 127, qi 42 0, qi 0 0, qr 134, qi 45 0, qi 0 0, qr 141, qi 47 0, qi 0 0, qr 148, qi 49 0, qi 0 0, qr 155, qi 55 0, qi 0 0, qr 162, qi 57 0, qi 0 0, qr 169, qi 59 0, qi 0 0, qr 176, qi 63 0, qi 0 0, qr 183, qi 83 0, qi 0 0, qr 190, qi 85 0, qi 0 0, qr 197, qi 87 0, qi 0 0, qr 204, qi 95 0, qi 0 0, qr 212, qi 209 0, qi 0 0, qr 429, qi 273 0, qi 0 0, qr 532, qi 276 0, qi 0 0, qr 539, qi 326 0, qi 0 0, qr 629, qi 403 0, qi 0 0, qr 747, qi 526 0, qi 0 0, qr 875, qi 663 0, qi 0 0, qr 1066, qi 667 0, qi 0 0, qr 1071, qi 673 0, qi 0 0, qr 1078, qi 680 0, qi 0 0, qr 1085, qi 688 0, qi 0 0, qr 1090, qi 695 0, qi 0 0, qr 1095, qi 699 0, qi 0 0, qr 1100, qi 718 0, qi 0 0, qr 1105, qi 731 0, qi 0 0, qr 1110, qi 739 0, qi 0 0, qr 1117, qi 741 0, qi 0 0, qr 1122] }
noncomputable def q14_1061 : Obj := qtup []
noncomputable def q14_1062 : Obj := { cls := .none, data := Data.fields #[] }
noncomputable def q14_1063 : Obj := qtup [qs "tin" 1601, qs "many" 1602, qs "k" 1603]
noncomputable def q14_1064 : Obj := qtup []
noncomputable def q14_1065 : Obj := qf0 (nthS top 38) "_law_next"
noncomputable def q14_1066 : Obj := qcode [qs "_law_next" 1598, qs "_law_next" 1599, qs "/claim/cut.py" 1600, qi 663 0, qi 2 0, qi 0 0, qi 0 0, qi 3 0, qr 1061, .bool true, qi 181 0, qr 1062, .none, qr 1063, qr 1064, qr 1065, qi 1604 0, qi 663 0, qs "/claim/cut.py" 1605]
noncomputable def q14_1067 : Obj := qfn (nthS top 38) "_law_next" [] .none (qs "law_sj0105_01" 1596) (qr 1066) .none
noncomputable def q14_1068 : Obj := qtup []
noncomputable def q14_1069 : Obj := { cls := .none, data := Data.fields #[] }
noncomputable def q14_1070 : Obj := qf0 (nthS top 39) "_law_drawn"
noncomputable def q14_1071 : Obj := qcode [qs "_law_drawn" 1607, qs "_law_drawn" 1608, qs "/claim/cut.py" 1609, qi 667 0, qi 4 0, qi 0 0, qi 0 0, qi 3 0, qr 1068, .bool true, qi 181 0, qr 1069, .none, .none, .none, qr 1070, qi 1610 0, qi 667 0, qs "/claim/cut.py" 1611]
noncomputable def q14_1072 : Obj := qfn (nthS top 39) "_law_drawn" [] .none (qs "law_sj0105_01" 1596) (qr 1071) .none
noncomputable def q14_1073 : Obj := qtup []
noncomputable def q14_1074 : Obj := { cls := .none, data := Data.fields #[] }
noncomputable def q14_1075 : Obj := qtup [qs "tin" 1616, qs "bank" 1617, qs "wide" 1618, qs "late" 1619, qs "number" 1620, qs "digits" 1621, qs "unknown" 1622, qs "truths" 1623]
noncomputable def q14_1076 : Obj := qtup []
noncomputable def q14_1077 : Obj := qf0 (nthS top 40) "_law_bottom"
noncomputable def q14_1078 : Obj := qcode [qs "_law_bottom" 1613, qs "_law_bottom" 1614, qs "/claim/cut.py" 1615, qi 673 0, qi 2 0, qi 0 0, qi 0 0, qi 3 0, qr 1073, .bool true, qi 181 0, qr 1074, .none, qr 1075, qr 1076, qr 1077, qi 1624 0, qi 673 0, qs "/claim/cut.py" 1625]
noncomputable def q14_1079 : Obj := qfn (nthS top 40) "_law_bottom" [] .none (qs "law_sj0105_01" 1596) (qr 1078) .none
noncomputable def q14_1080 : Obj := qtup []
noncomputable def q14_1081 : Obj := { cls := .none, data := Data.fields #[] }
noncomputable def q14_1082 : Obj := qtup [qs "low" 1630, qs "high" 1631, qs "found" 1632, qs "spot" 1633, qs "is_turned" 1634]
noncomputable def q14_1083 : Obj := qtup []
noncomputable def q14_1084 : Obj := qf0 (nthS top 41) "_law_upon"
noncomputable def q14_1085 : Obj := qcode [qs "_law_upon" 1627, qs "_law_upon" 1628, qs "/claim/cut.py" 1629, qi 680 0, qi 2 0, qi 0 0, qi 0 0, qi 3 0, qr 1080, .bool true, qi 181 0, qr 1081, .none, qr 1082, qr 1083, qr 1084, qi 1635 0, qi 680 0, qs "/claim/cut.py" 1636]
noncomputable def q14_1086 : Obj := qfn (nthS top 41) "_law_upon" [] .none (qs "law_sj0105_01" 1596) (qr 1085) .none
noncomputable def q14_1087 : Obj := qtup []
noncomputable def q14_1088 : Obj := { cls := .none, data := Data.fields #[] }
noncomputable def q14_1089 : Obj := qf0 (nthS top 42) "_law_often"
noncomputable def q14_1090 : Obj := qcode [qs "_law_often" 1638, qs "_law_often" 1639, qs "/claim/cut.py" 1640, qi 688 0, qi 2 0, qi 0 0, qi 0 0, qi 3 0, qr 1087, .bool true, qi 181 0, qr 1088, .none, .none, .none, qr 1089, qi 1641 0, qi 688 0, qs "/claim/cut.py" 1642]
noncomputable def q14_1091 : Obj := qfn (nthS top 42) "_law_often" [] .none (qs "law_sj0105_01" 1596) (qr 1090) .none
noncomputable def q14_1092 : Obj := qtup []
noncomputable def q14_1093 : Obj := { cls := .none, data := Data.fields #[] }
noncomputable def q14_1094 : Obj := qf0 (nthS top 43) "_law_round"
noncomputable def q14_1095 : Obj := qcode [qs "_law_round" 1644, qs "_law_round" 1645, qs "/claim/cut.py" 1646, qi 695 0, qi 3 0, qi 0 0, qi 0 0, qi 3 0, qr 1092, .bool true, qi 181 0, qr 1093, .none, .none, .none, qr 1094, qi 1647 0, qi 695 0, qs "/claim/cut.py" 1648]
noncomputable def q14_1096 : Obj := qfn (nthS top 43) "_law_round" [] .none (qs "law_sj0105_01" 1596) (qr 1095) .none
noncomputable def q14_1097 : Obj := qtup []
noncomputable def q14_1098 : Obj := { cls := .none, data := Data.fields #[] }
noncomputable def q14_1099 : Obj := qf0 (nthS top 44) "_law_widened"
noncomputable def q14_1100 : Obj := qcode [qs "_law_widened" 1650, qs "_law_widened" 1651, qs "/claim/cut.py" 1652, qi 699 0, qi 5 0, qi 0 0, qi 0 0, qi 3 0, qr 1097, .bool true, qi 181 0, qr 1098, .none, .none, .none, qr 1099, qi 1653 0, qi 699 0, qs "/claim/cut.py" 1654]
noncomputable def q14_1101 : Obj := qfn (nthS top 44) "_law_widened" [] .none (qs "law_sj0105_01" 1596) (qr 1100) .none
noncomputable def q14_1102 : Obj := qtup []
noncomputable def q14_1103 : Obj := { cls := .none, data := Data.fields #[] }
noncomputable def q14_1104 : Obj := qf0 (nthS top 45) "_law_course"
noncomputable def q14_1105 : Obj := qcode [qs "_law_course" 1656, qs "_law_course" 1657, qs "/claim/cut.py" 1658, qi 718 0, qi 4 0, qi 0 0, qi 0 0, qi 3 0, qr 1102, .bool true, qi 181 0, qr 1103, .none, .none, .none, qr 1104, qi 1659 0, qi 718 0, qs "/claim/cut.py" 1660]
noncomputable def q14_1106 : Obj := qfn (nthS top 45) "_law_course" [] .none (qs "law_sj0105_01" 1596) (qr 1105) .none
noncomputable def q14_1107 : Obj := qtup []
noncomputable def q14_1108 : Obj := { cls := .none, data := Data.fields #[] }
noncomputable def q14_1109 : Obj := qf0 (nthS top 46) "_law_grown"
noncomputable def q14_1110 : Obj := qcode [qs "_law_grown" 1662, qs "_law_grown" 1663, qs "/claim/cut.py" 1664, qi 731 0, qi 4 0, qi 0 0, qi 0 0, qi 3 0, qr 1107, .bool true, qi 181 0, qr 1108, .none, .none, .none, qr 1109, qi 1665 0, qi 731 0, qs "/claim/cut.py" 1666]
noncomputable def q14_1111 : Obj := qfn (nthS top 46) "_law_grown" [] .none (qs "law_sj0105_01" 1596) (qr 1110) .none
noncomputable def q14_1112 : Obj := qtup []
noncomputable def q14_1113 : Obj := { cls := .none, data := Data.fields #[] }
noncomputable def q14_1114 : Obj := qtup [qs "bank" 1671, qs "row" 1672, qs "source" 1673]
noncomputable def q14_1115 : Obj := qtup []
noncomputable def q14_1116 : Obj := qf0 (nthS top 47) "_law_due"
noncomputable def q14_1117 : Obj := qcode [qs "_law_due" 1668, qs "_law_due" 1669, qs "/claim/cut.py" 1670, qi 739 0, qi 3 0, qi 0 0, qi 0 0, qi 3 0, qr 1112, .bool true, qi 181 0, qr 1113, .none, qr 1114, qr 1115, qr 1116, qi 1674 0, qi 739 0, qs "/claim/cut.py" 1675]
noncomputable def q14_1118 : Obj := qfn (nthS top 47) "_law_due" [] .none (qs "law_sj0105_01" 1596) (qr 1117) .none
noncomputable def q14_1119 : Obj := qtup []
noncomputable def q14_1120 : Obj := { cls := .none, data := Data.fields #[] }
noncomputable def q14_1121 : Obj := qf0 (nthS top 48) "law"
noncomputable def q14_1122 : Obj := qcode [qs "law" 1677, qs "law" 1678, qs "/claim/cut.py" 1679, qi 741 0, qi 1 0, qi 0 0, qi 0 0, qi 3 0, qr 1119, .bool true, qi 181 0, qr 1120, .none, .none, .none, qr 1121, qi 1680 0, qi 741 0, qs "/claim/cut.py" 1681]
noncomputable def q14_1123 : Obj := qfn (nthS top 48) "law" [] .none (qs "law_sj0105_01" 1596) (qr 1122) .none
noncomputable def qt14 (P : Params) : BT := qins (qt13 P) [(3, q14_3 P), (12, q14_12), (1061, q14_1061), (1062, q14_1062), (1063, q14_1063), (1064, q14_1064), (1065, q14_1065), (1066, q14_1066), (1067, q14_1067), (1068, q14_1068), (1069, q14_1069), (1070, q14_1070), (1071, q14_1071), (1072, q14_1072), (1073, q14_1073), (1074, q14_1074), (1075, q14_1075), (1076, q14_1076), (1077, q14_1077), (1078, q14_1078), (1079, q14_1079), (1080, q14_1080), (1081, q14_1081), (1082, q14_1082), (1083, q14_1083), (1084, q14_1084), (1085, q14_1085), (1086, q14_1086), (1087, q14_1087), (1088, q14_1088), (1089, q14_1089), (1090, q14_1090), (1091, q14_1091), (1092, q14_1092), (1093, q14_1093), (1094, q14_1094), (1095, q14_1095), (1096, q14_1096), (1097, q14_1097), (1098, q14_1098), (1099, q14_1099), (1100, q14_1100), (1101, q14_1101), (1102, q14_1102), (1103, q14_1103), (1104, q14_1104), (1105, q14_1105), (1106, q14_1106), (1107, q14_1107), (1108, q14_1108), (1109, q14_1109), (1110, q14_1110), (1111, q14_1111), (1112, q14_1112), (1113, q14_1113), (1114, q14_1114), (1115, q14_1115), (1116, q14_1116), (1117, q14_1117), (1118, q14_1118), (1119, q14_1119), (1120, q14_1120), (1121, q14_1121), (1122, q14_1122), (1123, q14_1123)]
theorem qp14 (w : World) : (fun os => segRunT treeTable prg w 11 (some (.ref 6)) 1 323 (qsh (qt13 w.params) 1061 1596 os) (piecesOf (qcut 37 12) qenv qB ⟨526, 0, 661, 19⟩ qF)) = fun os => some (.next, qsh (qt14 w.params) 1124 1683 os, qB, ⟨741, 0, 756, 108⟩) := by
  rw [PySem.W.Fast.te10110043849684766642, PySem.W.Fast.te14364793385576792824]; kernel_rfl
noncomputable def qH (P : Params) : Heap := absHeap (qt14 P) 1124 {}
noncomputable abbrev qZ (w : World) (os : OsState) : Shared := { heap := qH w.params, gens := { toList := [] }, drawn := { }, toks := 1683, os := os }
noncomputable def qK (P : Params) : Frag := [(2, q1_2 P), (3, q14_3 P), (204, q5_204), (205, q5_205), (219, q6_219), (220, q6_220), (261, q6_261), (262, q6_262), (275, q6_275), (276, q6_276), (310, q6_310), (311, q6_311), (317, q6_317), (318, q6_318), (331, q6_331), (332, q6_332), (338, q6_338), (339, q6_339), (352, q6_352), (353, q6_353), (373, q6_373), (374, q6_374), (387, q6_387), (388, q6_388), (394, q6_394), (395, q6_395), (401, q6_401), (402, q6_402), (418, q6_418 P), (419, q7_419), (436, q7_436), (437, q7_437), (523, q7_523 P), (524, q9_524), (619, q9_619 P), (620, q10_620), (626, q10_626), (637, q10_637), (638, q10_638), (644, q10_644), (645, q10_645), (658, q10_658), (659, q10_659), (665, q10_665), (666, q10_666), (686, q10_686), (687, q10_687), (721, q10_721), (722, q10_722), (738, q10_738 P), (739, q10_739), (754, q12_754), (755, q12_755), (794, q12_794), (795, q12_795), (863, q12_863 P), (864, q13_864), (1047, q13_1047), (1048, q13_1048), (1054, q13_1054), (1055, q13_1055), (1057, q13_1057 P), (1058, q13_1058), (1066, q14_1066), (1067, q14_1067), (1071, q14_1071), (1072, q14_1072), (1078, q14_1078), (1079, q14_1079), (1085, q14_1085), (1086, q14_1086), (1090, q14_1090), (1091, q14_1091), (1095, q14_1095), (1096, q14_1096), (1100, q14_1100), (1101, q14_1101), (1105, q14_1105), (1106, q14_1106), (1110, q14_1110), (1111, q14_1111), (1117, q14_1117), (1118, q14_1118), (1122, q14_1122), (1123, q14_1123)]
noncomputable def qas : List Addr := [2, 3, 204, 205, 219, 220, 261, 262, 275, 276, 310, 311, 317, 318, 331, 332, 338, 339, 352, 353, 373, 374, 387, 388, 394, 395, 401, 402, 418, 419, 436, 437, 523, 524, 619, 620, 626, 637, 638, 644, 645, 658, 659, 665, 666, 686, 687, 721, 722, 738, 739, 754, 755, 794, 795, 863, 864, 1047, 1048, 1054, 1055, 1057, 1058, 1066, 1067, 1071, 1072, 1078, 1079, 1085, 1086, 1090, 1091, 1095, 1096, 1100, 1101, 1105, 1106, 1110, 1111, 1117, 1118, 1122, 1123]
theorem qase : ∀ P, qas = (qK P).map (·.1) := fun _ => by kernel_rfl
noncomputable abbrev qhook : Hook := kHook qK qas qase
noncomputable abbrev qS0 (w : World) (os : OsState) : Shared := { heap := boot_heap w.params, gens := Array.mk [], drawn := boot_drawn, toks := boot_toks, os := os }
theorem qpre (w : World) : (fun os => topGo treeTable prg w 11 (some (.ref 6)) 12 (qS0 w os) (topStub prg)) = fun os => some ((qsh (qt0 w.params) 15 187 os).abs, { cur := denote treeTable qB, code := qB, pos := ⟨0, 0, 0, 0⟩, stack := qF }) := by
  rw [PySem.W.Fast.te15667345088766844465, PySem.W.Fast.te14364793385576792824, PySem.W.Fast.te11892475500146522536]; kernel_rfl
theorem qblk (w : World) : (fun os => segRun treeTable prg w 11 (some (.ref 6)) 1 1 (qsh (qt0 w.params) 15 187 os).abs (blockOf (behindTheImports prg) qenv qB ⟨0, 0, 0, 0⟩ qF)) = fun os => some (.next, (qsh (qt0 w.params) 15 187 os).abs, qB, ⟨0, 0, 0, 0⟩) := by
  rw [PySem.W.Fast.te14374325043358763698, PySem.W.Fast.te14364793385576792824]; kernel_rfl
theorem qend (w : World) : (fun os => topRun treeTable prg w 11 (some (.ref 6)) 2 (qsh (qt14 w.params) 1124 1683 os).abs { cur := doneF .next, code := qB, pos := ⟨741, 0, 756, 108⟩, stack := qF }) = fun os => some (qZ w os) := by
  rw [PySem.W.Fast.te14082659384304107361, PySem.W.Fast.te14364793385576792824]; kernel_rfl
theorem qbody : behindTheImports prg = qcut 0 3 ++ (qcut 3 1 ++ (qcut 4 1 ++ (qcut 5 7 ++ (qcut 12 16 ++ (qcut 28 1 ++ (qcut 29 1 ++ (qcut 30 1 ++ (qcut 31 1 ++ (qcut 32 1 ++ (qcut 33 2 ++ (qcut 35 1 ++ (qcut 36 1 ++ (qcut 37 12 ++ ([])))))))))))))) := by kernel_rfl
theorem qrun (w : World) (os : OsState) : topRun treeTable prg w 11 (some (.ref 6)) (12 + (1 + (314 + (244 + (244 + (382 + (373 + (1144 + (642 + (30 + (589 + (755 + (19 + (739 + (1091 + (323 + 2)))))))))))))))) (qS0 w os) (topStub prg) = some (qZ w os) := by
  refine go_top (congrFun (qpre w) os) (piece_block (congrFun (qblk w) os) ?_)
  have e : restOf (behindTheImports prg) qenv qB ⟨0, 0, 0, 0⟩ qF = restOf (qcut 0 3 ++ (qcut 3 1 ++ (qcut 4 1 ++ (qcut 5 7 ++ (qcut 12 16 ++ (qcut 28 1 ++ (qcut 29 1 ++ (qcut 30 1 ++ (qcut 31 1 ++ (qcut 32 1 ++ (qcut 33 2 ++ (qcut 35 1 ++ (qcut 36 1 ++ (qcut 37 12 ++ ([]))))))))))))))) qenv qB ⟨0, 0, 0, 0⟩ qF := congrArg (fun l => restOf l qenv qB ⟨0, 0, 0, 0⟩ qF) qbody
  rw [e]
  refine piece_app (segRun_of (congrFun (qp1 w) os)) ?_
  refine piece_app (segRun_of (congrFun (qp2 w) os)) ?_
  refine piece_app (segRun_of (congrFun (qp3 w) os)) ?_
  refine piece_app (segRun_of (congrFun (qp4 w) os)) ?_
  refine piece_app (segRun_of (congrFun (qp5 w) os)) ?_
  refine piece_app (segRun_of (congrFun (qp6 w) os)) ?_
  refine piece_app (segRun_of (congrFun (qp7 w) os)) ?_
  refine piece_app (segRun_of (congrFun (qp8 w) os)) ?_
  refine piece_app (segRun_of (congrFun (qp9 w) os)) ?_
  refine piece_app (segRun_of (congrFun (qp10 w) os)) ?_
  refine piece_app (segRun_of (congrFun (qp11 w) os)) ?_
  refine piece_app (segRun_of (congrFun (qp12 w) os)) ?_
  refine piece_app (segRun_of (congrFun (qp13 w) os)) ?_
  refine piece_app (segRun_of (congrFun (qp14 w) os)) ?_
  exact congrFun (qend w) os
noncomputable def qview : Program := { prg with main := { prg.main with body := [0, 2, 3, 4, 5, 7, 8, 9, 10, 12, 13, 14, 15, 16, 17, 18, 19, 20, 21, 22, 23, 24, 25, 26, 27, 28, 29, 30, 31, 32, 34, 35, 36, 38, 39, 40, 41, 42, 43, 44, 45, 46, 47, 48].map (nthS top) } }
noncomputable def qloose : List Str := [Str.ofString "MOST_BITS", Str.ofString "BitsRewriter"]
noncomputable def qlv : List (Str × WData) := [(Str.ofString "MOST_BITS", .int 65536)]
noncomputable abbrev qrow := PySem.Challenge.rw_sj0105_01.row
theorem qsize (w : World) : ((boot_heap w.params).isNs mainGlobals && (Array.mk [] : Array GenState).size == 0, (boot_heap w.params).objs.size, (boot_heap w.params).nsMap mainGlobals "__annotations__") = (true, 11, some (.ref 6)) := by
  rw [PySem.W.Fast.te8920871248978507458]; kernel_rfl
theorem ql1 (w : World) (os : OsState) : (staticsOk (importedModules prg.main.body) (boot_heap w.params) (qH w.params) && namesBound prg (qH w.params) && gensDone (qZ w os) && laidKept (boot_heap w.params) (qH w.params)) = true := by
  rw [PySem.W.Fast.te5923862056798008813]; kernel_rfl
theorem ql2 (w : World) (os : OsState) : PyProof.Rows.seen (List.map (fun x => x.name) (recsOf qview)) (ownsOf qview) [] { qZ w os with gens := #[] } = expectedOf qview := by
  rw [PySem.W.Fast.te5160383126252970620, PySem.W.Fast.te3399658132070893891, PySem.W.Fast.te5991557255702980513]; kernel_rfl
theorem ql3 (w : World) (os : OsState) : (qZ w os).heap.bltView = bltViewBooted := by kernel_rfl
theorem ql5 (w : World) (os : OsState) : tabsOk qview (qZ w os) = true := by
  rw [PySem.W.Fast.te479339242167458305]; kernel_rfl
theorem ql6 (w : World) (os : OsState) : pinSeenD qview (drecsOf qview) (qZ w os) = pinGoodD (drecsOf qview) := by
  rw [PySem.W.Fast.te16090120013241838585, PySem.W.Fast.te3247288618530077131]; kernel_rfl
theorem ql7 (w : World) (os : OsState) : plainSeenE qview (looseW qview qloose) (qZ w os) = plainGoodE qview (looseW qview qloose) := by
  rw [PySem.W.Fast.te2386780881361962483, PySem.W.Fast.te821141287760084731]; kernel_rfl
theorem ql8 (w : World) (os : OsState) : plainSeenD qview qloose (qZ w os) = plainGoodD qview qloose := by
  rw [PySem.W.Fast.te11698064438423848299]; kernel_rfl
theorem ql9 (w : World) (os : OsState) : wideSeen qview (qZ w os) = wideGood qview := by
  rw [PySem.W.Fast.te7317090234206586261]; kernel_rfl
theorem ql10 (w : World) (os : OsState) : clsSeenW qview qloose (qZ w os) = clsGoodW qview qloose := by
  rw [PySem.W.Fast.te7369524293546568484]; kernel_rfl
theorem ql11 (w : World) (os : OsState) : qhook.obs (qZ w os) = qhook.val w := by kernel_rfl
theorem ql0 (w : World) (os : OsState) : openSeen qview qloose (importedModules prg.main.body) (fun s => xlAt qview qlv s && recOk qrow.records s) true (qZ w os) = openGood qview qloose := by
  refine looks_pair (ql2 w os) (looks_pair (ql3 w os) (looks_pair ?_ (looks_pair (ql5 w os) (looks_pair (ql6 w os) (looks_pair (ql7 w os) (looks_pair (ql8 w os) (looks_pair (ql9 w os) (ql10 w os))))))))
  rw [PySem.W.Fast.te10880121769531294198, PySem.W.Fast.te821141287760084731, PySem.W.Fast.te3399658132070893891, PySem.W.Fast.te7409074990110511671, PySem.W.Fast.te13664370479719496447, PySem.W.Fast.te14722251495701143533, PySem.W.Fast.te5923862056798008813, PySem.W.Fast.te10994771534591457954]; kernel_rfl
theorem qleft : LeftO prg qview qloose (fun s => xlAt qview qlv s && recOk qrow.records s) qhook.obs qhook.val 13876 :=
  LeftO.of_pieces (boot_open (by kernel_rfl) (by kernel_rfl) (fun s => rfl)) qsize qrun (by kernel_rfl) (fun w => funext fun os => looks_pair (ql1 w os) (looks_pair (ql0 w os) (ql11 w os)))
noncomputable def qd : DefRec := { name := Str.ofString "law", params := qfA (nthS top 48), body := fnBody (nthS top 48), scope := qfS (nthS top 48), pos := ⟨741, 0, 756, 108⟩ }
theorem qs1 : noRoadLSs { strict := !(importedModules PySem.Challenge.rw_sj0105_01.row.prog.main.body).all cThrough.contains, foot := none, bare := (["vars", "dir", "locals"] : List Str).filter (readsOut PySem.Challenge.rw_sj0105_01.row.prog PySem.Challenge.rw_sj0105_01.row.prog.main.body) } PySem.Challenge.rw_sj0105_01.row.prog.main.body = true := by
  rw [PySem.W.Fast.te8326940854005059898]; kernel_rfl
theorem qs2 : namesResolve PySem.Challenge.rw_sj0105_01.row.prog = true := by
  rw [PySem.W.Fast.te8377067652309620493]; kernel_rfl
theorem qs3 : (namesMeet PySem.Challenge.rw_sj0105_01.row.prog PySem.Challenge.rw_sj0105_01.row.prog.main.body fun _ n => attrL n) = true := by
  rw [PySem.W.Fast.te17119622794617984870]; kernel_rfl
theorem qs4 : namesMeet PySem.Challenge.rw_sj0105_01.prog PySem.Challenge.rw_sj0105_01.above (fun _ n => !PySem.Challenge.rw_sj0105_01.own.contains n) = true := by
  rw [PySem.W.Fast.te17119622794617984870]; kernel_rfl
theorem qsaid : OpenLaw.wellSaid PySem.Challenge.rw_sj0105_01 = true := by
  unfold OpenLaw.wellSaid OpenRow.wellSaid OpenRow.partSaid looksOpen
  repeat' (with_reducible refine look_both ?_ ?_)
  all_goals first | with_reducible exact qs1 | with_reducible exact qs2 | with_reducible exact qs3 | with_reducible exact qs4 | (rw [PySem.W.Fast.te8326940854005059898]; kernel_rfl) | (rw [PySem.W.Fast.te17119622794617984870]; kernel_rfl) | kernel_rfl
theorem hd (walk : WalkO qview qloose (XL qview qlv) qhook.says qrow.toRowW qd [] fun f vs => call f vs) : PySem.Challenge.rw_sj0105_01.Holds :=
  holds_law qsaid fun said => holds_open (q := qview) (loose := qloose) (Xt := fun s => xlAt qview qlv s && recOk qrow.records s) (XP := XL qview qlv) (Yf := qhook.obs) (Ya := qhook.val) (YP := qhook.says) (d := qd) (kwd := []) (N := 13876) qleft qhook.of qhook.keeps (fun s e => xl_of s (Bool.and_eq_true_iff.mp e).1) XL.keeps
    (by kernel_rfl) (by kernel_rfl) (by kernel_rfl) (fun s e => recFacts_of (Bool.and_eq_true_iff.mp e).2) (by kernel_rfl) said (by kernel_rfl) ⟨rfl, rfl, rfl, rfl, rfl, by decide +kernel⟩ ⟨[.list []], by decide +kernel, by decide +kernel⟩ walk
noncomputable def AllLen {α : Type} : Nat → (List α → Prop) → Prop
  | 0, p => p []
  | n + 1, p => ∀ a, AllLen n (fun l => p (a :: l))
theorem allLen {α : Type} : ∀ (n : Nat) {p : List α → Prop}, AllLen n p → ∀ xs : List α, xs.length = n → p xs
  | 0, _, H, [], _ => H
  | n + 1, _, H, a :: l, h => allLen n (H a) l (Nat.succ.inj h)
theorem len0 {α : Type} {p : List α → Prop} (H : p []) : ∀ xs : List α, xs.length = 0 → p xs := allLen 0 H
theorem len1 {α : Type} {p : List α → Prop} (H : ∀ a, p [a]) : ∀ xs : List α, xs.length = 1 → p xs := allLen 1 H
theorem len2 {α : Type} {p : List α → Prop} (H : ∀ a b, p [a, b]) : ∀ xs : List α, xs.length = 2 → p xs := allLen 2 H
theorem len3 {α : Type} {p : List α → Prop} (H : ∀ a b c, p [a, b, c]) : ∀ xs : List α, xs.length = 3 → p xs := allLen 3 H
theorem len4 {α : Type} {p : List α → Prop} (H : ∀ a b c d, p [a, b, c, d]) : ∀ xs : List α, xs.length = 4 → p xs := allLen 4 H
theorem len5 {α : Type} {p : List α → Prop} (H : ∀ a b c d e, p [a, b, c, d, e]) : ∀ xs : List α, xs.length = 5 → p xs := allLen 5 H
theorem len6 {α : Type} {p : List α → Prop} (H : ∀ a b c d e f, p [a, b, c, d, e, f]) : ∀ xs : List α, xs.length = 6 → p xs := allLen 6 H
theorem len7 {α : Type} {p : List α → Prop} (H : ∀ a b c d e f g, p [a, b, c, d, e, f, g]) : ∀ xs : List α, xs.length = 7 → p xs := allLen 7 H
theorem len8 {α : Type} {p : List α → Prop} (H : ∀ a b c d e f g h, p [a, b, c, d, e, f, g, h]) : ∀ xs : List α, xs.length = 8 → p xs := allLen 8 H
theorem len9 {α : Type} {p : List α → Prop} (H : ∀ a b c d e f g h i, p [a, b, c, d, e, f, g, h, i]) : ∀ xs : List α, xs.length = 9 → p xs := allLen 9 H
theorem fn_Bank_init {w : World} {B : Heap} (X : (qK w.params).In B) (lim : B.NoLimit) : FnIs B 220 ps_Bank_init [] nm_Bank_init bd_Bank_init :=
  fnIs_of X lim (by kernel_rfl) (by kernel_rfl) (by kernel_rfl) (by kernel_rfl) (len1 fun _ => by kernel_rfl) rfl (by decide +kernel) (by decide +kernel) (by decide +kernel)
theorem fn_Bank_declare_fun {w : World} {B : Heap} (X : (qK w.params).In B) (lim : B.NoLimit) : FnIs B 262 ps_Bank_declare_fun [] nm_Bank_declare_fun bd_Bank_declare_fun :=
  fnIs_of X lim (by kernel_rfl) (by kernel_rfl) (by kernel_rfl) (by kernel_rfl) (len4 fun _ _ _ _ => by kernel_rfl) rfl (by decide +kernel) (by decide +kernel) (by decide +kernel)
theorem fn_Bank_fresh_const {w : World} {B : Heap} (X : (qK w.params).In B) (lim : B.NoLimit) : FnIs B 276 ps_Bank_fresh_const [] nm_Bank_fresh_const bd_Bank_fresh_const :=
  fnIs_of X lim (by kernel_rfl) (by kernel_rfl) (by kernel_rfl) (by kernel_rfl) (len3 fun _ _ _ => by kernel_rfl) rfl (by decide +kernel) (by decide +kernel) (by decide +kernel)
theorem fn_Bank_op {w : World} {B : Heap} (X : (qK w.params).In B) (lim : B.NoLimit) : FnIs B 311 ps_Bank_op [] nm_Bank_op bd_Bank_op :=
  fnIs_of X lim (by kernel_rfl) (by kernel_rfl) (by kernel_rfl) (by kernel_rfl) (len2 fun _ _ => by kernel_rfl) rfl (by decide +kernel) (by decide +kernel) (by decide +kernel)
theorem fn_Bank_args {w : World} {B : Heap} (X : (qK w.params).In B) (lim : B.NoLimit) : FnIs B 318 ps_Bank_args [] nm_Bank_args bd_Bank_args :=
  fnIs_of X lim (by kernel_rfl) (by kernel_rfl) (by kernel_rfl) (by kernel_rfl) (len2 fun _ _ => by kernel_rfl) rfl (by decide +kernel) (by decide +kernel) (by decide +kernel)
theorem fn_Bank_data {w : World} {B : Heap} (X : (qK w.params).In B) (lim : B.NoLimit) : FnIs B 332 ps_Bank_data [] nm_Bank_data bd_Bank_data :=
  fnIs_of X lim (by kernel_rfl) (by kernel_rfl) (by kernel_rfl) (by kernel_rfl) (len2 fun _ _ => by kernel_rfl) rfl (by decide +kernel) (by decide +kernel) (by decide +kernel)
theorem fn_Bank_width {w : World} {B : Heap} (X : (qK w.params).In B) (lim : B.NoLimit) : FnIs B 339 ps_Bank_width [] nm_Bank_width bd_Bank_width :=
  fnIs_of X lim (by kernel_rfl) (by kernel_rfl) (by kernel_rfl) (by kernel_rfl) (len2 fun _ _ => by kernel_rfl) rfl (by decide +kernel) (by decide +kernel) (by decide +kernel)
theorem fn_Bank_make {w : World} {B : Heap} (X : (qK w.params).In B) (lim : B.NoLimit) : FnIs B 353 ps_Bank_make [] nm_Bank_make bd_Bank_make :=
  fnIs_of X lim (by kernel_rfl) (by kernel_rfl) (by kernel_rfl) (by kernel_rfl) (len5 fun _ _ _ _ _ => by kernel_rfl) rfl (by decide +kernel) (by decide +kernel) (by decide +kernel)
theorem fn_Bank_want {w : World} {B : Heap} (X : (qK w.params).In B) (lim : B.NoLimit) : FnIs B 374 ps_Bank_want [] nm_Bank_want bd_Bank_want :=
  fnIs_of X lim (by kernel_rfl) (by kernel_rfl) (by kernel_rfl) (by kernel_rfl) (len4 fun _ _ _ _ => by kernel_rfl) rfl (by decide +kernel) (by decide +kernel) (by decide +kernel)
theorem fn_Bank_false_term {w : World} {B : Heap} (X : (qK w.params).In B) (lim : B.NoLimit) : FnIs B 395 ps_Bank_false_term [] nm_Bank_false_term bd_Bank_false_term :=
  fnIs_of X lim (by kernel_rfl) (by kernel_rfl) (by kernel_rfl) (by kernel_rfl) (len1 fun _ => by kernel_rfl) rfl (by decide +kernel) (by decide +kernel) (by decide +kernel)
theorem fn_Bank_true_term {w : World} {B : Heap} (X : (qK w.params).In B) (lim : B.NoLimit) : FnIs B 388 ps_Bank_true_term [] nm_Bank_true_term bd_Bank_true_term :=
  fnIs_of X lim (by kernel_rfl) (by kernel_rfl) (by kernel_rfl) (by kernel_rfl) (len1 fun _ => by kernel_rfl) rfl (by decide +kernel) (by decide +kernel) (by decide +kernel)
theorem fn_Bank_bool_term {w : World} {B : Heap} (X : (qK w.params).In B) (lim : B.NoLimit) : FnIs B 402 ps_Bank_bool_term [] nm_Bank_bool_term bd_Bank_bool_term :=
  fnIs_of X lim (by kernel_rfl) (by kernel_rfl) (by kernel_rfl) (by kernel_rfl) (len2 fun _ _ => by kernel_rfl) rfl (by decide +kernel) (by decide +kernel) (by decide +kernel)
theorem fn_BoolBank_not_of {w : World} {B : Heap} (X : (qK w.params).In B) (lim : B.NoLimit) : FnIs B 437 ps_BoolBank_not_of [] nm_BoolBank_not_of bd_BoolBank_not_of :=
  fnIs_of X lim (by kernel_rfl) (by kernel_rfl) (by kernel_rfl) (by kernel_rfl) (len2 fun _ _ => by kernel_rfl) rfl (by decide +kernel) (by decide +kernel) (by decide +kernel)
theorem fn_TermBank_bv_sort {w : World} {B : Heap} (X : (qK w.params).In B) (lim : B.NoLimit) : FnIs B 645 ps_TermBank_bv_sort [] nm_TermBank_bv_sort bd_TermBank_bv_sort :=
  fnIs_of X lim (by kernel_rfl) (by kernel_rfl) (by kernel_rfl) (by kernel_rfl) (len2 fun _ _ => by kernel_rfl) rfl (by decide +kernel) (by decide +kernel) (by decide +kernel)
theorem fn_TermBank_want_bits {w : World} {B : Heap} (X : (qK w.params).In B) (lim : B.NoLimit) : FnIs B 659 ps_TermBank_want_bits [] nm_TermBank_want_bits bd_TermBank_want_bits :=
  fnIs_of X lim (by kernel_rfl) (by kernel_rfl) (by kernel_rfl) (by kernel_rfl) (len3 fun _ _ _ => by kernel_rfl) rfl (by decide +kernel) (by decide +kernel) (by decide +kernel)
theorem fn_TermBank_bv_num {w : World} {B : Heap} (X : (qK w.params).In B) (lim : B.NoLimit) : FnIs B 666 ps_TermBank_bv_num [] nm_TermBank_bv_num bd_TermBank_bv_num :=
  fnIs_of X lim (by kernel_rfl) (by kernel_rfl) (by kernel_rfl) (by kernel_rfl) (len3 fun _ _ _ => by kernel_rfl) rfl (by decide +kernel) (by decide +kernel) (by decide +kernel)
theorem fn_TermBank_concat {w : World} {B : Heap} (X : (qK w.params).In B) (lim : B.NoLimit) : FnIs B 687 ps_TermBank_concat [] nm_TermBank_concat bd_TermBank_concat :=
  fnIs_of X lim (by kernel_rfl) (by kernel_rfl) (by kernel_rfl) (by kernel_rfl) (len3 fun _ _ _ => by kernel_rfl) rfl (by decide +kernel) (by decide +kernel) (by decide +kernel)
theorem fn_TermBank_bit {w : World} {B : Heap} (X : (qK w.params).In B) (lim : B.NoLimit) : FnIs B 722 ps_TermBank_bit [] nm_TermBank_bit bd_TermBank_bit :=
  fnIs_of X lim (by kernel_rfl) (by kernel_rfl) (by kernel_rfl) (by kernel_rfl) (len3 fun _ _ _ => by kernel_rfl) rfl (by decide +kernel) (by decide +kernel) (by decide +kernel)
theorem fn_BoolRewriter_init {w : World} {B : Heap} (X : (qK w.params).In B) (lim : B.NoLimit) : FnIs B 755 ps_BoolRewriter_init [] nm_BoolRewriter_init bd_BoolRewriter_init :=
  fnIs_of X lim (by kernel_rfl) (by kernel_rfl) (by kernel_rfl) (by kernel_rfl) (len2 fun _ _ => by kernel_rfl) rfl (by decide +kernel) (by decide +kernel) (by decide +kernel)
theorem fn_BoolRewriter_negated {w : World} {B : Heap} (X : (qK w.params).In B) (lim : B.NoLimit) : FnIs B 795 ps_BoolRewriter_negated [] nm_BoolRewriter_negated bd_BoolRewriter_negated :=
  fnIs_of X lim (by kernel_rfl) (by kernel_rfl) (by kernel_rfl) (by kernel_rfl) (len2 fun _ _ => by kernel_rfl) rfl (by decide +kernel) (by decide +kernel) (by decide +kernel)
theorem fn_BitsRewriter_bit_of {w : World} {B : Heap} (X : (qK w.params).In B) (lim : B.NoLimit) : FnIs B 1048 ps_BitsRewriter_bit_of [] nm_BitsRewriter_bit_of bd_BitsRewriter_bit_of :=
  fnIs_of X lim (by kernel_rfl) (by kernel_rfl) (by kernel_rfl) (by kernel_rfl) (len3 fun _ _ _ => by kernel_rfl) rfl (by decide +kernel) (by decide +kernel) (by decide +kernel)
theorem fn_BitsRewriter_bit_within {w : World} {B : Heap} (X : (qK w.params).In B) (lim : B.NoLimit) : FnIs B 1055 ps_BitsRewriter_bit_within [] nm_BitsRewriter_bit_within bd_BitsRewriter_bit_within :=
  fnIs_of X lim (by kernel_rfl) (by kernel_rfl) (by kernel_rfl) (by kernel_rfl) (len3 fun _ _ _ => by kernel_rfl) rfl (by decide +kernel) (by decide +kernel) (by decide +kernel)
theorem fn_bit_value {w : World} {B : Heap} (X : (qK w.params).In B) (lim : B.NoLimit) : FnIs B 205 ps_bit_value [] nm_bit_value bd_bit_value :=
  fnIs_of X lim (by kernel_rfl) (by kernel_rfl) (by kernel_rfl) (by kernel_rfl) (len2 fun _ _ => by kernel_rfl) rfl (by decide +kernel) (by decide +kernel) (by decide +kernel)
theorem fn_law_next {w : World} {B : Heap} (X : (qK w.params).In B) (lim : B.NoLimit) : FnIs B 1067 ps_law_next [] nm_law_next bd_law_next :=
  fnIs_of X lim (by kernel_rfl) (by kernel_rfl) (by kernel_rfl) (by kernel_rfl) (len2 fun _ _ => by kernel_rfl) rfl (by decide +kernel) (by decide +kernel) (by decide +kernel)
theorem fn_law_drawn {w : World} {B : Heap} (X : (qK w.params).In B) (lim : B.NoLimit) : FnIs B 1072 ps_law_drawn [] nm_law_drawn bd_law_drawn :=
  fnIs_of X lim (by kernel_rfl) (by kernel_rfl) (by kernel_rfl) (by kernel_rfl) (len4 fun _ _ _ _ => by kernel_rfl) rfl (by decide +kernel) (by decide +kernel) (by decide +kernel)
theorem fn_law_bottom {w : World} {B : Heap} (X : (qK w.params).In B) (lim : B.NoLimit) : FnIs B 1079 ps_law_bottom [] nm_law_bottom bd_law_bottom :=
  fnIs_of X lim (by kernel_rfl) (by kernel_rfl) (by kernel_rfl) (by kernel_rfl) (len2 fun _ _ => by kernel_rfl) rfl (by decide +kernel) (by decide +kernel) (by decide +kernel)
theorem fn_law_upon {w : World} {B : Heap} (X : (qK w.params).In B) (lim : B.NoLimit) : FnIs B 1086 ps_law_upon [] nm_law_upon bd_law_upon :=
  fnIs_of X lim (by kernel_rfl) (by kernel_rfl) (by kernel_rfl) (by kernel_rfl) (len2 fun _ _ => by kernel_rfl) rfl (by decide +kernel) (by decide +kernel) (by decide +kernel)
theorem fn_law_often {w : World} {B : Heap} (X : (qK w.params).In B) (lim : B.NoLimit) : FnIs B 1091 ps_law_often [] nm_law_often bd_law_often :=
  fnIs_of X lim (by kernel_rfl) (by kernel_rfl) (by kernel_rfl) (by kernel_rfl) (len2 fun _ _ => by kernel_rfl) rfl (by decide +kernel) (by decide +kernel) (by decide +kernel)
theorem fn_law_round {w : World} {B : Heap} (X : (qK w.params).In B) (lim : B.NoLimit) : FnIs B 1096 ps_law_round [] nm_law_round bd_law_round :=
  fnIs_of X lim (by kernel_rfl) (by kernel_rfl) (by kernel_rfl) (by kernel_rfl) (len3 fun _ _ _ => by kernel_rfl) rfl (by decide +kernel) (by decide +kernel) (by decide +kernel)
theorem fn_law_widened {w : World} {B : Heap} (X : (qK w.params).In B) (lim : B.NoLimit) : FnIs B 1101 ps_law_widened [] nm_law_widened bd_law_widened :=
  fnIs_of X lim (by kernel_rfl) (by kernel_rfl) (by kernel_rfl) (by kernel_rfl) (len5 fun _ _ _ _ _ => by kernel_rfl) rfl (by decide +kernel) (by decide +kernel) (by decide +kernel)
theorem fn_law_course {w : World} {B : Heap} (X : (qK w.params).In B) (lim : B.NoLimit) : FnIs B 1106 ps_law_course [] nm_law_course bd_law_course :=
  fnIs_of X lim (by kernel_rfl) (by kernel_rfl) (by kernel_rfl) (by kernel_rfl) (len4 fun _ _ _ _ => by kernel_rfl) rfl (by decide +kernel) (by decide +kernel) (by decide +kernel)
theorem fn_law_grown {w : World} {B : Heap} (X : (qK w.params).In B) (lim : B.NoLimit) : FnIs B 1111 ps_law_grown [] nm_law_grown bd_law_grown :=
  fnIs_of X lim (by kernel_rfl) (by kernel_rfl) (by kernel_rfl) (by kernel_rfl) (len4 fun _ _ _ _ => by kernel_rfl) rfl (by decide +kernel) (by decide +kernel) (by decide +kernel)
theorem fn_law_due {w : World} {B : Heap} (X : (qK w.params).In B) (lim : B.NoLimit) : FnIs B 1118 ps_law_due [] nm_law_due bd_law_due :=
  fnIs_of X lim (by kernel_rfl) (by kernel_rfl) (by kernel_rfl) (by kernel_rfl) (len3 fun _ _ _ => by kernel_rfl) rfl (by decide +kernel) (by decide +kernel) (by decide +kernel)
theorem supBody : ∃ p0 p1 apos cpos epos : Pos, bd_TermBank_init = .Expr (.Call (.Attribute (.Call (.Name (Str.ofString "super") p0) [] [] p1) (Str.ofString "__init__") apos) [] [] cpos) epos :: bd_TermBank_init.tail ∧ (apos.endLine == cpos.line) = true := ⟨_, _, _, _, _, rfl, rfl⟩
theorem supOf {w : World} : SuperIs prg (qK w.params) 739 638 220 bd_TermBank_init.tail :=
  ⟨by kernel_rfl, (let ⟨p0, p1, apos, cpos, epos, h1, h2⟩ := supBody; ⟨p0, p1, apos, cpos, epos, (show _ = FuncBody.stmts bd_TermBank_init by kernel_rfl).trans (congrArg _ h1), h2⟩), by kernel_rfl, by kernel_rfl, fun x => by kernel_rfl, by kernel_rfl, by kernel_rfl, by kernel_rfl, by kernel_rfl, by kernel_rfl, by kernel_rfl, by kernel_rfl, by kernel_rfl, by kernel_rfl, by kernel_rfl, by kernel_rfl, by kernel_rfl⟩
theorem cxOf {w : World} {B : Heap} {p : Program} {loose : List Str} {mg mb : Str → Option Value} (X : (qK w.params).In B) (T : TopRead p loose mg mb B) : Nonempty (Cx B) := ⟨{
  K := (qK w.params)
  X := X
  cTB := 739
  cBR := 1058
  f_Bank_init := 220
  F_Bank_init := fn_Bank_init X T.nolimit
  f_Bank_declare_fun := 262
  F_Bank_declare_fun := fn_Bank_declare_fun X T.nolimit
  f_Bank_fresh_const := 276
  F_Bank_fresh_const := fn_Bank_fresh_const X T.nolimit
  f_Bank_op := 311
  F_Bank_op := fn_Bank_op X T.nolimit
  f_Bank_args := 318
  F_Bank_args := fn_Bank_args X T.nolimit
  f_Bank_data := 332
  F_Bank_data := fn_Bank_data X T.nolimit
  f_Bank_width := 339
  F_Bank_width := fn_Bank_width X T.nolimit
  f_Bank_make := 353
  F_Bank_make := fn_Bank_make X T.nolimit
  f_Bank_want := 374
  F_Bank_want := fn_Bank_want X T.nolimit
  f_Bank_false_term := 395
  F_Bank_false_term := fn_Bank_false_term X T.nolimit
  f_Bank_true_term := 388
  F_Bank_true_term := fn_Bank_true_term X T.nolimit
  f_Bank_bool_term := 402
  F_Bank_bool_term := fn_Bank_bool_term X T.nolimit
  f_BoolBank_not_of := 437
  F_BoolBank_not_of := fn_BoolBank_not_of X T.nolimit
  f_TermBank_init := 638
  f_TermBank_bv_sort := 645
  F_TermBank_bv_sort := fn_TermBank_bv_sort X T.nolimit
  f_TermBank_want_bits := 659
  F_TermBank_want_bits := fn_TermBank_want_bits X T.nolimit
  f_TermBank_bv_num := 666
  F_TermBank_bv_num := fn_TermBank_bv_num X T.nolimit
  f_TermBank_concat := 687
  F_TermBank_concat := fn_TermBank_concat X T.nolimit
  f_TermBank_bit := 722
  F_TermBank_bit := fn_TermBank_bit X T.nolimit
  f_BoolRewriter_init := 755
  F_BoolRewriter_init := fn_BoolRewriter_init X T.nolimit
  f_BoolRewriter_negated := 795
  F_BoolRewriter_negated := fn_BoolRewriter_negated X T.nolimit
  f_BitsRewriter_bit_of := 1048
  F_BitsRewriter_bit_of := fn_BitsRewriter_bit_of X T.nolimit
  f_BitsRewriter_bit_within := 1055
  F_BitsRewriter_bit_within := fn_BitsRewriter_bit_within X T.nolimit
  f_bit_value := 205
  F_bit_value := fn_bit_value X T.nolimit
  f_law_next := 1067
  F_law_next := fn_law_next X T.nolimit
  f_law_drawn := 1072
  F_law_drawn := fn_law_drawn X T.nolimit
  f_law_bottom := 1079
  F_law_bottom := fn_law_bottom X T.nolimit
  f_law_upon := 1086
  F_law_upon := fn_law_upon X T.nolimit
  f_law_often := 1091
  F_law_often := fn_law_often X T.nolimit
  f_law_round := 1096
  F_law_round := fn_law_round X T.nolimit
  f_law_widened := 1101
  F_law_widened := fn_law_widened X T.nolimit
  f_law_course := 1106
  F_law_course := fn_law_course X T.nolimit
  f_law_grown := 1111
  F_law_grown := fn_law_grown X T.nolimit
  f_law_due := 1118
  F_law_due := fn_law_due X T.nolimit
  f_law := 1123
  cls_cTB := ⟨by kernel_rfl, by kernel_rfl, by kernel_rfl⟩
  sto_cTB := ⟨by kernel_rfl, by kernel_rfl, by kernel_rfl⟩
  cls_cBR := ⟨by kernel_rfl, by kernel_rfl, by kernel_rfl⟩
  sto_cBR := ⟨by kernel_rfl, by kernel_rfl, by kernel_rfl⟩
  top := ⟨p, loose, mg, mb, T⟩
  sup := supOf
  mak_cTB := ⟨by kernel_rfl, by kernel_rfl, by kernel_rfl⟩
  mak_cBR := ⟨by kernel_rfl, by kernel_rfl, by kernel_rfl⟩
  M_Bank_declare_fun := ⟨by kernel_rfl, by kernel_rfl⟩
  M_Bank_fresh_const := ⟨by kernel_rfl, by kernel_rfl⟩
  M_Bank_op := ⟨by kernel_rfl, by kernel_rfl⟩
  M_Bank_args := ⟨by kernel_rfl, by kernel_rfl⟩
  M_Bank_data := ⟨by kernel_rfl, by kernel_rfl⟩
  M_Bank_width := ⟨by kernel_rfl, by kernel_rfl⟩
  M_Bank_make := ⟨by kernel_rfl, by kernel_rfl⟩
  M_Bank_want := ⟨by kernel_rfl, by kernel_rfl⟩
  M_Bank_false_term := ⟨by kernel_rfl, by kernel_rfl⟩
  M_Bank_true_term := ⟨by kernel_rfl, by kernel_rfl⟩
  M_Bank_bool_term := ⟨by kernel_rfl, by kernel_rfl⟩
  M_BoolBank_not_of := ⟨by kernel_rfl, by kernel_rfl⟩
  M_TermBank_bv_sort := ⟨by kernel_rfl, by kernel_rfl⟩
  M_TermBank_want_bits := ⟨by kernel_rfl, by kernel_rfl⟩
  M_TermBank_bv_num := ⟨by kernel_rfl, by kernel_rfl⟩
  M_TermBank_concat := ⟨by kernel_rfl, by kernel_rfl⟩
  M_TermBank_bit := ⟨by kernel_rfl, by kernel_rfl⟩
  M_BoolRewriter_negated := ⟨by kernel_rfl, by kernel_rfl⟩
  M_BitsRewriter_bit_of := ⟨by kernel_rfl, by kernel_rfl⟩
  M_BitsRewriter_bit_within := ⟨by kernel_rfl, by kernel_rfl⟩
  A_sort_names := ⟨by kernel_rfl⟩
  T_sort_names := ⟨by kernel_rfl⟩
  A_sort_widths := ⟨by kernel_rfl⟩
  T_sort_widths := ⟨by kernel_rfl⟩
  A_fun_names := ⟨by kernel_rfl⟩
  T_fun_names := ⟨by kernel_rfl⟩
  A_fun_args := ⟨by kernel_rfl⟩
  T_fun_args := ⟨by kernel_rfl⟩
  A_fun_results := ⟨by kernel_rfl⟩
  T_fun_results := ⟨by kernel_rfl⟩
  A_fresh_count := ⟨by kernel_rfl⟩
  T_fresh_count := ⟨by kernel_rfl⟩
  A_term_ops := ⟨by kernel_rfl⟩
  T_term_ops := ⟨by kernel_rfl⟩
  A_term_args := ⟨by kernel_rfl⟩
  T_term_args := ⟨by kernel_rfl⟩
  A_term_sorts := ⟨by kernel_rfl⟩
  T_term_sorts := ⟨by kernel_rfl⟩
  A_term_datas := ⟨by kernel_rfl⟩
  T_term_datas := ⟨by kernel_rfl⟩
  A_numbers := ⟨by kernel_rfl⟩
  T_numbers := ⟨by kernel_rfl⟩
  A_true_number := ⟨by kernel_rfl⟩
  T_true_number := ⟨by kernel_rfl⟩
  A_false_number := ⟨by kernel_rfl⟩
  T_false_number := ⟨by kernel_rfl⟩
  A_bv_numbers := ⟨by kernel_rfl⟩
  T_bv_numbers := ⟨by kernel_rfl⟩
  A_bank := ⟨by kernel_rfl⟩
  T_bank := ⟨by kernel_rfl⟩
  A_yes := ⟨by kernel_rfl⟩
  T_yes := ⟨by kernel_rfl⟩
  A_no := ⟨by kernel_rfl⟩
  T_no := ⟨by kernel_rfl⟩
  A_known := ⟨by kernel_rfl⟩
  T_known := ⟨by kernel_rfl⟩
  G_TermBank := globIs_of X T (by kernel_rfl)
  G_BitsRewriter := globIs_of X T (by kernel_rfl)
  G_BOOL := ⟨426, globIs_of X T (by kernel_rfl)⟩
  G_WIDEST := ⟨432, globIs_of X T (by kernel_rfl)⟩
  G_bit_value := globIs_of X T (by kernel_rfl)
  G_law_next := globIs_of X T (by kernel_rfl)
  G_law_drawn := globIs_of X T (by kernel_rfl)
  G_law_bottom := globIs_of X T (by kernel_rfl)
  G_law_upon := globIs_of X T (by kernel_rfl)
  G_law_often := globIs_of X T (by kernel_rfl)
  G_law_round := globIs_of X T (by kernel_rfl)
  G_law_widened := globIs_of X T (by kernel_rfl)
  G_law_course := globIs_of X T (by kernel_rfl)
  G_law_grown := globIs_of X T (by kernel_rfl)
  G_law_due := globIs_of X T (by kernel_rfl)
  U_len := builtIs_of X T (by kernel_rfl) (by boot_by_name) (by decide)
  U_range := builtIs_of X T (by kernel_rfl) (by boot_by_name) (by decide)
  U_tuple := builtIs_of X T (by kernel_rfl) (by boot_by_name) (by decide)
  U_list := builtIs_of X T (by kernel_rfl) (by boot_by_name) (by decide)
  U_min := builtIs_of X T (by kernel_rfl) (by boot_by_name) (by decide)
  U_int := builtIs_of X T (by kernel_rfl) (by boot_by_name) (by decide)
  U_super := builtIs_of X T (by kernel_rfl) (by boot_by_name) (by decide)
}⟩

theorem cells_of {cm : Str → Option Value} {cs : List (Str × Addr)} {news : List (Addr × Obj)} (Y : CellsAre cm cs news) : ∀ {x : Str} {c : Addr}, cs.lookup x = some c → ∃ o, (c, o) ∈ news ∧ o.data = .cell (cm x) := by
  induction Y with
  | nil => intro x c h; cases h
  | cons hd _ ih =>
    rename_i n c' o cs' cells' _
    intro x c h
    rw [List.lookup_cons] at h
    split at h
    · rename_i e
      cases h
      have := beq_iff_eq.mp e
      subst this
      exact ⟨o, List.mem_cons_self, hd⟩
    · obtain ⟨o', h1, h2⟩ := ih h
      exact ⟨o', List.mem_cons_of_mem _ h1, h2⟩
/-- the law's own frame, as the head leaves it -/
theorem law_sr {P : Params} {B : Heap} {L : Addr} {m cm : Str → Option Value} {env : Env} {names : Names} {vals : Vals} {cs : List (Str × Addr)} {news : List (Addr × Obj)} {s : Shared} (ok : EnvOk env names) (hL : env.locals = L) (hcs : env.cells = cs) (F : Fr B L s.heap m) (N : News B L s.heap news) (Y : CellsAre cm cs news)
    (hpw : cs.Pairwise fun x y => x.2 ≠ y.2) (hcn : ∀ x, names.lookup x = some .cell → (cs.lookup x).isSome = true) (low : sysModules < B.objs.size) (hsm : ∃ o, B.get? cStatics = some o) (hlen : vals.length = names.length)
    (hv0 : ∀ (i : Nat) (x : Str) (k : NameKind) (v : V), names[i]? = some (x, k) → vals[i]? = some (some v) → k = .local ∧ ∃ a, m x = some a ∧ VR [] s.heap v a) : SR P B env names vals [] [] s := by
  have cell : ∀ (x : Str) (c : Addr), env.cells.lookup x = some c → s.heap.IsCell c (cm x) ∧ c ≠ L ∧ B.get? c = none := by
    intro x c h
    rw [hcs] at h
    obtain ⟨o, h1, h2⟩ := cells_of Y h
    exact ⟨⟨o, (N _ h1).1, h2⟩, (N _ h1).2.1, (N _ h1).2.2⟩
  obtain ⟨o3, ho3⟩ := hsm
  refine ⟨ok, ⟨⟨rfl, List.nodup_nil, fun i o a h => by simp at h⟩, F.keep, fun a h => (by simp at h), ⟨cStatics, o3, by decide, ho3⟩, fun a h => (by simp at h)⟩, ⟨hlen, ⟨m, by rw [hL]; exact F.ns, fun i x v h1 h2 => (hv0 i x _ v h1 h2).2⟩, fun i x k v h1 h2 h3 => ?_, fun i x h1 => ?_, by rw [hcs]; exact hpw, by simp, fun x c h => ⟨by simp, by rw [hL]; exact (cell x c h).2.1⟩, fun x c h => ?_, ?_⟩⟩
  · have := (hv0 i x k v h1 h3).1
    subst this
    rcases h2 with h2 | h2 <;> cases h2
  · obtain ⟨c, hc⟩ := Option.isSome_iff_exists.mp (hcn x (lookup_of_get ok.nod h1))
    rw [← hcs] at hc
    exact ⟨c, _, hc, (cell x c hc).1, (cell x c hc).2.2⟩
  · obtain ⟨o, ho, _⟩ := (cell x c h).1
    exact ⟨o, ho⟩
  · rw [hL]
    cases e : B.get? L with
    | none => rfl
    | some o => exact absurd (Heap.lt_size e) (Nat.not_lt.mpr F.above)
theorem hv0_of {h : Heap} {m : Str → Option Value} {names : Names} {x0 : Str} {v0 : V} {rest : Vals} (hr : ∀ o ∈ rest, o = none) (h0 : names[0]? = some (x0, .local)) (hm : ∃ a, m x0 = some a ∧ VR [] h v0 a) :
    ∀ (i : Nat) (x : Str) (k : NameKind) (v : V), names[i]? = some (x, k) → (some v0 :: rest)[i]? = some (some v) → k = .local ∧ ∃ a, m x = some a ∧ VR [] h v a := by
  intro i x k v h1 h2
  cases i with
  | zero =>
    rw [h0] at h1
    simp at h1 h2
    obtain ⟨rfl, rfl⟩ := h1
    subst h2
    exact ⟨rfl, hm⟩
  | succ i =>
    rw [List.getElem?_cons_succ] at h2
    cases hr _ (List.mem_of_getElem? h2)
theorem law_end_of {w : World} {names : Names} {body : List Stmt} {vals : Vals} {env : Env} {s s₁ : Shared} {A : Around} {E : Value → Shared → Prop} {prog : Program} {d : Nat} {c : ClaimW} {cl : Str → Option Addr} {mean : ExcName → Option Value} {args : List WData}
    (h : EvS prog w s₁.heap names d body vals [] (fun f _ _ => f = .ret (.bool true))) (sr : SR w.params s₁.heap env names vals [] [] s) (r : Room A d) (hg : s.gens = #[]) (hos : s.os = s₁.os) (hn : ∀ cls, c.raises args cls = false) (hp : c.post args (.bool true) args = true) :
    wpAny (model prog w) A (execs body env) (fun f s' => GoodW c cl mean args s₁ (.ok (.ret (match f with | .ret v => v | _ => .none))) s') E s := by
  refine wpAny_mono (WS.go' h env [] s sr A E r) (fun fl s' ⟨f, vals', H', ρ', b1, b2, b3, q⟩ => ?_) (fun _ _ e => e)
  subst q
  cases b1 with
  | ret hv =>
    cases hv
    exact ⟨.inl ⟨.bool true, .bool true, [], rfl, hn, .bool true, hp, unshared_nil⟩, b2.hs.base, b3.os.trans hos, b3.gens.trans hg⟩

theorem nm_law_nod : (nm_law.map (·.1)).Nodup := by decide +kernel
theorem nm_law_dbg : namesOkB nm_law = true := by decide +kernel
theorem nm_law_cells {L : Addr} : ∀ x, nm_law.lookup x = some .cell → (List.lookup x [(Str.ofString "sources", L + 1 + 1), (Str.ofString "wide", L + 1)]).isSome = true := by
  intro x h
  have hm : (x, NameKind.cell) ∈ nm_law := by
    clear L
    revert h
    generalize nm_law = l
    intro h
    induction l with
    | nil => cases h
    | cons p r ih =>
      obtain ⟨y, k⟩ := p
      rw [List.lookup_cons] at h
      split at h
      · rename_i e
        cases h
        rw [beq_iff_eq.mp e]
        exact List.mem_cons_self
      · exact List.mem_cons_of_mem _ (ih h)
  simp only [nm_law, List.mem_cons, Prod.mk.injEq, reduceCtorEq, and_false, false_or, or_false, and_true, List.not_mem_nil] at hm
  rcases hm with rfl | rfl <;> kernel_rfl
theorem nm_law_pw {L : Addr} : [(Str.ofString "sources", L + 1 + 1), (Str.ofString "wide", L + 1)].Pairwise (fun x y => x.2 ≠ y.2) := by simp
theorem law_room {env : Env} : Room (callerA.deeper env) 9 := ⟨by rw [depth_deeper, depth_caller]; decide, by rw [units_deeper, units_caller]; decide, rfl⟩

end Mine
theorem PySem.Challenge.cw_sj0105_01_holds : PySem.Challenge.rw_sj0105_01.Holds := by
  refine Mine.hd ?_
  intro w s₀ s₁ mg mb G Y fa o pm cd doc dV kV ho hd hcd hD hmg hg args vals as hpre hlay hrd hwl hlo
  have KX := kIn_of Y
  have XG := (Ground.X G).1
  have VG := (Ground.X G).2
  refine Ground.open G ?_
  intro T B D E1 E2
  try (refine guard_noD D (by decide +kernel) ?_; clear D)
  obtain ⟨_, _, M⟩ := bmod_of_top T
  try (obtain ⟨_, _, he, B0⟩ := based_of_top T rfl hmg ho hd; have he' : cd = _ := he; subst he'; clear he)
  clear hmg
  wrow_args hpre hlay hrd hwl hlo
  refine enter_call ?_
  w_top on
  try refine codeAny_mono ?_ (fun _ _ g => GoodW.toG g)
  have K0 := below_caller (Top.heap T)
  w_call any ho hd hcd hD T F
  clear hd
  k_drop
  (with_reducible rename Frag.In _ _ => KX)
  (with_reducible rename Top _ _ _ _ _ _ => T)
  (with_reducible rename Fr _ _ _ _ => F)
  (with_reducible rename News _ _ _ _ => N0)
  (with_reducible rename CellsAre _ _ _ => X0)
  (with_reducible rename IntsAre _ _ => hI)
  (with_reducible rename Heap.IsList _ _ _ => hL)
  obtain ⟨cx⟩ := Mine.cxOf KX (topRead_of T)
  have low : sysModules < _ := Ground.low (by assumption)
  have sm : ∃ o, _ = some o := (let ⟨_, ⟨o, _, _, ho, _⟩, _⟩ := T.nodigits; ⟨o, ho⟩)
  refine Mine.law_end_of (d := 9) (Mine.law_all (d := 0) cx ⟨_, hL, hI⟩ ?len) (Mine.law_sr ⟨rfl, rfl, rfl, rfl, Mine.nm_law_nod, Mine.namesOkB_is Mine.nm_law_dbg⟩ rfl rfl F N0 X0 Mine.nm_law_pw Mine.nm_law_cells low sm rfl (Mine.hv0_of (by simp) rfl ⟨_, rfl, .val _⟩)) Mine.law_room (by assumption) rfl ?n ?p
  case len => omega
  case n => exact fun cls => by kernel_rfl
  case p => kernel_rfl
