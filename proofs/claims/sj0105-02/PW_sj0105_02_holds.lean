import PyProof.Rows.All
import Wide.All
import OpenK.AllK
import Wide.FinOn
import Lean
import PySem.Challenge.RW_sj0105_02
open PySem PySem.W PySem.Calls PyProof.Rows
set_option Elab.async false
set_option linter.all false
set_option maxRecDepth 100000
set_option maxHeartbeats 8000000
namespace Mine
set_option autoImplicit false
theorem le_dd {d a b : Nat} (e : Nat.ble a b = true) : d + a ≤ d + b := Nat.add_le_add_left (Nat.le_of_ble_eq_true e) d
theorem le_to {x a b : Nat} (h : x ≤ a) (e : Nat.ble a b = true) : x ≤ b := Nat.le_trans h (Nat.le_of_ble_eq_true e)
local macro_rules | `(tactic| walk_at "om") => `(tactic| first | assumption | exact Nat.le_of_ble_eq_true rfl | exact le_dd rfl | exact Nat.le_add_right _ _ | (refine le_to (by assumption) ?_; exact rfl) | lia | omega)
inductive V where
  | none
  | bool (b : Bool)
  | int (i : Int)
  | str (s : Str)
  | tup (vs : List V)
  | ref (n : Nat)
  | val (v : Value)
  | rng (n : Int)

/-- a part of a key that is a tuple -/
inductive KI where
  | i (n : Int)
  | s (x : Str)
  | t (l : List Int)
  deriving DecidableEq
noncomputable def KI.v : KI → V
  | .i n => .int n
  | .s x => .str x
  | .t l => .tup (l.map .int)
noncomputable def keyV (k : List KI) : V := .tup (k.map KI.v)
noncomputable def KI.ok : KI → Bool
  | .s x => PyData.strOk x
  | _ => true
noncomputable def keyOk (k : List KI) : Bool := k.all KI.ok

inductive O where
  | list (vs : List V)
  | idict (es : List (Int × V))
  | kdict (es : List (List KI × V))
  | ns (fs : List (Str × V))
  | inst (c : Addr) (n : Nat)

noncomputable abbrev tupObj (items : List Value) : Obj := { cls := .type "tuple", data := .seq items.toArray }
noncomputable abbrev listObj (items : List Value) (ep : Nat) : Obj := { cls := .type "list", data := .seq items.toArray ep }
noncomputable abbrev dictObj (es : List DictEntry) (ep : Nat) : Obj := { cls := .type "dict", data := .dict es.toArray ep }

mutual
inductive VR (ρ : List Addr) (h : Heap) : V → Value → Prop
  | none : VR ρ h .none .none
  | bool (b : Bool) : VR ρ h (.bool b) (.bool b)
  | int (i : Int) (t : Tok) : VR ρ h (.int i) (.int i t)
  | str (s : Str) (t : Tok) : VR ρ h (.str s) (.str s t)
  | tup {a : Addr} {items : List Value} {vs : List V} : h.get? a = some (tupObj items) → VRs ρ h vs items → VR ρ h (.tup vs) (.ref a)
  | ref {n : Nat} {a : Addr} : ρ[n]? = some a → VR ρ h (.ref n) (.ref a)
  | val (v : Value) : VR ρ h (.val v) v
  | rng {a : Addr} {n : Int} {t u v : Tok} : IsRange h a 0 n 1 t u v → VR ρ h (.rng n) (.ref a)
inductive VRs (ρ : List Addr) (h : Heap) : List V → List Value → Prop
  | nil : VRs ρ h [] []
  | cons {v : V} {x : Value} {vs : List V} {xs : List Value} : VR ρ h v x → VRs ρ h vs xs → VRs ρ h (v :: vs) (x :: xs)
end

/-- what never changes -/
noncomputable def Imm (o : Obj) : Prop := (o.cls = .type "tuple" ∧ ∃ xs ep, o.data = .seq xs ep) ∨ (o.cls = .type "range" ∧ ∃ xs, o.data = .fields xs)
theorem imm_tup (items : List Value) : Imm (tupObj items) := .inl ⟨rfl, _, _, rfl⟩
noncomputable def TupKeep (h h' : Heap) : Prop := ∀ t o, Imm o → h.get? t = some o → h'.get? t = some o
theorem TupKeep.of {h h' : Heap} (k : ∀ b o, h.get? b = some o → h'.get? b = some o) : TupKeep h h' := fun t o _ e => k t o e
theorem TupKeep.trans {h h' h'' : Heap} (x : TupKeep h h') (y : TupKeep h' h'') : TupKeep h h'' := fun t o i e => y t o i (x t o i e)

mutual
theorem VR.mono {ρ ρ' : List Addr} {h h' : Heap} (hp : ∃ t, ρ' = ρ ++ t) (ht : TupKeep h h') : ∀ {v : V} {x : Value}, VR ρ h v x → VR ρ' h' v x
  | _, _, .none => .none
  | _, _, .bool b => .bool b
  | _, _, .int i t => .int i t
  | _, _, .str s t => .str s t
  | _, _, .tup ha hs => .tup (ht _ _ (imm_tup _) ha) (VRs.mono hp ht hs)
  | _, _, .ref (n := n) (a := a) hn => .ref (by
      obtain ⟨t, rfl⟩ := hp
      rw [List.getElem?_append_left (List.getElem?_eq_some_iff.mp hn).1]; exact hn)
  | _, _, .val v => .val v
  | _, _, .rng hr => .rng (ht _ _ (.inr ⟨rfl, _, rfl⟩) hr)
theorem VRs.mono {ρ ρ' : List Addr} {h h' : Heap} (hp : ∃ t, ρ' = ρ ++ t) (ht : TupKeep h h') : ∀ {vs : List V} {xs : List Value}, VRs ρ h vs xs → VRs ρ' h' vs xs
  | _, _, .nil => .nil
  | _, _, .cons a b => .cons (VR.mono hp ht a) (VRs.mono hp ht b)
end

theorem VRs.length {ρ : List Addr} {h : Heap} : ∀ {vs : List V} {xs : List Value}, VRs ρ h vs xs → xs.length = vs.length
  | _, _, .nil => rfl
  | _, _, .cons _ b => by rw [List.length_cons, List.length_cons, VRs.length b]
theorem VRs.get {ρ : List Addr} {h : Heap} : ∀ {vs : List V} {xs : List Value} {i : Nat} {v : V}, VRs ρ h vs xs → vs[i]? = some v → ∃ x, xs[i]? = some x ∧ VR ρ h v x
  | _, _, _, _, .nil, e => by simp at e
  | _, _, 0, _, .cons a _, e => by simp only [List.getElem?_cons_zero, Option.some.injEq] at e ⊢; subst e; exact ⟨_, rfl, a⟩
  | _, _, i + 1, _, .cons _ b, e => by simp only [List.getElem?_cons_succ] at e ⊢; exact VRs.get b e
theorem VRs.append {ρ : List Addr} {h : Heap} : ∀ {vs ws : List V} {xs ys : List Value}, VRs ρ h vs xs → VRs ρ h ws ys → VRs ρ h (vs ++ ws) (xs ++ ys)
  | _, _, _, _, .nil, b => b
  | _, _, _, _, .cons a r, b => .cons a (VRs.append r b)
theorem VRs.set {ρ : List Addr} {h : Heap} : ∀ {vs : List V} {xs : List Value} {v : V} {x : Value} (i : Nat), VRs ρ h vs xs → VR ρ h v x → VRs ρ h (vs.set i v) (xs.set i x)
  | _, _, _, _, _, .nil, _ => .nil
  | _, _, _, _, 0, .cons _ r, b => .cons b r
  | _, _, _, _, i + 1, .cons a r, b => .cons a (VRs.set i r b)
theorem VRs.take {ρ : List Addr} {h : Heap} : ∀ {vs : List V} {xs : List Value} (i : Nat), VRs ρ h vs xs → VRs ρ h (vs.take i) (xs.take i)
  | _, _, 0, _ => by simp only [List.take_zero]; exact .nil
  | _, _, _ + 1, .nil => .nil
  | _, _, i + 1, .cons a r => .cons a (VRs.take i r)
theorem VRs.drop {ρ : List Addr} {h : Heap} : ∀ {vs : List V} {xs : List Value} (i : Nat), VRs ρ h vs xs → VRs ρ h (vs.drop i) (xs.drop i)
  | _, _, 0, r => r
  | _, _, _ + 1, .nil => .nil
  | _, _, i + 1, .cons _ r => VRs.drop i r
theorem VRs.reverse {ρ : List Addr} {h : Heap} {vs : List V} {xs : List Value} (r : VRs ρ h vs xs) : VRs ρ h vs.reverse xs.reverse := by
  induction vs generalizing xs with
  | nil => cases r; exact .nil
  | cons v vs ih => cases r with | cons a b => rw [List.reverse_cons, List.reverse_cons]; exact (ih b).append (.cons a .nil)

/-- the hash of a key, by value -/
noncomputable def KI.hash (P : Params) : KI → Int
  | .i n => hashInt n
  | .s x => PyData.keyHash P x
  | .t l => reduceHash (Builtin.Tuple.tupleHashOf (l.map hashInt))
noncomputable def hashK (P : Params) (k : List KI) : Int := reduceHash (Builtin.Tuple.tupleHashOf (k.map (KI.hash P)))

inductive KRs (P : Params) (ρ : List Addr) (h : Heap) : List (List KI × V) → List DictEntry → Prop
  | nil : KRs P ρ h [] []
  | cons {k : List KI} {v : V} {e : DictEntry} {es : List (List KI × V)} {ds : List DictEntry} : keyOk k = true → e.hash = hashK P k → VR ρ h (keyV k) e.key → VR ρ h v e.val → KRs P ρ h es ds → KRs P ρ h ((k, v) :: es) (e :: ds)
inductive IRs (ρ : List Addr) (h : Heap) : List (Int × V) → List DictEntry → Prop
  | nil : IRs ρ h [] []
  | cons {k : Int} {t : Tok} {v : V} {e : DictEntry} {es : List (Int × V)} {ds : List DictEntry} : e.hash = hashInt k → e.key = .int k t → VR ρ h v e.val → IRs ρ h es ds → IRs ρ h ((k, v) :: es) (e :: ds)
inductive NRs (ρ : List Addr) (h : Heap) : List (Str × V) → List DictEntry → Prop
  | nil : NRs ρ h [] []
  | cons {x : Str} {t : Tok} {v : V} {e : DictEntry} {es : List (Str × V)} {ds : List DictEntry} : e.key = .str x t → VR ρ h v e.val → NRs ρ h es ds → NRs ρ h ((x, v) :: es) (e :: ds)

theorem KRs.mono {P : Params} {ρ ρ' : List Addr} {h h' : Heap} (hp : ∃ t, ρ' = ρ ++ t) (ht : TupKeep h h') : ∀ {vs : List (List KI × V)} {xs : List DictEntry}, KRs P ρ h vs xs → KRs P ρ' h' vs xs
  | _, _, .nil => .nil
  | _, _, .cons o a b c d => .cons o a (b.mono hp ht) (c.mono hp ht) (KRs.mono hp ht d)
theorem IRs.mono {ρ ρ' : List Addr} {h h' : Heap} (hp : ∃ t, ρ' = ρ ++ t) (ht : TupKeep h h') : ∀ {vs : List (Int × V)} {xs : List DictEntry}, IRs ρ h vs xs → IRs ρ' h' vs xs
  | _, _, .nil => .nil
  | _, _, .cons a b c d => .cons a b (c.mono hp ht) (IRs.mono hp ht d)
theorem NRs.mono {ρ ρ' : List Addr} {h h' : Heap} (hp : ∃ t, ρ' = ρ ++ t) (ht : TupKeep h h') : ∀ {vs : List (Str × V)} {xs : List DictEntry}, NRs ρ h vs xs → NRs ρ' h' vs xs
  | _, _, .nil => .nil
  | _, _, .cons a b c => .cons a (b.mono hp ht) (NRs.mono hp ht c)

/-- an object of the call's own, in the heap -/
noncomputable def OR (P : Params) (ρ : List Addr) (h : Heap) : O → Addr → Prop
  | .list vs, a => ∃ (items : List Value) (ep : Nat), h.get? a = some (listObj items ep) ∧ VRs ρ h vs items
  | .idict es, a => ∃ ds ep, h.get? a = some (dictObj ds ep) ∧ IRs ρ h es ds ∧ (es.map (·.1)).Nodup
  | .kdict es, a => ∃ ds ep, h.get? a = some (dictObj ds ep) ∧ KRs P ρ h es ds ∧ (es.map (·.1)).Nodup
  | .ns fs, a => ∃ ds ep, h.get? a = some (dictObj ds ep) ∧ NRs ρ h fs ds ∧ (fs.map (·.1)).Nodup
  | .inst c n, a => ∃ d, ρ[n]? = some d ∧ h.get? a = some (instObj c d)

structure HR (P : Params) (ρ : List Addr) (H : List O) (h : Heap) : Prop where
  len : ρ.length = H.length
  nod : ρ.Nodup
  obj : ∀ (i : Nat) (o : O) (a : Addr), H[i]? = some o → ρ[i]? = some a → OR P ρ h o a

theorem OR.there {P : Params} {ρ : List Addr} {h : Heap} {o : O} {a : Addr} (x : OR P ρ h o a) : ∃ ob, h.get? a = some ob ∧ ¬ Imm ob := by
  cases o with
  | list vs => obtain ⟨i, ep, e, _⟩ := x; exact ⟨_, e, fun q => by rcases q with ⟨q, _⟩ | ⟨q, _⟩ <;> simp at q⟩
  | idict es => obtain ⟨i, ep, e, _⟩ := x; exact ⟨_, e, fun q => by rcases q with ⟨q, _⟩ | ⟨q, _⟩ <;> simp at q⟩
  | kdict es => obtain ⟨i, ep, e, _⟩ := x; exact ⟨_, e, fun q => by rcases q with ⟨q, _⟩ | ⟨q, _⟩ <;> simp at q⟩
  | ns fs => obtain ⟨i, ep, e, _⟩ := x; exact ⟨_, e, fun q => by rcases q with ⟨q, _⟩ | ⟨q, _⟩ <;> simp at q⟩
  | inst c n => obtain ⟨d, _, e⟩ := x; exact ⟨_, e, fun q => by rcases q with ⟨q, _⟩ | ⟨q, _⟩ <;> simp at q⟩

theorem HR.own {P : Params} {ρ : List Addr} {H : List O} {h : Heap} (x : HR P ρ H h) {a : Addr} (ha : a ∈ ρ) : ∃ ob, h.get? a = some ob ∧ ¬ Imm ob := by
  obtain ⟨i, hi⟩ := List.mem_iff_getElem?.mp ha
  have hl : i < H.length := by rw [← x.len]; exact (List.getElem?_eq_some_iff.mp hi).1
  exact (x.obj i H[i] a (List.getElem?_eq_getElem hl) hi).there

/-- what a step leaves: all but the call's own objects stands, nothing fixed changes -/
structure Ext (ρ : List Addr) (s : Shared) (ρ' : List Addr) (s' : Shared) : Prop where
  pre : ∃ t, ρ' = ρ ++ t ∧ ∀ a ∈ t, s.heap.get? a = none
  keep : ∀ b o, s.heap.get? b = some o → b ∉ ρ → s'.heap.get? b = some o
  live : ∀ a ∈ ρ, ∀ o, s.heap.get? a = some o → ∃ o', s'.heap.get? a = some o'
  tup : TupKeep s.heap s'.heap
  gens : s'.gens = s.gens
  os : s'.os = s.os

theorem Ext.keeps {ρ : List Addr} {s s' : Shared} (k : ∀ b o, s.heap.get? b = some o → s'.heap.get? b = some o) (hg : s'.gens = s.gens) (ho : s'.os = s.os) : Ext ρ s ρ s' :=
  ⟨⟨[], by simp, by simp⟩, fun b o e _ => k b o e, fun a _ o e => ⟨o, k _ _ e⟩, .of k, hg, ho⟩
theorem Ext.refl (ρ : List Addr) (s : Shared) : Ext ρ s ρ s := .keeps (fun _ _ e => e) rfl rfl
theorem Ext.toks {ρ : List Addr} {s : Shared} (t : Nat) : Ext ρ s ρ { s with toks := t } := .keeps (fun _ _ e => e) rfl rfl
theorem Ext.pre' {ρ ρ' : List Addr} {s s' : Shared} (x : Ext ρ s ρ' s') : ∃ t, ρ' = ρ ++ t := let ⟨t, e, _⟩ := x.pre; ⟨t, e⟩
theorem Ext.notin {ρ ρ' : List Addr} {s s' : Shared} (x : Ext ρ s ρ' s') {b : Addr} {o : Obj} (hb : s.heap.get? b = some o) (hn : b ∉ ρ) : b ∉ ρ' := by
  obtain ⟨t, rfl, ht⟩ := x.pre
  intro hm
  rcases List.mem_append.mp hm with q | q
  · exact hn q
  · rw [ht b q] at hb; cases hb
theorem fresh_back {ρ ρ' : List Addr} {h h' : Heap} (pre : ∃ t, ρ' = ρ ++ t) (keep : ∀ b o, h.get? b = some o → b ∉ ρ → h'.get? b = some o) (live : ∀ a ∈ ρ, ∀ o, h.get? a = some o → ∃ o', h'.get? a = some o')
    {a : Addr} (ha : h'.get? a = none) : h.get? a = none := by
  cases e : h.get? a with
  | none => rfl
  | some o =>
    by_cases q : a ∈ ρ
    · obtain ⟨o', e'⟩ := live a q o e; rw [ha] at e'; cases e'
    · have := keep a o e q; rw [ha] at this; cases this
theorem Ext.trans {ρ ρ' ρ'' : List Addr} {s s' s'' : Shared} (x : Ext ρ s ρ' s') (y : Ext ρ' s' ρ'' s'') : Ext ρ s ρ'' s'' := by
  refine ⟨?_, fun b o e hb => y.keep b o (x.keep b o e hb) (x.notin e hb), fun a ha o e => ?_, x.tup.trans y.tup, y.gens.trans x.gens, y.os.trans x.os⟩
  · obtain ⟨t, rfl, ht⟩ := x.pre
    obtain ⟨t', rfl, ht'⟩ := y.pre
    refine ⟨t ++ t', by simp, fun a ha => ?_⟩
    rcases List.mem_append.mp ha with q | q
    · exact ht a q
    · exact fresh_back ⟨t, rfl⟩ x.keep x.live (ht' a q)
  · obtain ⟨o', e'⟩ := x.live a ha o e
    obtain ⟨t, rfl, _⟩ := x.pre
    exact y.live a (List.mem_append_left _ ha) o' e'
theorem Ext.vr {ρ ρ' : List Addr} {s s' : Shared} (x : Ext ρ s ρ' s') {v : V} {a : Value} (q : VR ρ s.heap v a) : VR ρ' s'.heap v a := q.mono x.pre' x.tup
theorem Ext.vrs {ρ ρ' : List Addr} {s s' : Shared} (x : Ext ρ s ρ' s') {v : List V} {a : List Value} (q : VRs ρ s.heap v a) : VRs ρ' s'.heap v a := q.mono x.pre' x.tup

/-- the call's own heap over the top's -/
structure HS (P : Params) (B : Heap) (ρ : List Addr) (H : List O) (s : Shared) : Prop where
  hr : HR P ρ H s.heap
  base : ∀ b o, B.get? b = some o → s.heap.get? b = some o
  above : ∀ a ∈ ρ, B.get? a = none
  sysm : ∃ c o, sysModules < c ∧ B.get? c = some o
  big : ∀ a ∈ ρ, sysModules < a

theorem HS.notSys {P : Params} {B : Heap} {ρ : List Addr} {H : List O} {s : Shared} (x : HS P B ρ H s) {a : Addr} (h : a ∈ ρ) : (a == sysModules) = false :=
  beq_eq_false_iff_ne.mpr (Nat.ne_of_gt (x.big a h))

theorem OR.mono {P : Params} {ρ ρ' : List Addr} {h h' : Heap} {o : O} {a : Addr} (x : OR P ρ h o a) (hp : ∃ t, ρ' = ρ ++ t) (tk : TupKeep h h') (k : ∀ ob, h.get? a = some ob → h'.get? a = some ob) : OR P ρ' h' o a := by
  cases o with
  | list vs => obtain ⟨i, ep, e, r⟩ := x; exact ⟨i, ep, k _ e, r.mono hp tk⟩
  | idict es => obtain ⟨i, ep, e, r, n⟩ := x; exact ⟨i, ep, k _ e, r.mono hp tk, n⟩
  | kdict es => obtain ⟨i, ep, e, r, n⟩ := x; exact ⟨i, ep, k _ e, r.mono hp tk, n⟩
  | ns fs => obtain ⟨i, ep, e, r, n⟩ := x; exact ⟨i, ep, k _ e, r.mono hp tk, n⟩
  | inst c n =>
    obtain ⟨d, hd, e⟩ := x
    obtain ⟨t, rfl⟩ := hp
    exact ⟨d, by rw [List.getElem?_append_left (List.getElem?_eq_some_iff.mp hd).1]; exact hd, k _ e⟩

/-- what is not the call's own changes, or is new -/
theorem HS.aside {P : Params} {B : Heap} {ρ : List Addr} {H : List O} {s s' : Shared} {wr : List Addr} (x : HS P B ρ H s) (k : ∀ b o, b ∉ wr → s.heap.get? b = some o → s'.heap.get? b = some o)
    (hw : ∀ b ∈ wr, b ∉ ρ ∧ B.get? b = none) (tk : TupKeep s.heap s'.heap) : HS P B ρ H s' :=
  ⟨⟨x.hr.len, x.hr.nod, fun i o a ho ha => (x.hr.obj i o a ho ha).mono ⟨[], by simp⟩ tk fun ob e => k _ _ (fun q => (hw a q).1 (List.mem_of_getElem? ha)) e⟩,
    fun b o e => k b o (fun q => by rw [(hw b q).2] at e; cases e) (x.base b o e), x.above, x.sysm, x.big⟩
/-- nothing of the old heap changes -/
theorem HS.keeps {P : Params} {B : Heap} {ρ : List Addr} {H : List O} {s s' : Shared} (x : HS P B ρ H s) (k : ∀ b o, s.heap.get? b = some o → s'.heap.get? b = some o) : HS P B ρ H s' :=
  x.aside (wr := []) (fun b o _ e => k b o e) (fun b hb => nomatch hb) (.of k)
theorem HS.fresh {P : Params} {B : Heap} {ρ : List Addr} {H : List O} {s : Shared} {a : Addr} (x : HS P B ρ H s) (ha : s.heap.get? a = none) : a ∉ ρ ∧ B.get? a = none := by
  constructor
  · intro q; obtain ⟨o, e, _⟩ := x.hr.own q; rw [ha] at e; cases e
  · cases e : B.get? a with
    | none => rfl
    | some o => have := x.base a o e; rw [ha] at this; cases this
theorem get_end (h : Heap) : h.get? h.objs.size = none := by
  cases e : h.get? h.objs.size with
  | none => rfl
  | some o => exact absurd (Heap.lt_size e) (Nat.lt_irrefl _)

/-- one more object of the call's own -/
theorem HS.more {P : Params} {B : Heap} {ρ : List Addr} {H : List O} {s s' : Shared} {o : O} {a : Addr} (x : HS P B ρ H s) (k : ∀ b o, s.heap.get? b = some o → s'.heap.get? b = some o)
    (ha : s.heap.get? a = none) (ho : OR P (ρ ++ [a]) s'.heap o a) (hz : s.heap.objs.size ≤ a := by exact Nat.le_refl _) : HS P B (ρ ++ [a]) (H ++ [o]) s' := by
  obtain ⟨hn, hB⟩ := x.fresh ha
  have hp : ∃ t, ρ ++ [a] = ρ ++ t := ⟨[a], rfl⟩
  refine ⟨⟨by simp [x.hr.len], ?_, fun i o' a' hi hi' => ?_⟩, fun b o e => k b o (x.base b o e), fun b hb => ?_, x.sysm, fun b hb => ?_⟩
  · rw [List.nodup_append]
    exact ⟨x.hr.nod, by simp, fun b hb c hc => by simp at hc; subst hc; intro e; subst e; exact hn hb⟩
  · by_cases hl : i < H.length
    · rw [List.getElem?_append_left hl] at hi
      rw [List.getElem?_append_left (by rw [x.hr.len]; exact hl)] at hi'
      exact (x.hr.obj i o' a' hi hi').mono hp (.of k) fun ob e => k _ _ e
    · have hl' : i = H.length := by have := (List.getElem?_eq_some_iff.mp hi).1; simp at this; walk_at "om"
      subst hl'
      rw [List.getElem?_append_right (Nat.le_refl _), Nat.sub_self] at hi
      rw [← x.hr.len, List.getElem?_append_right (Nat.le_refl _), Nat.sub_self] at hi'
      simp only [List.getElem?_cons_zero, Option.some.injEq] at hi hi'
      subst hi hi'; exact ho
  · rcases List.mem_append.mp hb with q | q
    · exact x.above b q
    · simp at q; subst q; exact hB
  · rcases List.mem_append.mp hb with q | q
    · exact x.big b q
    · simp at q; subst q
      obtain ⟨c, oc, h1, h2⟩ := x.sysm
      exact Nat.lt_of_lt_of_le (Nat.lt_trans h1 (Heap.lt_size (x.base c oc h2))) hz
theorem Ext.more {ρ : List Addr} {s s' : Shared} {a : Addr} (k : ∀ b o, s.heap.get? b = some o → s'.heap.get? b = some o) (ha : s.heap.get? a = none) (hg : s'.gens = s.gens) (ho : s'.os = s.os) :
    Ext ρ s (ρ ++ [a]) s' := ⟨⟨[a], rfl, fun b hb => by simp at hb; subst hb; exact ha⟩, fun b o e _ => k b o e, fun a _ o e => ⟨o, k _ _ e⟩, .of k, hg, ho⟩

/-- one object of the call's own changes -/
theorem HS.put {P : Params} {B : Heap} {ρ : List Addr} {H : List O} {s s' : Shared} {o : O} {i : Nat} {a : Addr} (x : HS P B ρ H s) (hi : ρ[i]? = some a) (k : ∀ b, b ≠ a → s'.heap.get? b = s.heap.get? b)
    (ho : OR P ρ s'.heap o a) : HS P B ρ (H.set i o) s' := by
  have ham : a ∈ ρ := List.mem_of_getElem? hi
  have tk : TupKeep s.heap s'.heap := fun t it im e => by
    rw [k t fun q => ?_]; exact e
    subst q
    obtain ⟨ob, e', n⟩ := x.hr.own ham
    rw [e] at e'; cases e'; exact n im
  refine ⟨⟨by simp [x.hr.len], x.hr.nod, fun j o' a' hj hj' => ?_⟩, fun b ob e => ?_, x.above, x.sysm, x.big⟩
  · by_cases hij : i = j
    · subst hij
      have e1 := (List.getElem?_eq_some_iff.mp hj).1
      simp at e1
      rw [List.getElem?_set_self e1] at hj
      cases hj
      rw [hi] at hj'; cases hj'; exact ho
    · rw [List.getElem?_set_ne hij] at hj
      have hne : a' ≠ a := fun q => by
        subst q
        exact hij ((List.getElem?_inj (List.getElem?_eq_some_iff.mp hi).1 x.hr.nod).mp (hi.trans hj'.symm))
      exact (x.hr.obj j o' a' hj hj').mono ⟨[], by simp⟩ tk fun ob e => by rw [k _ hne]; exact e
  · rw [k b fun q => ?_]
    · exact x.base b ob e
    · subst q; rw [x.above b ham] at e; cases e
theorem Ext.put {P : Params} {ρ : List Addr} {H : List O} {s s' : Shared} {i : Nat} {a : Addr} {o' : Obj} (x : HR P ρ H s.heap) (hi : ρ[i]? = some a) (k : ∀ b, b ≠ a → s'.heap.get? b = s.heap.get? b) (hl : s'.heap.get? a = some o') (hg : s'.gens = s.gens) (ho : s'.os = s.os) :
    Ext ρ s ρ s' := by
  have ham : a ∈ ρ := List.mem_of_getElem? hi
  refine ⟨⟨[], by simp, by simp⟩, fun b ob e hb => ?_, fun b hb ob e => ?_, fun t it im e => ?_, hg, ho⟩
  · rw [k b fun q => hb (q ▸ ham)]; exact e
  · by_cases q : b = a
    · subst q; exact ⟨_, hl⟩
    · exact ⟨ob, by rw [k b q]; exact e⟩
  · rw [k t fun q => ?_]; exact e
    subst q
    obtain ⟨ob, e', n⟩ := x.own ham
    rw [e] at e'; cases e'; exact n im
noncomputable abbrev Vals := List (Option V)
noncomputable abbrev Names := List (Str × NameKind)

structure Room (A : Around) (d : Nat) : Prop where
  dep : A.depth + d < recursionLimit
  uni : A.units + 8 * d + 80 < cLine
  hand : A.handled = none
theorem Room.mono {A : Around} {d d' : Nat} (r : Room A d) (h : d' ≤ d) : Room A d' := ⟨by have := r.dep; walk_at "om", by have := r.uni; walk_at "om", r.hand⟩
theorem Room.units64 {A : Around} {d : Nat} (r : Room A d) : A.units + 64 < cLine := by have := r.uni; walk_at "om"
theorem Room.depth {A : Around} {d : Nat} (r : Room A d) : A.depth < recursionLimit := by have := r.dep; walk_at "om"
theorem Room.deeper {A : Around} {d : Nat} {env : Env} (r : Room A (d + 1)) : Room (A.deeper env) d :=
  ⟨by have := r.dep; show A.depth + 1 + d < recursionLimit; walk_at "om", by have := r.uni; show A.units + 3 + 8 * d + 80 < cLine; walk_at "om", r.hand⟩

structure EnvOk (env : Env) (names : Names) : Prop where
  nm : env.scope.names = names
  kind : env.scope.kind = .function
  glob : env.globals = mainGlobals
  bi : env.builtins = builtinsNs
  nod : (names.map (·.1)).Nodup
  dbg : ∀ x ∈ names, (x.1 == ("__debug__" : Str)) = false ∧ (x.1 == ("__classdict__" : Str)) = false

theorem lookup_of_get {names : Names} (hn : (names.map (·.1)).Nodup) : ∀ {i : Nat} {x : Str} {k : NameKind}, names[i]? = some (x, k) → names.lookup x = some k := by
  induction names with
  | nil => intro i x k h; simp at h
  | cons p r ih =>
    intro i x k h
    obtain ⟨y, k'⟩ := p
    rw [List.map_cons, List.nodup_cons] at hn
    cases i with
    | zero => simp only [List.getElem?_cons_zero, Option.some.injEq, Prod.mk.injEq] at h; obtain ⟨rfl, rfl⟩ := h; rw [List.lookup_cons]; simp
    | succ i =>
      simp only [List.getElem?_cons_succ] at h
      have hx : x ≠ y := fun e => hn.1 (List.mem_map.mpr ⟨(x, k), List.mem_of_getElem? h, e⟩)
      have : (x == y) = false := beq_eq_false_iff_ne.mpr hx
      rw [List.lookup_cons, this]; exact ih hn.2 h
theorem EnvOk.kindOf {env : Env} {names : Names} (ok : EnvOk env names) {i : Nat} {x : Str} {k : NameKind} (h : names[i]? = some (x, k)) : env.kindOf x = some k := by
  show env.scope.names.lookup x = some k
  rw [ok.nm]; exact lookup_of_get ok.nod h
theorem EnvOk.inj {env : Env} {names : Names} (ok : EnvOk env names) {i j : Nat} {x : Str} {k k' : NameKind} (h : names[i]? = some (x, k)) (h' : names[j]? = some (x, k')) : i = j := by
  have a : (names.map (·.1))[i]? = some x := by rw [List.getElem?_map, h]; rfl
  have b : (names.map (·.1))[j]? = some x := by rw [List.getElem?_map, h']; rfl
  exact (List.getElem?_inj (List.getElem?_eq_some_iff.mp a).1 ok.nod).mp (a.trans b.symm)
theorem EnvOk.plain {env : Env} {names : Names} (ok : EnvOk env names) : (env.scope.kind == .class || (env.scope.kind == .module && env.locals != env.globals)) = false := by rw [ok.kind]; rfl
theorem EnvOk.quiet {env : Env} {names : Names} (ok : EnvOk env names) : interactive env = false := by unfold interactive; rw [ok.kind]; rfl
theorem EnvOk.block {env : Env} {names : Names} (ok : EnvOk env names) : env.blockKind = .function := by simp only [Env.blockKind, ok.kind, ScopeKind.isAnnotationScope, Bool.false_and, Bool.false_eq_true, if_false]

/-- a frame: its locals and cells -/
structure FR (B : Heap) (env : Env) (names : Names) (vals : Vals) (ρ : List Addr) (h : Heap) : Prop where
  len : vals.length = names.length
  ns : ∃ m, h.Ns env.locals m ∧ ∀ (i : Nat) (x : Str) (v : V), names[i]? = some (x, .local) → vals[i]? = some (some v) → ∃ a, m x = some a ∧ VR ρ h v a
  cl : ∀ (i : Nat) (x : Str) (k : NameKind) (v : V), names[i]? = some (x, k) → (k = .cell ∨ k = .free) → vals[i]? = some (some v) → ∃ c a, env.cells.lookup x = some c ∧ h.IsCell c (some a) ∧ VR ρ h v a
  cany : ∀ (i : Nat) (x : Str), names[i]? = some (x, .cell) → ∃ c v₀, env.cells.lookup x = some c ∧ h.IsCell c v₀ ∧ B.get? c = none
  capart : env.cells.Pairwise fun x y => x.2 ≠ y.2
  sepL : env.locals ∉ ρ
  sepC : ∀ (x : Str) (c : Addr), env.cells.lookup x = some c → c ∉ ρ ∧ c ≠ env.locals
  cthere : ∀ (x : Str) (c : Addr), env.cells.lookup x = some c → ∃ o, h.get? c = some o
  above : B.get? env.locals = none

structure SR (P : Params) (B : Heap) (env : Env) (names : Names) (vals : Vals) (ρ : List Addr) (H : List O) (s : Shared) : Prop where
  ok : EnvOk env names
  hs : HS P B ρ H s
  fr : FR B env names vals ρ s.heap

theorem FR.there {B : Heap} {env : Env} {names : Names} {vals : Vals} {ρ : List Addr} {h : Heap} (x : FR B env names vals ρ h) : ∃ o es ep, h.get? env.locals = some o ∧ o.data = .dict es ep := let ⟨_, ⟨o, es, ep, ho, hd, _⟩, _⟩ := x.ns; ⟨o, es, ep, ho, hd⟩

theorem FR.ext {B : Heap} {env : Env} {names : Names} {vals : Vals} {ρ ρ' : List Addr} {s s' : Shared} (x : FR B env names vals ρ s.heap) (e : Ext ρ s ρ' s') : FR B env names vals ρ' s'.heap := by
  obtain ⟨m, hn, hm⟩ := x.ns
  have cellK : ∀ (y : Str) (c : Addr), env.cells.lookup y = some c → ∀ v, s.heap.IsCell c v → s'.heap.IsCell c v := fun y c hp v ⟨o, ho, hd⟩ => ⟨o, e.keep _ _ ho (x.sepC y c hp).1, hd⟩
  refine ⟨x.len, ⟨m, ?_, fun i y v h1 h2 => ?_⟩, fun i y k v h1 h2 h3 => ?_, fun i y h1 => ?_, x.capart, (let ⟨_, _, _, ho, _⟩ := x.there; e.notin ho x.sepL), fun y c hp => ⟨?_, (x.sepC y c hp).2⟩, fun y c hp => ?_, x.above⟩
  · obtain ⟨o, es, ep, ho, r⟩ := hn
    exact ⟨o, es, ep, e.keep _ _ ho x.sepL, r⟩
  · obtain ⟨a, q, r⟩ := hm i y v h1 h2
    exact ⟨a, q, e.vr r⟩
  · obtain ⟨c, a, q, r, t⟩ := x.cl i y k v h1 h2 h3
    exact ⟨c, a, q, cellK y c q _ r, e.vr t⟩
  · obtain ⟨c, v₀, q, r, t⟩ := x.cany i y h1
    exact ⟨c, v₀, q, cellK y c q _ r, t⟩
  · obtain ⟨o, ho⟩ := x.cthere y c hp
    exact e.notin ho (x.sepC y c hp).1
  · obtain ⟨o, ho⟩ := x.cthere y c hp
    exact ⟨o, e.keep _ _ ho (x.sepC y c hp).1⟩

theorem SR.ext {P : Params} {B : Heap} {env : Env} {names : Names} {vals : Vals} {ρ ρ' : List Addr} {H H' : List O} {s s' : Shared} (x : SR P B env names vals ρ H s) (e : Ext ρ s ρ' s') (h : HS P B ρ' H' s') : SR P B env names vals ρ' H' s' :=
  ⟨x.ok, h, x.fr.ext e⟩

/-- what a statement leaves -/
structure ExtF (env : Env) (ρ : List Addr) (s : Shared) (ρ' : List Addr) (s' : Shared) : Prop where
  pre : ∃ t, ρ' = ρ ++ t ∧ ∀ a ∈ t, s.heap.get? a = none
  keep : ∀ b o, s.heap.get? b = some o → b ∉ ρ → b ≠ env.locals → (∀ (x : Str) (c : Addr), env.cells.lookup x = some c → b ≠ c) → s'.heap.get? b = some o
  live : ∀ b o, s.heap.get? b = some o → ∃ o', s'.heap.get? b = some o'
  tup : TupKeep s.heap s'.heap
  gens : s'.gens = s.gens
  os : s'.os = s.os
theorem Ext.toF {env : Env} {ρ ρ' : List Addr} {s s' : Shared} (x : Ext ρ s ρ' s') : ExtF env ρ s ρ' s' :=
  ⟨x.pre, fun b o e h _ _ => x.keep b o e h, fun b o e => by
    by_cases q : b ∈ ρ
    · exact x.live b q o e
    · exact ⟨o, x.keep b o e q⟩, x.tup, x.gens, x.os⟩
theorem ExtF.refl (env : Env) (ρ : List Addr) (s : Shared) : ExtF env ρ s ρ s := (Ext.refl ρ s).toF
theorem ExtF.pre' {env : Env} {ρ ρ' : List Addr} {s s' : Shared} (x : ExtF env ρ s ρ' s') : ∃ t, ρ' = ρ ++ t := let ⟨t, e, _⟩ := x.pre; ⟨t, e⟩
theorem ExtF.notin {env : Env} {ρ ρ' : List Addr} {s s' : Shared} (x : ExtF env ρ s ρ' s') {b : Addr} {o : Obj} (hb : s.heap.get? b = some o) (hn : b ∉ ρ) : b ∉ ρ' := by
  obtain ⟨t, rfl, ht⟩ := x.pre
  intro hm
  rcases List.mem_append.mp hm with q | q
  · exact hn q
  · rw [ht b q] at hb; cases hb
theorem ExtF.back {env : Env} {ρ ρ' : List Addr} {s s' : Shared} (x : ExtF env ρ s ρ' s') {a : Addr} (ha : s'.heap.get? a = none) : s.heap.get? a = none := by
  cases e : s.heap.get? a with
  | none => rfl
  | some o => obtain ⟨o', e'⟩ := x.live a o e; rw [ha] at e'; cases e'
theorem ExtF.trans {env : Env} {ρ ρ' ρ'' : List Addr} {s s' s'' : Shared} (x : ExtF env ρ s ρ' s') (y : ExtF env ρ' s' ρ'' s'') : ExtF env ρ s ρ'' s'' := by
  refine ⟨?_, fun b o e hb h1 h2 => y.keep b o (x.keep b o e hb h1 h2) (x.notin e hb) h1 h2, fun b o e => ?_, x.tup.trans y.tup, y.gens.trans x.gens, y.os.trans x.os⟩
  · obtain ⟨t, rfl, ht⟩ := x.pre
    obtain ⟨t', rfl, ht'⟩ := y.pre
    refine ⟨t ++ t', by simp, fun a ha => ?_⟩
    rcases List.mem_append.mp ha with q | q
    · exact ht a q
    · exact x.back (ht' a q)
  · obtain ⟨o', e'⟩ := x.live b o e; exact y.live b o' e'
inductive Fl where
  | next | brk | cont
  | ret (v : V)
inductive FlR (ρ : List Addr) (h : Heap) : Fl → Flow → Prop
  | next : FlR ρ h .next .next
  | brk : FlR ρ h .brk .brk
  | cont : FlR ρ h .cont .cont
  | ret {v : V} {a : Value} : VR ρ h v a → FlR ρ h (.ret v) (.ret a)

section
variable (prog : Program) (w : World) (B : Heap)
/-- a tree ends and gives back what is said -/
noncomputable def WT {α β : Type} (rel : List Addr → Heap → β → α → Prop) (d : Nat) (t : Sem α) (ρ : List Addr) (s : Shared) (Q : β → List O → Prop) : Prop :=
  ∀ A E, Room A d → wpAny (model prog w) A t (fun val s' => ∃ v H' ρ', rel ρ' s'.heap v val ∧ HS w.params B ρ' H' s' ∧ Ext ρ s ρ' s' ∧ Q v H') E s
structure EvE (names : Names) (d : Nat) (e : PySem.Expr) (vals : Vals) (H : List O) (Q : V → List O → Prop) : Prop where
  go' : ∀ env ρ s, SR w.params B env names vals ρ H s → WT prog w B VR d (eval e env) ρ s Q
/-- several, left to right -/
noncomputable def EvEs (names : Names) (d : Nat) : List PySem.Expr → Vals → List O → (List V → List O → Prop) → Prop
  | [], _, H, Q => Q [] H
  | e :: r, vals, H, Q => EvE prog w B names d e vals H fun v H₁ => EvEs names d r vals H₁ fun vs H₂ => Q (v :: vs) H₂
noncomputable def relB (_ : List Addr) (_ : Heap) (b b' : Bool) : Prop := b = b'
noncomputable def relU (_ : List Addr) (_ : Heap) (_ _ : Unit) : Prop := True
structure EvT (names : Names) (d : Nat) (e : PySem.Expr) (vals : Vals) (H : List O) (Q : Bool → List O → Prop) : Prop where
  go' : ∀ env ρ s, SR w.params B env names vals ρ H s → WT prog w B relB d (isTrue e env (eval e env)) ρ s Q
structure WS (names : Names) (d : Nat) (t : Env → Sem Flow) (vals : Vals) (H : List O) (Q : Fl → Vals → List O → Prop) : Prop where
  go' : ∀ env ρ s, SR w.params B env names vals ρ H s → ∀ A E, Room A d → wpAny (model prog w) A (t env) (fun fl s' => ∃ f vals' H' ρ', FlR ρ' s'.heap f fl ∧ SR w.params B env names vals' ρ' H' s' ∧ ExtF env ρ s ρ' s' ∧ Q f vals' H') E s
noncomputable def Ev1 (names : Names) (d : Nat) (st : Stmt) (vals : Vals) (H : List O) (Q : Fl → Vals → List O → Prop) : Prop := WS prog w B names d (exec st) vals H Q
noncomputable def EvS (names : Names) (d : Nat) (ss : List Stmt) (vals : Vals) (H : List O) (Q : Fl → Vals → List O → Prop) : Prop := WS prog w B names d (execs ss) vals H Q
structure CallC (d : Nat) (f : Addr) (args : List V) (H : List O) (Q : V → List O → Prop) : Prop where
  go' : ∀ ρ s vals A R, HS w.params B ρ H s → VRs ρ s.heap args vals → Room A d →
    (∀ v val H' ρ' s', VR ρ' s'.heap v val → HS w.params B ρ' H' s' → Ext ρ s ρ' s' → Q v H' → R (.ok (.ret val)) s') → codeAny (model prog w) A (.call (.ref f) ⟨vals, []⟩) R s
end

section
variable {prog : Program} {w : World} {B : Heap} {α β γ δ : Type} {rel : List Addr → Heap → β → α → Prop} {rel' : List Addr → Heap → δ → γ → Prop} {d : Nat} {ρ : List Addr} {s : Shared} {H : List O}

theorem WT.mono {t : Sem α} {Q Q' : β → List O → Prop} (h : WT prog w B rel d t ρ s Q) (k : ∀ v H, Q v H → Q' v H) : WT prog w B rel d t ρ s Q' :=
  fun A E r => wpAny_mono (h A E r) (fun _ _ ⟨v, H', ρ', a, b, c, q⟩ => ⟨v, H', ρ', a, b, c, k _ _ q⟩) fun _ _ e => e
end

section
variable {prog : Program} {w : World} {B : Heap} {names : Names} {d : Nat} {vals : Vals} {H : List O}
theorem EvE.mono {e : PySem.Expr} {Q Q' : V → List O → Prop} (h : EvE prog w B names d e vals H Q) (k : ∀ v H, Q v H → Q' v H) : EvE prog w B names d e vals H Q' := .mk fun env ρ s sr => (h.go' env ρ s sr).mono k
theorem WS.mono {t : Env → Sem Flow} {Q Q' : Fl → Vals → List O → Prop} (h : WS prog w B names d t vals H Q) (k : ∀ f v H, Q f v H → Q' f v H) : WS prog w B names d t vals H Q' :=
  .mk fun env ρ s sr A E r => wpAny_mono (h.go' env ρ s sr A E r) (fun _ _ ⟨f, v, H', ρ', a, b, c, q⟩ => ⟨f, v, H', ρ', a, b, c, k _ _ _ q⟩) fun _ _ e => e
theorem CallC.mono {f : Addr} {args : List V} {d' : Nat} {Q Q' : V → List O → Prop} (h : CallC prog w B d f args H Q) (hd : d ≤ d') (k : ∀ v H, Q v H → Q' v H) : CallC prog w B d' f args H Q' :=
  .mk fun ρ s vals A R hs hv r hR => h.go' ρ s vals A R hs hv (r.mono hd) fun v val H' ρ' s' a b c q => hR v val H' ρ' s' a b c (k _ _ q)
end
/-- a name of the frame's and what it holds -/
inductive Look : Names → Vals → Str → NameKind → V → Prop
  | here {x : Str} {k : NameKind} {ns : Names} {v : V} {vs : Vals} : Look ((x, k) :: ns) (some v :: vs) x k v
  | there {n : Str × NameKind} {o : Option V} {ns : Names} {vs : Vals} {x : Str} {k : NameKind} {v : V} : Look ns vs x k v → Look (n :: ns) (o :: vs) x k v
inductive Put : Names → Vals → Str → NameKind → V → Vals → Prop
  | here {x : Str} {k : NameKind} {ns : Names} {v : V} {o : Option V} {vs : Vals} : Put ((x, k) :: ns) (o :: vs) x k v (some v :: vs)
  | there {n : Str × NameKind} {o : Option V} {ns : Names} {vs vs' : Vals} {x : Str} {k : NameKind} {v : V} : Put ns vs x k v vs' → Put (n :: ns) (o :: vs) x k v (o :: vs')
inductive Has : Names → Str → NameKind → Prop
  | here {x : Str} {k : NameKind} {ns : Names} : Has ((x, k) :: ns) x k
  | there {n : Str × NameKind} {ns : Names} {x : Str} {k : NameKind} : Has ns x k → Has (n :: ns) x k
theorem Look.get {ns : Names} {vs : Vals} {x : Str} {k : NameKind} {v : V} (h : Look ns vs x k v) : ∃ i : Nat, ns[i]? = some (x, k) ∧ vs[i]? = some (some v) := by
  induction h with
  | here => exact ⟨0, rfl, rfl⟩
  | there _ ih => obtain ⟨i, a, b⟩ := ih; exact ⟨i + 1, by simpa using a, by simpa using b⟩
theorem Put.get {ns : Names} {vs vs' : Vals} {x : Str} {k : NameKind} {v : V} (h : Put ns vs x k v vs') : ∃ i : Nat, ns[i]? = some (x, k) ∧ i < vs.length ∧ vs' = vs.set i (some v) := by
  induction h with
  | here => exact ⟨0, rfl, by simp, rfl⟩
  | there _ ih => obtain ⟨i, a, b, rfl⟩ := ih; exact ⟨i + 1, by simpa using a, by simpa using b, by simp⟩
theorem Has.get {ns : Names} {x : Str} {k : NameKind} (h : Has ns x k) : ∃ i : Nat, ns[i]? = some (x, k) := by
  induction h with
  | here => exact ⟨0, rfl⟩
  | there _ ih => obtain ⟨i, a⟩ := ih; exact ⟨i + 1, by simpa using a⟩

/-- what the top binds -/
noncomputable def GlobIs (B : Heap) (x : Str) (v : Value) : Prop := ∃ mg, B.Ns mainGlobals mg ∧ mg x = some v
noncomputable def BuiltIs (B : Heap) (x : Str) (v : Value) : Prop := ∃ mg mb, B.Ns mainGlobals mg ∧ mg x = none ∧ B.Ns builtinsNs mb ∧ mb x = some v

section
variable {prog : Program} {w : World} {B : Heap} {names : Names} {d : Nat} {vals : Vals} {H : List O}

theorem ev_local {x : Str} {pos : Pos} {k : NameKind} {v : V} {Q : V → List O → Prop} (l : Look names vals x k v) (hk : k = .local ∨ k = .cell ∨ k = .free) (q : Q v H) : EvE prog w B names d (.Name x pos) vals H Q := by
  constructor
  intro env ρ s sr A E r
  obtain ⟨i, h1, h2⟩ := l.get
  have kd := sr.ok.kindOf h1
  have hd := sr.ok.dbg (x, k) (List.mem_of_getElem? h1)
  rcases hk with rfl | hk
  · obtain ⟨m, hn, hm⟩ := sr.fr.ns
    obtain ⟨a, ha, hr⟩ := hm i x v h1 h2
    exact wpAny_Name (wpAny_loadName_local sr.ok.kind kd hn ha ⟨v, H, ρ, hr, sr.hs, Ext.refl _ _, q⟩) hd.1
  · obtain ⟨c, a, hc, hcell, hr⟩ := sr.fr.cl i x k v h1 hk h2
    rcases hk with rfl | rfl
    · exact wpAny_Name (wpAny_loadName_cell sr.ok.kind kd hc hcell ⟨v, H, ρ, hr, sr.hs, Ext.refl _ _, q⟩) hd.1
    · exact wpAny_Name (wpAny_loadName_free sr.ok.kind kd hc hcell ⟨v, H, ρ, hr, sr.hs, Ext.refl _ _, q⟩ hd.2) hd.1
theorem ev_glob {x : Str} {pos : Pos} {v : Value} {Q : V → List O → Prop} (l : Has names x .globalImplicit) (g : GlobIs B x v) (q : Q (.val v) H) : EvE prog w B names d (.Name x pos) vals H Q := by
  constructor
  intro env ρ s sr A E r
  obtain ⟨i, h1⟩ := l.get
  obtain ⟨mg, hg, hv⟩ := g
  have hd := sr.ok.dbg (x, _) (List.mem_of_getElem? h1)
  exact Name_function_global sr.ok.kind (sr.ok.kindOf h1) (loadGlobal_global (sr.ok.glob ▸ hg.keeps sr.hs.base) hv ⟨_, H, ρ, .val v, sr.hs, Ext.refl _ _, q⟩) hd.1
theorem ev_built {x : Str} {pos : Pos} {v : Value} {Q : V → List O → Prop} (l : Has names x .globalImplicit) (g : BuiltIs B x v) (q : Q (.val v) H) : EvE prog w B names d (.Name x pos) vals H Q := by
  constructor
  intro env ρ s sr A E r
  obtain ⟨i, h1⟩ := l.get
  obtain ⟨mg, mb, hg, hn, hb, hv⟩ := g
  have hd := sr.ok.dbg (x, _) (List.mem_of_getElem? h1)
  exact Name_function_global sr.ok.kind (sr.ok.kindOf h1) (loadGlobal_builtin (sr.ok.glob ▸ hg.keeps sr.hs.base) hn (sr.ok.bi ▸ hb.keeps sr.hs.base) hv ⟨_, H, ρ, .val v, sr.hs, Ext.refl _ _, q⟩) hd.1

theorem ev_globInt {x : Str} {pos : Pos} {i : Int} {t : Tok} {Q : V → List O → Prop} (l : Has names x .globalImplicit) (g : GlobIs B x (.int i t)) (q : Q (.int i) H) : EvE prog w B names d (.Name x pos) vals H Q := by
  constructor
  intro env ρ s sr A E r
  obtain ⟨j, h1⟩ := l.get
  obtain ⟨mg, hg, hv⟩ := g
  have hd := sr.ok.dbg (x, _) (List.mem_of_getElem? h1)
  exact Name_function_global sr.ok.kind (sr.ok.kindOf h1) (loadGlobal_global (sr.ok.glob ▸ hg.keeps sr.hs.base) hv ⟨_, H, ρ, .int i t, sr.hs, Ext.refl _ _, q⟩) hd.1

theorem HS.toks {P : Params} {ρ : List Addr} {s : Shared} (x : HS P B ρ H s) (t : Nat) : HS P B ρ H { s with toks := t } := ⟨x.hr, x.base, x.above, x.sysm, x.big⟩

theorem ev_int {i : Int} {k : Nat} {pos : Pos} {Q : V → List O → Prop} (q : Q (.int i) H) : EvE prog w B names d (.Constant (.int i) k pos) vals H Q :=
  .mk fun _ ρ s sr _ _ _ => wpAny_Constant_int ⟨_, H, ρ, .int i _, sr.hs.toks _, Ext.toks _, q⟩
theorem ev_none {k : Nat} {pos : Pos} {Q : V → List O → Prop} (q : Q .none H) : EvE prog w B names d (.Constant .none k pos) vals H Q :=
  .mk fun _ ρ s sr _ _ _ => wpAny_Constant_none ⟨_, H, ρ, .none, sr.hs, Ext.refl _ _, q⟩
theorem ev_bool {b : Bool} {k : Nat} {pos : Pos} {Q : V → List O → Prop} (q : Q (.bool b) H) : EvE prog w B names d (.Constant (.bool b) k pos) vals H Q :=
  .mk fun _ ρ s sr _ _ _ => wpAny_Constant_bool ⟨_, H, ρ, .bool b, sr.hs, Ext.refl _ _, q⟩
theorem ev_str {x : Str} {k : Nat} {pos : Pos} {Q : V → List O → Prop} (q : Q (.str x) H) : EvE prog w B names d (.Constant (.str x) k pos) vals H Q :=
  .mk fun _ ρ s sr _ _ _ => wpAny_Constant_str ⟨_, H, ρ, .str x _, sr.hs.toks _, Ext.toks _, q⟩

/-- a step upon one, two, three values -/
noncomputable def W1 (prog : Program) (w : World) (B : Heap) (d : Nat) (t : Value → Sem Value) (a : V) (H : List O) (Q : V → List O → Prop) : Prop :=
  ∀ ρ s x, HS w.params B ρ H s → VR ρ s.heap a x → WT prog w B VR d (t x) ρ s Q
noncomputable def W2 (prog : Program) (w : World) (B : Heap) (d : Nat) (t : Value → Value → Sem Value) (a b : V) (H : List O) (Q : V → List O → Prop) : Prop :=
  ∀ ρ s x y, HS w.params B ρ H s → VR ρ s.heap a x → VR ρ s.heap b y → WT prog w B VR d (t x y) ρ s Q
noncomputable def WTr (prog : Program) (w : World) (B : Heap) (d : Nat) (a : V) (H : List O) (Q : Bool → List O → Prop) : Prop :=
  ∀ ρ s x, HS w.params B ρ H s → VR ρ s.heap a x → WT prog w B relB d (truthy x) ρ s Q

theorem EvE.go {e : PySem.Expr} {Q₁ : V → List O → Prop} {env : Env} {ρ : List Addr} {s : Shared} {A : Around} {E : Value → Shared → Prop}
    (h : EvE prog w B names d e vals H Q₁) (sr : SR w.params B env names vals ρ H s) (r : Room A d) {t : Value → Shared → Prop}
    (k : ∀ v x H₁ ρ₁ s₁, VR ρ₁ s₁.heap v x → SR w.params B env names vals ρ₁ H₁ s₁ → Ext ρ s ρ₁ s₁ → Q₁ v H₁ → t x s₁) : wpAny (model prog w) A (eval e env) t E s :=
  wpAny_mono (h.go' env ρ s sr A E r) (fun _ _ ⟨v, H₁, ρ₁, a, b, c, q⟩ => k v _ H₁ ρ₁ _ a (sr.ext c b) c q) fun _ _ e => e
/-- a step whose end is known up to what stood before -/
theorem WT.at {α β : Type} {rel : List Addr → Heap → β → α → Prop} {t : Sem α} {Q Q' : β → List O → Prop} {ρ ρ₀ : List Addr} {s s₀ : Shared} {A : Around} {E : Value → Shared → Prop} (h : WT prog w B rel d t ρ s Q) (e : Ext ρ₀ s₀ ρ s) (r : Room A d) (k : ∀ v H, Q v H → Q' v H) :
    wpAny (model prog w) A t (fun val s' => ∃ v H' ρ', rel ρ' s'.heap v val ∧ HS w.params B ρ' H' s' ∧ Ext ρ₀ s₀ ρ' s' ∧ Q' v H') E s :=
  wpAny_mono (h A E r) (fun _ _ ⟨v, H', ρ', a, b, c, q⟩ => ⟨v, H', ρ', a, b, e.trans c, k _ _ q⟩) fun _ _ e => e

theorem ev_BinOp {l r' : PySem.Expr} {op : Operator} {pos : Pos} {Q : V → List O → Prop} (h : EvE prog w B names d l vals H fun a H₁ => EvE prog w B names d r' vals H₁ fun b H₂ => W2 prog w B d (binaryOp op) a b H₂ Q) :
    EvE prog w B names d (.BinOp l op r' pos) vals H Q := by
  constructor
  intro env ρ s sr A E r
  refine wpAny_BinOp (h.go sr r fun a x H₁ ρ₁ s₁ va sr₁ e₁ h₁ => h₁.go sr₁ r fun b y H₂ ρ₂ s₂ vb sr₂ e₂ h₂ => ?_)
  exact (h₂ ρ₂ s₂ x y sr₂.hs (e₂.vr va) vb).at (e₁.trans e₂) r fun _ _ q => q
theorem ev_Cmp {l r' : PySem.Expr} {op : CmpOp} {pos : Pos} {Q : V → List O → Prop} (hm : behindInMarks op r' = false) (h : EvE prog w B names d l vals H fun a H₁ => EvE prog w B names d r' vals H₁ fun b H₂ => W2 prog w B d (compareOp op) a b H₂ Q) :
    EvE prog w B names d (.Compare l [op] [r'] pos) vals H Q := by
  constructor
  intro env ρ s sr A E r
  refine wpAny_Compare1 (h.go sr r fun a x H₁ ρ₁ s₁ va sr₁ e₁ h₁ => h₁.go sr₁ r fun b y H₂ ρ₂ s₂ vb sr₂ e₂ h₂ => ?_) hm
  exact (h₂ ρ₂ s₂ x y sr₂.hs (e₂.vr va) vb).at (e₁.trans e₂) r fun _ _ q => q
theorem ev_Unary {x' : PySem.Expr} {op : UnaryOp} {pos : Pos} {Q : V → List O → Prop} (h : EvE prog w B names d x' vals H fun a H₁ => W1 prog w B d (unaryOp op) a H₁ Q) : EvE prog w B names d (.UnaryOp op x' pos) vals H Q := by
  constructor
  intro env ρ s sr A E r
  refine wpAny_UnaryOp (h.go sr r fun a x H₁ ρ₁ s₁ va sr₁ e₁ h₁ => ?_)
  exact (h₁ ρ₁ s₁ x sr₁.hs va).at e₁ r fun _ _ q => q

/-- tests -/
theorem EvT.go {e : PySem.Expr} {Q₁ : Bool → List O → Prop} {env : Env} {ρ : List Addr} {s : Shared} {A : Around} {E : Value → Shared → Prop}
    (h : EvT prog w B names d e vals H Q₁) (sr : SR w.params B env names vals ρ H s) (r : Room A d) {t : Bool → Shared → Prop}
    (k : ∀ b H₁ ρ₁ s₁, SR w.params B env names vals ρ₁ H₁ s₁ → Ext ρ s ρ₁ s₁ → Q₁ b H₁ → t b s₁) : wpAny (model prog w) A (isTrue e env (eval e env)) t E s :=
  wpAny_mono (h.go' env ρ s sr A E r) (fun _ _ ⟨v, H₁, ρ₁, a, b, c, q⟩ => by cases a; exact k _ H₁ ρ₁ _ (sr.ext c b) c q) fun _ _ e => e
theorem evT_plain {e : PySem.Expr} {Q : Bool → List O → Prop} (he : ∀ env whole, isTrue e env whole = (do let v ← whole; standAt e.pos; holding [v] (truthy v))) (h : EvE prog w B names d e vals H fun a H₁ => WTr prog w B d a H₁ Q) : EvT prog w B names d e vals H Q := by
  constructor
  intro env ρ s sr A E r
  refine wpAny_isTrue_value (h.go sr r fun a x H₁ ρ₁ s₁ va sr₁ e₁ h₁ => ?_) (he _ _)
  exact (h₁ ρ₁ s₁ x sr₁.hs va).at e₁ r fun _ _ q => q
theorem evT_Cmp {l r' : PySem.Expr} {op : CmpOp} {pos : Pos} {Q : Bool → List O → Prop} (hm : behindInMarks op r' = false)
    (h : EvE prog w B names d l vals H fun a H₁ => EvE prog w B names d r' vals H₁ fun b H₂ => W2 prog w B d (compareOp op) a b H₂ fun c H₃ => ∃ t, c = .bool t ∧ Q t H₃) : EvT prog w B names d (.Compare l [op] [r'] pos) vals H Q := by
  constructor
  intro env ρ s sr A E r
  refine wpAny_isTrue_Compare1 (h.go sr r fun a x H₁ ρ₁ s₁ va sr₁ e₁ h₁ => h₁.go sr₁ r fun b y H₂ ρ₂ s₂ vb sr₂ e₂ h₂ => ?_) hm
  refine wpAny_mono (h₂ ρ₂ s₂ x y sr₂.hs (e₂.vr va) vb A E r) (fun c s₃ ⟨v, H₃, ρ₃, a1, a2, a3, t, e, q⟩ => ?_) fun _ _ e => e
  subst e
  cases a1
  exact wpAny_truthy_bool ⟨_, H₃, ρ₃, rfl, a2, (e₁.trans e₂).trans a3, q⟩
noncomputable def EvAnd (prog : Program) (w : World) (B : Heap) (names : Names) (d : Nat) : List PySem.Expr → Vals → List O → (Bool → List O → Prop) → Prop
  | [], _, H, Q => Q true H
  | e :: r, vals, H, Q => EvT prog w B names d e vals H fun b H₁ => (b = true → EvAnd prog w B names d r vals H₁ Q) ∧ (b = false → Q false H₁)
noncomputable def EvOr (prog : Program) (w : World) (B : Heap) (names : Names) (d : Nat) : List PySem.Expr → Vals → List O → (Bool → List O → Prop) → Prop
  | [], _, H, Q => Q false H
  | e :: r, vals, H, Q => EvT prog w B names d e vals H fun b H₁ => (b = true → Q true H₁) ∧ (b = false → EvOr prog w B names d r vals H₁ Q)
theorem evAnd_all {env : Env} {A : Around} (r : Room A d) {Q : Bool → List O → Prop} : ∀ {es : List PySem.Expr} {H : List O} {ρ : List Addr} {s : Shared} {E : Value → Shared → Prop}, EvAnd prog w B names d es vals H Q → SR w.params B env names vals ρ H s →
    wpAny (model prog w) A (allTrue .And es env) (fun val s' => ∃ v H' ρ', relB ρ' s'.heap v val ∧ HS w.params B ρ' H' s' ∧ Ext ρ s ρ' s' ∧ Q v H') E s
  | [], H, ρ, s, E, h, sr => wpAny_allTrue_And_nil ⟨_, H, ρ, rfl, sr.hs, Ext.refl _ _, h⟩
  | e :: es, H, ρ, s, E, h, sr => by
    refine wpAny_allTrue_And_cons (EvT.go h sr r fun b H₁ ρ₁ s₁ sr₁ e₁ h₁ => ?_)
    cases b with
    | false => exact ⟨_, H₁, ρ₁, rfl, sr₁.hs, e₁, h₁.2 rfl⟩
    | true => exact wpAny_mono (evAnd_all r (h₁.1 rfl) sr₁) (fun _ _ ⟨v, H', ρ', a, b, c, q⟩ => ⟨v, H', ρ', a, b, e₁.trans c, q⟩) fun _ _ e => e
theorem evOr_all {env : Env} {A : Around} (r : Room A d) {Q : Bool → List O → Prop} : ∀ {es : List PySem.Expr} {H : List O} {ρ : List Addr} {s : Shared} {E : Value → Shared → Prop}, EvOr prog w B names d es vals H Q → SR w.params B env names vals ρ H s →
    wpAny (model prog w) A (allTrue .Or es env) (fun val s' => ∃ v H' ρ', relB ρ' s'.heap v val ∧ HS w.params B ρ' H' s' ∧ Ext ρ s ρ' s' ∧ Q v H') E s
  | [], H, ρ, s, E, h, sr => wpAny_allTrue_Or_nil ⟨_, H, ρ, rfl, sr.hs, Ext.refl _ _, h⟩
  | e :: es, H, ρ, s, E, h, sr => by
    refine wpAny_allTrue_Or_cons (EvT.go h sr r fun b H₁ ρ₁ s₁ sr₁ e₁ h₁ => ?_)
    cases b with
    | true => exact ⟨_, H₁, ρ₁, rfl, sr₁.hs, e₁, h₁.1 rfl⟩
    | false => exact wpAny_mono (evOr_all r (h₁.2 rfl) sr₁) (fun _ _ ⟨v, H', ρ', a, b, c, q⟩ => ⟨v, H', ρ', a, b, e₁.trans c, q⟩) fun _ _ e => e
theorem evT_And {es : List PySem.Expr} {pos : Pos} {Q : Bool → List O → Prop} (h : EvAnd prog w B names d es vals H Q) : EvT prog w B names d (.BoolOp .And es pos) vals H Q :=
  .mk fun _ _ _ sr _ _ r => wpAny_isTrue_BoolOp (evAnd_all r h sr)
theorem evT_Or {es : List PySem.Expr} {pos : Pos} {Q : Bool → List O → Prop} (h : EvOr prog w B names d es vals H Q) : EvT prog w B names d (.BoolOp .Or es pos) vals H Q :=
  .mk fun _ _ _ sr _ _ r => wpAny_isTrue_BoolOp (evOr_all r h sr)
theorem ev_IfExp {t b o : PySem.Expr} {pos : Pos} {Q : V → List O → Prop} (h : EvT prog w B names d t vals H fun c H₁ => (c = true → EvE prog w B names d b vals H₁ Q) ∧ (c = false → EvE prog w B names d o vals H₁ Q)) : EvE prog w B names d (.IfExp t b o pos) vals H Q := by
  constructor
  intro env ρ s sr A E r
  refine wpAny_IfExp (h.go sr r fun c H₁ ρ₁ s₁ sr₁ e₁ h₁ => ?_)
  cases c with
  | true => exact ((h₁.1 rfl).go' env ρ₁ s₁ sr₁).at e₁ r fun _ _ q => q
  | false => exact ((h₁.2 rfl).go' env ρ₁ s₁ sr₁).at e₁ r fun _ _ q => q
end
theorem not_imm_dict {o : Obj} {es ep} (h : o.data = .dict es ep) : ¬ Imm o := fun q => by
  rcases q with ⟨_, xs, n, e⟩ | ⟨_, xs, e⟩ <;> rw [h] at e <;> cases e
theorem not_imm_cell {o : Obj} {v} (h : o.data = .cell v) : ¬ Imm o := fun q => by
  rcases q with ⟨_, xs, n, e⟩ | ⟨_, xs, e⟩ <;> rw [h] at e <;> cases e
theorem sameBut_tup {h h' : Heap} {a : Addr} {o : Obj} (hs : Heap.SameBut a h h') (ho : h.get? a = some o) (hn : ¬ Imm o) : TupKeep h h' := fun t x im e => by
  rw [hs.2 t fun q => ?_]; exact e
  subst q; rw [ho] at e; cases e; exact hn im

section
variable {prog : Program} {w : World} {B : Heap} {names : Names} {d : Nat} {vals vals' : Vals} {H : List O} {env : Env} {ρ : List Addr} {s : Shared} {A : Around} {E : Value → Shared → Prop}

theorem FR.vals_local {s' : Shared} {i : Nat} {x : Str} {v : V} {a : Value} (ok : EnvOk env names) (fr : FR B env names vals ρ s.heap) (hi : names[i]? = some (x, .local)) (hv : VR ρ s'.heap v a) {m : Str → Option Value} (hm : s.heap.Ns env.locals m)
    (hmm : ∀ (i : Nat) (x : Str) (v : V), names[i]? = some (x, .local) → vals[i]? = some (some v) → ∃ a, m x = some a ∧ VR ρ s.heap v a)
    (hn : s'.heap.Ns env.locals fun y => if y = x then some a else m y) (hs : Heap.SameBut env.locals s.heap s'.heap) (tk : TupKeep s.heap s'.heap) : FR B env names (vals.set i (some v)) ρ s'.heap := by
  have hp : ∃ t, ρ = ρ ++ t := ⟨[], by simp⟩
  have cellK : ∀ (y : Str) (c : Addr), env.cells.lookup y = some c → ∀ v, s.heap.IsCell c v → s'.heap.IsCell c v := fun y c hp v ⟨o, ho, hd⟩ => ⟨o, (hs.2 _ (fr.sepC y c hp).2).trans ho, hd⟩
  refine ⟨by simpa using fr.len, ⟨_, hn, fun j y v' h1 h2 => ?_⟩, fun j y k v' h1 h2 h3 => ?_, fun j y h1 => ?_, fr.capart, fr.sepL, fr.sepC, fun z cz hp => ?_, fr.above⟩
  · by_cases hij : i = j
    · subst hij
      have hl := (List.getElem?_eq_some_iff.mp h2).1
      simp only [List.length_set] at hl
      rw [List.getElem?_set_self hl] at h2
      cases h2
      rw [hi] at h1; cases h1
      exact ⟨a, if_pos rfl, hv⟩
    · rw [List.getElem?_set_ne hij] at h2
      obtain ⟨b, e, r⟩ := hmm j y v' h1 h2
      have hy : y ≠ x := fun q => hij (by subst q; exact ok.inj hi h1)
      exact ⟨b, by show (if y = x then some a else m y) = _; rw [if_neg hy]; exact e, r.mono hp tk⟩
  · have hij : i ≠ j := fun q => by subst q; rw [hi] at h1; cases h1; rcases h2 with h2 | h2 <;> cases h2
    rw [List.getElem?_set_ne hij] at h3
    obtain ⟨c, b, e1, e2, r⟩ := fr.cl j y k v' h1 h2 h3
    exact ⟨c, b, e1, cellK y c e1 _ e2, r.mono hp tk⟩
  · obtain ⟨c, v₀, e1, e2, r⟩ := fr.cany j y h1
    exact ⟨c, v₀, e1, cellK y c e1 _ e2, r⟩
  · obtain ⟨o, ho⟩ := fr.cthere z cz hp
    exact ⟨o, (hs.2 _ (fr.sepC z cz hp).2).trans ho⟩

theorem FR.vals_cell {s' : Shared} {i : Nat} {x : Str} {v : V} {a : Value} {c : Addr} (ok : EnvOk env names) (fr : FR B env names vals ρ s.heap) (hi : names[i]? = some (x, .cell)) (hv : VR ρ s'.heap v a)
    (hc : env.cells.lookup x = some c) (hn : s'.heap.IsCell c (some a)) (hs : Heap.SameBut c s.heap s'.heap) (tk : TupKeep s.heap s'.heap) : FR B env names (vals.set i (some v)) ρ s'.heap := by
  have hp : ∃ t, ρ = ρ ++ t := ⟨[], by simp⟩
  have hcm := mem_of_lookup hc
  have cellK : ∀ (c' : Addr), c' ≠ c → ∀ v, s.heap.IsCell c' v → s'.heap.IsCell c' v := fun c' hne v ⟨o, ho, hd⟩ => ⟨o, (hs.2 _ hne).trans ho, hd⟩
  obtain ⟨m, hm, hmm⟩ := fr.ns
  have hLc : env.locals ≠ c := fun q => (fr.sepC _ _ hc).2 q.symm
  have other : ∀ (y : Str) (c' : Addr), env.cells.lookup y = some c' → y ≠ x → c' ≠ c := fun y c' e hne q => hne (name_of_addr fr.capart (q ▸ mem_of_lookup e) hcm)
  refine ⟨by simpa using fr.len, ⟨m, hm.sameBut hs hLc, fun j y v' h1 h2 => ?_⟩, fun j y k v' h1 h2 h3 => ?_, fun j y h1 => ?_, fr.capart, fr.sepL, fr.sepC, fun z cz hp => ?_, fr.above⟩
  · have hij : i ≠ j := fun q => by subst q; rw [hi] at h1; cases h1
    rw [List.getElem?_set_ne hij] at h2
    obtain ⟨b, e, r⟩ := hmm j y v' h1 h2
    exact ⟨b, e, r.mono hp tk⟩
  · by_cases hij : i = j
    · subst hij
      have hl := (List.getElem?_eq_some_iff.mp h3).1
      simp only [List.length_set] at hl
      rw [List.getElem?_set_self hl] at h3
      cases h3
      rw [hi] at h1; cases h1
      exact ⟨c, a, hc, hn, hv⟩
    · rw [List.getElem?_set_ne hij] at h3
      obtain ⟨c', b, e1, e2, r⟩ := fr.cl j y k v' h1 h2 h3
      have hy : y ≠ x := fun q => hij (by subst q; exact ok.inj hi h1)
      exact ⟨c', b, e1, cellK c' (other y c' e1 hy) _ e2, r.mono hp tk⟩
  · by_cases hij : i = j
    · subst hij
      rw [hi] at h1; cases h1
      obtain ⟨c', v₀, e1, e2, r⟩ := fr.cany i x hi
      rw [hc] at e1; cases e1
      exact ⟨c, _, hc, hn, r⟩
    · obtain ⟨c', v₀, e1, e2, r⟩ := fr.cany j y h1
      have hy : y ≠ x := fun q => hij (by subst q; exact ok.inj hi h1)
      exact ⟨c', v₀, e1, cellK c' (other y c' e1 hy) _ e2, r⟩
  · obtain ⟨o, ho⟩ := fr.cthere z cz hp
    by_cases hpc : cz = c
    · obtain ⟨o', ho', _⟩ := hn
      exact ⟨o', hpc ▸ ho'⟩
    · exact ⟨o, (hs.2 _ hpc).trans ho⟩

/-- a name is bound -/
theorem store_ok {x : Str} {k : NameKind} {v : V} {a : Value} {Q : Unit → Shared → Prop} (sr : SR w.params B env names vals ρ H s) (p : Put names vals x k v vals') (hk : k = .local ∨ k = .cell) (hv : VR ρ s.heap v a)
    (q : ∀ s', SR w.params B env names vals' ρ H s' → ExtF env ρ s ρ s' → Q () s') : wpAny (model prog w) A (storeName env x a) Q E s := by
  have hp : ∃ t, ρ = ρ ++ t := ⟨[], by simp⟩
  obtain ⟨i, hi, hl, rfl⟩ := p.get
  obtain ⟨m, hm, hmm⟩ := sr.fr.ns
  rcases hk with rfl | rfl
  · refine wpAny_storeName_local (sr.ok.kindOf hi) hm (fun h' hn hs => ?_) sr.ok.plain
    obtain ⟨o, es, ep, ho, hd, _⟩ := hm
    have tk := sameBut_tup hs ho (not_imm_dict hd)
    have lv : ∀ b ob, s.heap.get? b = some ob → ∃ ob', h'.get? b = some ob' := fun b ob e => by
      by_cases q : b = env.locals
      · subst q; obtain ⟨o', _, _, e', _⟩ := hn; exact ⟨o', e'⟩
      · exact ⟨ob, (hs.2 b q).trans e⟩
    refine q { s with heap := h', toks := s.toks + 1 } ⟨sr.ok, sr.hs.aside (s' := { s with heap := h', toks := s.toks + 1 }) (wr := [env.locals]) (fun b ob hb e => (hs.2 b (by simpa using hb)).trans e) (fun b hb => by simp at hb; subst hb; exact ⟨sr.fr.sepL, sr.fr.above⟩) tk,
      FR.vals_local (s' := { s with heap := h', toks := s.toks + 1 }) sr.ok sr.fr hi (hv.mono hp tk) ⟨o, es, ep, ho, hd, ‹_›⟩ hmm hn hs tk⟩ ⟨⟨[], by simp, by simp⟩, fun b ob e h1 h2 h3 => (hs.2 b h2).trans e, lv, tk, rfl, rfl⟩
  · obtain ⟨c, v₀, hc, hcell, hB⟩ := sr.fr.cany i x hi
    refine wpAny_storeName_cell sr.ok.kind (sr.ok.kindOf hi) hc hcell fun h' hn hs => ?_
    obtain ⟨o, ho, hd⟩ := hcell
    have tk := sameBut_tup hs ho (not_imm_cell hd)
    have lv : ∀ b ob, s.heap.get? b = some ob → ∃ ob', h'.get? b = some ob' := fun b ob e => by
      by_cases q : b = c
      · subst q; obtain ⟨o', e', _⟩ := hn; exact ⟨o', e'⟩
      · exact ⟨ob, (hs.2 b q).trans e⟩
    refine q { s with heap := h' } ⟨sr.ok, sr.hs.aside (s' := { s with heap := h' }) (wr := [c]) (fun b ob hb e => (hs.2 b (by simpa using hb)).trans e) (fun b hb => by simp at hb; subst hb; exact ⟨(sr.fr.sepC _ _ hc).1, hB⟩) tk,
      FR.vals_cell (s' := { s with heap := h' }) sr.ok sr.fr hi (hv.mono hp tk) hc hn hs tk⟩ ⟨⟨[], by simp, by simp⟩, fun b ob e h1 h2 h3 => (hs.2 b (h3 _ _ hc)).trans e, lv, tk, rfl, rfl⟩

/-- many names -/
inductive PutAll (names : Names) : Vals → List (Str × V) → Vals → Prop
  | nil {vs : Vals} : PutAll names vs [] vs
  | cons {vs vs₁ vs₂ : Vals} {x : Str} {k : NameKind} {v : V} {r : List (Str × V)} : Put names vs x k v vs₁ → (k = .local ∨ k = .cell) → PutAll names vs₁ r vs₂ → PutAll names vs ((x, v) :: r) vs₂

theorem SR.extF {ρ' : List Addr} {s' : Shared} (x : SR w.params B env names vals ρ H s) (e : Ext ρ s ρ' s') (h : HS w.params B ρ' H s') : SR w.params B env names vals ρ' H s' := x.ext e h

noncomputable def nameExprs : List (Str × Pos) → List PySem.Expr := List.map fun x => .Name x.1 x.2
theorem assignEach_names : ∀ (xs : List (Str × Pos)) (env : Env), assignEach (nameExprs xs) env = xs.map fun x => (false, assign (.Name x.1 x.2) env)
  | [], _ => rfl
  | x :: r, env => by
    show (false, assign (.Name x.1 x.2) env) :: assignEach (nameExprs r) env = _
    rw [assignEach_names r env]; rfl
theorem assign_all {xs : List (Str × Pos)} {vs : List V} {as : List Value} {Q : Unit → Shared → Prop} (sr : SR w.params B env names vals ρ H s) (p : PutAll names vals ((xs.map (·.1)).zip vs) vals') (hl : xs.length = vs.length) (hv : VRs ρ s.heap vs as)
    (q : ∀ s', SR w.params B env names vals' ρ H s' → ExtF env ρ s ρ s' → Q () s') : wpAny (model prog w) A (assignInOrder (xs.map fun x => assign (.Name x.1 x.2) env) as) Q E s := by
  induction xs generalizing vs as vals s with
  | nil =>
    cases vs with
    | nil => cases hv; cases p; exact wpAny_assignInOrder_none (q s sr (.refl _ _ _))
    | cons => cases hl
  | cons x xs ih =>
    cases vs with
    | nil => cases hl
    | cons v vs =>
      cases hv with
      | cons hv hr =>
        cases p with
        | cons p1 hk p2 =>
          refine wpAny_assignInOrder_more (wpAny_assign_Name (store_ok sr p1 hk hv fun s₁ sr₁ e₁ => ?_))
          exact ih sr₁ p2 (by simpa using hl) (hr.mono ⟨[], by simp⟩ e₁.tup) fun s' sr' e' => q s' sr' (e₁.trans e')
theorem bind_all {xs : List Str} {vs : List V} {as : List Value} {Q : Unit → Shared → Prop} (sr : SR w.params B env names vals ρ H s) (p : PutAll names vals (xs.zip vs) vals') (hl : xs.length = vs.length) (hv : VRs ρ s.heap vs as)
    (q : ∀ s', SR w.params B env names vals' ρ H s' → ExtF env ρ s ρ s' → Q () s') : wpAny (model prog w) A (assignInOrder (xs.map fun x => bindName env x) as) Q E s := by
  induction xs generalizing vs as vals s with
  | nil =>
    cases vs with
    | nil => cases hv; cases p; exact wpAny_assignInOrder_none (q s sr (.refl _ _ _))
    | cons => cases hl
  | cons x xs ih =>
    cases vs with
    | nil => cases hl
    | cons v vs =>
      cases hv with
      | cons hv hr =>
        cases p with
        | cons p1 hk p2 =>
          refine wpAny_assignInOrder_more (wpAny_bindName (store_ok sr p1 hk hv fun s₁ sr₁ e₁ => ?_))
          exact ih sr₁ p2 (by simpa using hl) (hr.mono ⟨[], by simp⟩ e₁.tup) fun s' sr' e' => q s' sr' (e₁.trans e')
end
section
variable {prog : Program} {w : World} {B : Heap} {names : Names} {d : Nat} {vals : Vals} {H : List O}

noncomputable def thenS (prog : Program) (w : World) (B : Heap) (names : Names) (d : Nat) (rest : List Stmt) (Q : Fl → Vals → List O → Prop) : Fl → Vals → List O → Prop
  | .next, vals, H => EvS prog w B names d rest vals H Q
  | f, vals, H => Q f vals H

theorem evS_nil {Q : Fl → Vals → List O → Prop} (q : Q .next vals H) : EvS prog w B names d [] vals H Q :=
  .mk fun env ρ s sr A E r => wpAny_execs_nil ⟨_, vals, H, ρ, .next, sr, .refl _ _ _, q⟩
theorem evS_cons {st : Stmt} {rest : List Stmt} {Q : Fl → Vals → List O → Prop} (h : Ev1 prog w B names d st vals H (thenS prog w B names d rest Q)) : EvS prog w B names d (st :: rest) vals H Q := by
  constructor
  intro env ρ s sr A E r
  refine wpAny_execs_cons (wpAny_mono (h.go' env ρ s sr A E r) (fun fl s₁ ⟨f, vals', H', ρ', a, b, c, q⟩ => ?_) fun _ _ e => e)
  cases a with
  | next => exact wpAny_mono (WS.go' q env ρ' s₁ b A E r) (fun _ _ ⟨f, v2, H2, ρ2, a2, b2, c2, q2⟩ => ⟨f, v2, H2, ρ2, a2, b2, c.trans c2, q2⟩) fun _ _ e => e
  | brk => exact ⟨_, vals', H', ρ', .brk, b, c, q⟩
  | cont => exact ⟨_, vals', H', ρ', .cont, b, c, q⟩
  | ret hv => exact ⟨_, vals', H', ρ', .ret hv, b, c, q⟩

theorem ev1_Assign {x : Str} {px pos : Pos} {value : PySem.Expr} {Q : Fl → Vals → List O → Prop} (hs : ∀ env, swapsWith value (some (.Name x px)) pos.line env = pure false)
    (h : EvE prog w B names d value vals H fun v H₁ => ∃ k vals', Put names vals x k v vals' ∧ (k = .local ∨ k = .cell) ∧ Q .next vals' H₁) : Ev1 prog w B names d (.Assign [.Name x px] value pos) vals H Q := by
  constructor
  intro env ρ s sr A E r
  refine wpAny_Assign_Name (h.go sr r fun v a H₁ ρ₁ s₁ va sr₁ e₁ ⟨k, vals', p, hk, q⟩ => store_ok sr₁ p hk va fun s₂ sr₂ e₂ => ?_) (hs env)
  exact ⟨_, vals', H₁, ρ₁, .next, sr₂, e₁.toF.trans e₂, q⟩

theorem filterMap_names {f : PySem.Expr → Option Str} (hf : ∀ id pos, f (.Name id pos) = some id ∨ f (.Name id pos) = none) : ∀ xs : List (Str × Pos), ((nameExprs xs).filterMap f).length ≤ xs.length ∧ (((nameExprs xs).filterMap f).length = xs.length → (nameExprs xs).filterMap f = xs.map (·.1))
  | [] => ⟨Nat.le_refl _, fun _ => rfl⟩
  | x :: r => by
    have ih := filterMap_names hf r
    have e0 : nameExprs (x :: r) = .Name x.1 x.2 :: nameExprs r := rfl
    rw [e0, List.filterMap_cons]
    rcases hf x.1 x.2 with e | e <;> rw [e]
    · refine ⟨by simpa using ih.1, fun h => ?_⟩
      simp only [List.map_cons]
      rw [ih.2 (by simpa using h)]
    · refine ⟨by have := ih.1; simp; walk_at "om", fun h => ?_⟩
      have := ih.1; simp at h; walk_at "om"

theorem swapped_or {env : Env} {xs : List (Str × Pos)} {vs : List PySem.Expr} {k k' : Nat} {p p' : Pos} (hc : vs.all (constantsAlone 8) = false) :
    swappedStores [.Tuple (nameExprs xs) k p] (.Tuple vs k' p') env = pure none ∨ swappedStores [.Tuple (nameExprs xs) k p] (.Tuple vs k' p') env = pure (some (xs.map (·.1))) := by
  unfold swappedStores
  simp only []
  split
  · exact .inl rfl
  · split
    · exact .inl rfl
    · split
      · exact .inl rfl
      · rename_i hn
        split
        · exact .inl rfl
        · rw [hc]
          simp only [Bool.false_eq_true, if_false]
          refine .inr ?_
          simp only [Bool.or_eq_true, bne_iff_ne, ne_eq, not_or, Decidable.not_not] at hn
          have hl : (nameExprs xs).length = xs.length := by simp [nameExprs]
          have := (filterMap_names (f := fun
            | .Name id pos => if (env.kindOf id == some .local && pos.line == ((nameExprs xs).head?.map (·.pos.line)).getD 0) = true then some id else none
            | _ => none) (fun id pos => by dsimp only; split <;> simp) xs).2 (by rw [← hl]; exact hn.1)
          exact congrArg (fun z => (pure (some z) : Sem (Option (List Str)))) this

theorem assignStores_some (env : Env) (v : Value) (nm : List Str) (stores : List (Value → Sem Unit)) : assignStores env v (some nm) stores = (rule "assign.swapped-stores" >>= fun _ => unpackItems v nm.length none >>= fun items =>
    assignInOrder (nm.reverse.map fun n => bindName env n) items.reverse >>= fun _ => pure Flow.next) := rfl
theorem star_names (xs : List (Str × Pos)) (env : Env) : (assignEach (nameExprs xs) env).findIdx? (·.1) = none := by
  rw [assignEach_names]
  induction xs with
  | nil => rfl
  | cons x r ih => rw [List.map_cons, List.findIdx?_cons]; simp only [Bool.false_eq_true, if_false]; rw [ih]; rfl

theorem VR.tup_inv {ρ : List Addr} {h : Heap} {vs : List V} {a : Value} (x : VR ρ h (.tup vs) a) : ∃ t items, a = .ref t ∧ h.get? t = some (tupObj items) ∧ VRs ρ h vs items := by
  cases x with | tup h1 h2 => exact ⟨_, _, rfl, h1, h2⟩
theorem isTuple_of {h : Heap} {t : Addr} {items : List Value} (e : h.get? t = some (tupObj items)) : h.IsTuple t items.toArray := ⟨_, e, rfl, _, rfl⟩

theorem ext_end {P : Params} {ρ : List Addr} {H : List O} {s : Shared} {h' : Heap} (hs : HS P B ρ H s) (x : Heap.ExtBut s.heap.objs.size s.heap h') : HS P B ρ H { s with heap := h' } ∧ Ext ρ s ρ { s with heap := h' } := by
  have k : ∀ b o, s.heap.get? b = some o → h'.get? b = some o := fun b o e => x b o (Nat.ne_of_lt (Heap.lt_size e)) e
  exact ⟨hs.keeps (s' := { s with heap := h' }) k, .keeps (s' := { s with heap := h' }) k rfl rfl⟩

/-- names of a tuple -/
theorem ev1_AssignTup {xs : List (Str × Pos)} {k : Nat} {tp pos : Pos} {value : PySem.Expr} {Q : Fl → Vals → List O → Prop} (hs : ∀ env, swapsWith value (some (.Tuple (nameExprs xs) k tp)) pos.line env = pure false)
    (hw : ∀ env, swappedStores [.Tuple (nameExprs xs) k tp] value env = pure none ∨ swappedStores [.Tuple (nameExprs xs) k tp] value env = pure (some (xs.map (·.1))))
    (h : EvE prog w B names d value vals H fun v H₁ => ∃ vs, v = .tup vs ∧ xs.length = vs.length ∧ ∃ vals', PutAll names vals ((xs.map (·.1)).zip vs) vals' ∧ PutAll names vals ((xs.map (·.1)).reverse.zip vs.reverse) vals' ∧ Q .next vals' H₁) :
    Ev1 prog w B names d (.Assign [.Tuple (nameExprs xs) k tp] value pos) vals H Q := by
  constructor
  intro env ρ s sr A E r
  rw [exec_Assign_arm]
  refine wpAny_bind (wpAny_standAt ?_)
  rw [show swapsWithSole [.Tuple (nameExprs xs) k tp] value pos.line env = pure false from hs env]
  refine wpAny_bind (wpAny_pure ?_)
  rw [if_neg (by decide)]
  refine wpAny_bind (h.go sr r fun v a H₁ ρ₁ s₁ va sr₁ e₁ ⟨vs, hv, hl, vals', p1, p2, q⟩ => ?_)
  subst hv
  obtain ⟨t, items, rfl, ht, hvs⟩ := va.tup_inv
  have hil := hvs.length
  rcases hw env with e | e <;> rw [e] <;> refine wpAny_bind (wpAny_pure ?_)
  · show wpAny _ _ (do assignAll _ [assign (.Tuple (nameExprs xs) k tp) env]; pure Flow.next) _ _ _
    refine wpAny_bind ?_
    show wpAny _ _ (assign (.Tuple (nameExprs xs) k tp) env (.ref t)) _ _ _
    refine wpAny_assign_Tuple r.hand (isTuple_of ht) (by rw [assignEach_names]; simp [hil, hl]) (star_names xs env) fun h' x' => ?_
    obtain ⟨hs', ex'⟩ := ext_end sr₁.hs x'
    rw [assignEach_names, List.map_map]
    refine assign_all (xs := xs) (sr₁.ext ex' hs') p1 hl (ex'.vrs hvs) fun s₂ sr₂ e₂ => wpAny_pure ?_
    exact ⟨_, vals', H₁, ρ₁, .next, sr₂, (e₁.toF.trans ex'.toF).trans e₂, q⟩
  · rw [assignStores_some]
    refine wpAny_bind (wpAny_rule (wpAny_bind ?_))
    rw [show (xs.map (·.1)).length = items.toArray.size by simp [hil, hl]]
    refine wpAny_unpackItems_tuple r.hand (isTuple_of ht) fun h' x' => ?_
    obtain ⟨hs', ex'⟩ := ext_end sr₁.hs x'
    refine wpAny_bind (bind_all (xs := (xs.map (·.1)).reverse) (sr₁.ext ex' hs') p2 (by simp [hl]) (ex'.vrs hvs).reverse fun s₂ sr₂ e₂ => wpAny_pure ?_)
    exact ⟨_, vals', H₁, ρ₁, .next, sr₂, (e₁.toF.trans ex'.toF).trans e₂, q⟩

theorem ev1_Expr {e : PySem.Expr} {pos : Pos} {Q : Fl → Vals → List O → Prop} (hs : ∀ env, swapsWith e none pos.line env = pure false) (h : EvE prog w B names d e vals H fun _ H₁ => Q .next vals H₁) : Ev1 prog w B names d (.Expr e pos) vals H Q := by
  constructor
  intro env ρ s sr A E r
  exact wpAny_Expr_any (h.go sr r fun v a H₁ ρ₁ s₁ va sr₁ e₁ q => ⟨_, vals, H₁, ρ₁, .next, sr₁, e₁.toF, q⟩) sr.ok.quiet (hs env)
theorem ev1_If {t : PySem.Expr} {body orelse : List Stmt} {pos : Pos} {Q : Fl → Vals → List O → Prop} (h : EvT prog w B names d t vals H fun b H₁ => (b = true → EvS prog w B names d body vals H₁ Q) ∧ (b = false → EvS prog w B names d orelse vals H₁ Q)) :
    Ev1 prog w B names d (.If t body orelse pos) vals H Q := by
  constructor
  intro env ρ s sr A E r
  refine wpAny_If (h.go sr r fun b H₁ ρ₁ s₁ sr₁ e₁ h₁ => ?_)
  cases b with
  | true => exact wpAny_mono (WS.go' (h₁.1 rfl) env ρ₁ s₁ sr₁ A E r) (fun _ _ ⟨f, v2, H2, ρ2, a2, b2, c2, q2⟩ => ⟨f, v2, H2, ρ2, a2, b2, e₁.toF.trans c2, q2⟩) fun _ _ e => e
  | false => exact wpAny_mono (WS.go' (h₁.2 rfl) env ρ₁ s₁ sr₁ A E r) (fun _ _ ⟨f, v2, H2, ρ2, a2, b2, c2, q2⟩ => ⟨f, v2, H2, ρ2, a2, b2, e₁.toF.trans c2, q2⟩) fun _ _ e => e
theorem ev1_Return {e : PySem.Expr} {pos : Pos} {Q : Fl → Vals → List O → Prop} (h : EvE prog w B names d e vals H fun v H₁ => Q (.ret v) vals H₁) : Ev1 prog w B names d (.Return (some e) pos) vals H Q := by
  constructor
  intro env ρ s sr A E r
  exact wpAny_Return_some (h.go sr r fun v a H₁ ρ₁ s₁ va sr₁ e₁ q => ⟨_, vals, H₁, ρ₁, .ret va, sr₁, e₁.toF, q⟩)
/-- a while, by what holds at each turn and what falls -/
theorem ev1_While {t : PySem.Expr} {body : List Stmt} {pos : Pos} {Q : Fl → Vals → List O → Prop} (I : Nat → Vals → List O → Prop)
    (turn : ∀ n vals H, I n vals H → EvT prog w B names d t vals H fun b H₁ => (b = false → Q .next vals H₁) ∧ (b = true → EvS prog w B names d body vals H₁ fun f vals' H' => match f with
      | .next | .cont => ∃ m, m < n ∧ I m vals' H'
      | .brk => Q .next vals' H'
      | .ret v => Q (.ret v) vals' H')) (n : Nat) (h : I n vals H) : Ev1 prog w B names d (.While t body [] pos) vals H Q := by
  constructor
  intro env ρ s sr A E r
  refine wpAny_While (codeAny_whileLoop (fun n s' => ∃ vals' H' ρ', I n vals' H' ∧ SR w.params B env names vals' ρ' H' s' ∧ ExtF env ρ s ρ' s') ?_ n ⟨vals, H, ρ, h, sr, .refl _ _ _⟩)
  rintro n s' ⟨vals', H', ρ', hI, sr', e'⟩
  refine (turn n vals' H' hI).go sr' r fun b H₁ ρ₁ s₁ sr₁ e₁ h₁ => ?_
  cases b with
  | false => exact wpAny_execs_nil ⟨_, vals', H₁, ρ₁, .next, sr₁, e'.trans e₁.toF, h₁.1 rfl⟩
  | true =>
    refine wpAny_mono (WS.go' (h₁.2 rfl) env ρ₁ s₁ sr₁ A _ r) (fun fl s₂ ⟨f, v2, H2, ρ2, a2, b2, c2, q2⟩ => ?_) fun _ _ e => e
    have ee := (e'.trans e₁.toF).trans c2
    cases a2 with
    | next => obtain ⟨m, hm, hi⟩ := q2; exact ⟨m, hm, v2, H2, ρ2, hi, b2, ee⟩
    | cont => obtain ⟨m, hm, hi⟩ := q2; exact ⟨m, hm, v2, H2, ρ2, hi, b2, ee⟩
    | brk => exact ⟨_, v2, H2, ρ2, .next, b2, ee, q2⟩
    | ret hv => exact ⟨_, v2, H2, ρ2, .ret hv, b2, ee, q2⟩

/-- displays -/
noncomputable def plainE : PySem.Expr → Bool
  | .Starred .. => false
  | _ => true
theorem star_plain {e : PySem.Expr} (h : plainE e = true) (r : List PySem.Expr) (env : Env) : starEach (e :: r) env = (false, eval e env) :: starEach r env := by
  cases e <;> first | rfl | cases h
theorem evEs_spliced {env : Env} {pos : Pos} {A : Around} {Q : List V → List O → Prop} (r : Room A d) {es : List PySem.Expr} {H : List O} {ρ : List Addr} {s : Shared} {E : Value → Shared → Prop} (hp : es.all plainE = true) (h : EvEs prog w B names d es vals H Q) (sr : SR w.params B env names vals ρ H s)
    {t : List Value → Shared → Prop} (k : ∀ vs as H₁ ρ₁ s₁, VRs ρ₁ s₁.heap vs as → SR w.params B env names vals ρ₁ H₁ s₁ → Ext ρ s ρ₁ s₁ → Q vs H₁ → t as s₁) : wpAny (model prog w) A (spliced (backTo pos (starEach es env))) t E s := by
  induction es generalizing H ρ s Q t with
  | nil => exact Calls.spliced_nil (k [] [] H ρ s .nil sr (.refl _ _) h)
  | cons e es ih =>
    rw [List.all_cons, Bool.and_eq_true] at hp
    rw [star_plain hp.1]
    refine Calls.spliced_cons (EvE.go h sr r fun v a H₁ ρ₁ s₁ va sr₁ e₁ h₁ => ih hp.2 h₁ sr₁ fun vs as H₂ ρ₂ s₂ vas sr₂ e₂ q => ?_)
    exact k (v :: vs) (a :: as) H₂ ρ₂ s₂ (.cons (e₂.vr va) vas) sr₂ (e₁.trans e₂) q
theorem ev_Tuple {es : List PySem.Expr} {k : Nat} {pos : Pos} {Q : V → List O → Prop} (hp : es.all plainE = true) (hl : es.length ≤ 1000) (h : EvEs prog w B names d es vals H fun vs H₁ => vs.length ≤ 1000 ∧ Q (.tup vs) H₁) : EvE prog w B names d (.Tuple es k pos) vals H Q := by
  constructor
  intro env ρ s sr A E r
  refine wpAny_Tuple_spliced (evEs_spliced r hp h sr fun vs as H₁ ρ₁ s₁ vas sr₁ e₁ q => ⟨?_, ?_⟩)
  · rw [vas.length]; have := q.1; rw [sizeLine_eq]; walk_at "om"
  · have k : ∀ b o, s₁.heap.get? b = some o → (s₁.heap.push (tupObj as)).get? b = some o := fun b o e => Heap.get?_push_of_some _ e
    refine ⟨.tup vs, H₁, ρ₁, .tup (Heap.get?_push_size _ rfl) (vas.mono ⟨[], by simp⟩ (.of k)), sr₁.hs.keeps (s' := { s₁ with heap := s₁.heap.push (tupObj as) }) k, e₁.trans (.keeps (s' := { s₁ with heap := s₁.heap.push (tupObj as) }) k rfl rfl), q.2⟩
theorem new_list {ρ : List Addr} {s : Shared} {vs : List V} {as : List Value} {ep : Nat} (hs : HS w.params B ρ H s) (va : VRs ρ s.heap vs as) :
    HS w.params B (ρ ++ [s.heap.objs.size]) (H ++ [.list vs]) { s with heap := s.heap.push (listObj as ep) } ∧ Ext ρ s (ρ ++ [s.heap.objs.size]) { s with heap := s.heap.push (listObj as ep) } ∧ (ρ ++ [s.heap.objs.size])[H.length]? = some s.heap.objs.size := by
  have k : ∀ b o, s.heap.get? b = some o → (s.heap.push (listObj as ep)).get? b = some o := fun b o e => Heap.get?_push_of_some _ e
  refine ⟨hs.more (s' := { s with heap := s.heap.push (listObj as ep) }) k (get_end _) ⟨as, ep, Heap.get?_push_size _ rfl, va.mono ⟨_, rfl⟩ (.of k)⟩, .more (s' := { s with heap := s.heap.push (listObj as ep) }) k (get_end _) rfl rfl, ?_⟩
  rw [← hs.hr.len, List.getElem?_append_right (Nat.le_refl _), Nat.sub_self]; rfl
theorem ev_List {es : List PySem.Expr} {pos : Pos} {Q : V → List O → Prop} (hp : es.all plainE = true) (h : EvEs prog w B names d es vals H fun vs H₁ => vs.length ≤ 1000 ∧ Q (.ref H₁.length) (H₁ ++ [.list vs])) : EvE prog w B names d (.List es pos) vals H Q := by
  constructor
  intro env ρ s sr A E r
  refine wpAny_List_spliced (evEs_spliced r hp h sr fun vs as H₁ ρ₁ s₁ vas sr₁ e₁ q => ⟨?_, ?_⟩)
  · rw [vas.length]; have := q.1; rw [sizeLine_eq]; walk_at "om"
  · obtain ⟨h1, h2, h3⟩ := new_list (ep := 0) sr₁.hs vas
    exact ⟨.ref H₁.length, _, _, .ref h3, h1, e₁.trans h2, q.2⟩
end
theorem bindL_not {kindOf : Str → Option NameKind} : ∀ {binds : List (Str × Value)} {m : Str → Option Value} {x : Str}, x ∉ binds.map (·.1) → bindL kindOf binds m x = m x
  | [], _, _, _ => rfl
  | (n, v) :: r, m, x, h => by
    rw [List.map_cons, List.mem_cons, not_or] at h
    unfold bindL
    rw [bindL_not h.2]
    split
    · exact if_neg h.1
    · rfl
theorem bindL_get {kindOf : Str → Option NameKind} : ∀ {binds : List (Str × Value)} {m : Str → Option Value} {i : Nat} {x : Str} {a : Value}, binds[i]? = some (x, a) → (binds.map (·.1)).Nodup → kindOf x = some .local → bindL kindOf binds m x = some a
  | [], _, _, _, _, h, _, _ => by simp at h
  | (n, v) :: r, m, i, x, a, h, hn, hk => by
    rw [List.map_cons, List.nodup_cons] at hn
    unfold bindL
    cases i with
    | zero =>
      simp only [List.getElem?_cons_zero, Option.some.injEq, Prod.mk.injEq] at h
      obtain ⟨rfl, rfl⟩ := h
      rw [bindL_not hn.1, if_pos hk, if_pos rfl]
    | succ i => exact bindL_get (by simpa using h) hn.2 hk
theorem bindC_not {kindOf : Str → Option NameKind} : ∀ {binds : List (Str × Value)} {m : Str → Option Value} {x : Str}, x ∉ binds.map (·.1) → bindC kindOf binds m x = m x
  | [], _, _, _ => rfl
  | (n, v) :: r, m, x, h => by
    rw [List.map_cons, List.mem_cons, not_or] at h
    unfold bindC
    rw [bindC_not h.2]
    split
    · rfl
    · exact if_neg h.1
theorem bindC_get {kindOf : Str → Option NameKind} : ∀ {binds : List (Str × Value)} {m : Str → Option Value} {i : Nat} {x : Str} {a : Value}, binds[i]? = some (x, a) → (binds.map (·.1)).Nodup → kindOf x ≠ some .local → bindC kindOf binds m x = some a
  | [], _, _, _, _, h, _, _ => by simp at h
  | (n, v) :: r, m, i, x, a, h, hn, hk => by
    rw [List.map_cons, List.nodup_cons] at hn
    unfold bindC
    cases i with
    | zero =>
      simp only [List.getElem?_cons_zero, Option.some.injEq, Prod.mk.injEq] at h
      obtain ⟨rfl, rfl⟩ := h
      rw [bindC_not hn.1, if_neg hk, if_pos rfl]
    | succ i => exact bindC_get (by simpa using h) hn.2 hk

/-- a def of the top's: its parameters come first among its names; what is not handed has a fixed default -/
structure FnIs (B : Heap) (f : Addr) (ps : List Str) (dv : List V) (names : Names) (body : List Stmt) : Prop where
  there : ∃ fo fd, B.get? f = some fo ∧ fo.data = .func fd ∧ fd.body = .stmts body ∧ fd.closure = [] ∧ fd.globals = mainGlobals ∧ fd.builtins = builtinsNs ∧ fd.scope.names = names ∧ fd.scope.kind = .function ∧ fd.scope.isCoroutine = false ∧
    fd.scope.isGenerator = false ∧ B.CodeRec fd.code fd.qualname ∧
    ∃ dfl : List Value, (∀ ρ h, VRs ρ h dv dfl) ∧ ∀ (s : Shared) (xs : List Value), (∀ b o, B.get? b = some o → s.heap.get? b = some o) → xs.length + dv.length = ps.length → BindsTo s fd ⟨xs, []⟩ (ps.zip (xs ++ dfl))
  lim : B.NoLimit
  first : (names.map (·.1)).take ps.length = ps
  kinds : ∀ x ∈ names.take ps.length, x.2 = .local ∨ x.2 = .cell
  nod : (names.map (·.1)).Nodup
  dbg : ∀ x ∈ names, (x.1 == ("__debug__" : Str)) = false ∧ (x.1 == ("__classdict__" : Str)) = false

noncomputable def vals0 (names : Names) (args : List V) : Vals := args.map some ++ List.replicate (names.length - args.length) none

section
variable {prog : Program} {w : World} {B : Heap} {names : Names} {d : Nat}

theorem call_def {f : Addr} {ps : List Str} {dv args : List V} {body : List Stmt} {H : List O} {Q : V → List O → Prop} (F : FnIs B f ps dv names body) (hl : args.length + dv.length = ps.length)
    (h : EvS prog w B names d body (vals0 names (args ++ dv)) H fun fl _ H' => match fl with | .ret v => Q v H' | .next => Q .none H' | _ => False) : CallC prog w B (d + 1) f args H Q := by
  constructor
  intro ρ s xs A R hs hv r hR
  obtain ⟨⟨fo, fd, hf, hd, hb, hclo, hg, hbi, hnm, hk, hco, hgen, hcd, dfl, hdv, hbind⟩, lim, first, kinds, nod, dbg⟩ := F
  have hxl := hv.length
  have hlim : s.heap.NoLimit := lim.keeps hs.base
  refine codeAny_call_function r.depth (hs.base _ _ hf) hd hco hgen hb (hcd.keeps hs.base) (hbind s xs hs.base (by rw [hxl]; exact hl) _ _ _ _ ?_)
  rw [hclo]
  have hal := VRs.append hv (hdv ρ s.heap)
  have hpl : ps.length = (xs ++ dfl).length := by rw [hal.length]; simp [hl]
  have bget : ∀ (i : Nat) (x : Str) (a : Value), (ps.zip (xs ++ dfl))[i]? = some (x, a) → ps[i]? = some x ∧ (xs ++ dfl)[i]? = some a := fun i x a e => by
    rw [List.getElem?_zip_eq_some] at e; exact e
  have pget : ∀ (i : Nat) (x : Str), ps[i]? = some x → ∃ k, names[i]? = some (x, k) ∧ (k = .local ∨ k = .cell) := fun i x e => by
    rw [← first, List.getElem?_take] at e
    split at e
    · rename_i hi
      rw [List.getElem?_map] at e
      obtain ⟨⟨y, k⟩, e1, e2⟩ := Option.map_eq_some_iff.mp e
      obtain rfl : y = x := e2
      exact ⟨k, e1, kinds (y, k) (List.mem_of_getElem? (i := i) (by rw [List.getElem?_take, if_pos hi]; exact e1))⟩
    · cases e
  have pnod : ps.Nodup := by rw [← first]; exact List.Sublist.nodup (List.take_sublist _ _) nod
  have bnod : ((ps.zip (xs ++ dfl)).map (·.1)).Nodup := by
    rw [List.map_fst_zip (Nat.le_of_eq hpl)]; exact pnod
  refine wpAny_newFunctionEnv_cells hk (fun y hy => ?_) fun env he s' x => ?_
  · obtain ⟨i, hi⟩ := List.mem_iff_getElem?.mp hy
    obtain ⟨e1, -⟩ := bget i y.1 y.2 hi
    obtain ⟨k, e2, hk'⟩ := pget i _ e1
    have := lookup_of_get nod e2
    rw [hnm]
    rcases hk' with rfl | rfl
    · exact .inl this
    · exact .inr ⟨this, cellsFrom_some _ _ _ (.inl this)⟩
  · have hle : env.scope.names = names := by rw [he]; exact hnm
    have ok : EnvOk env names := ⟨hle, by rw [he]; exact hk, by rw [he]; exact hg, by rw [he]; exact hbi, nod, dbg⟩
    have hL : env.locals = s.heap.objs.size := by rw [he]; rfl
    have hcells : env.cells = cellsFrom (s.heap.objs.size + 1) names [] := by rw [he]; show cellsFrom _ fd.scope.names [] = _; rw [hnm]
    have kp := x.toInCall.keep
    obtain ⟨h', tk, rfl⟩ := x.toInCall.same
    have hp : ∃ t, ρ = ρ ++ t := ⟨[], by simp⟩
    have tkp : TupKeep s.heap h' := .of kp
    refine ⟨hlim.keeps kp, codeAny_func ?_⟩
    have lowL : ∀ a ∈ ρ, a < s.heap.objs.size := fun a ha => by obtain ⟨o, e, _⟩ := hs.hr.own ha; exact Heap.lt_size e
    have cab : ∀ (y : Str) (c : Addr), env.cells.lookup y = some c → s.heap.objs.size < c := fun y c e => by rw [← hL]; exact x.above y c (mem_of_lookup e)
    have noB : ∀ c, s.heap.objs.size ≤ c → B.get? c = none := fun c hc => by
      cases e : B.get? c with
      | none => rfl
      | some o => exact absurd (Heap.lt_size (hs.base _ _ e)) (Nat.not_lt.mpr hc)
    have sr : SR w.params B env names (vals0 names (args ++ dv)) ρ H { s with heap := h', toks := tk } := by
      have vget : ∀ (i : Nat) (v : V), (vals0 names (args ++ dv))[i]? = some (some v) → (args ++ dv)[i]? = some v := fun i v e => by
        unfold vals0 at e
        by_cases hi : i < (args ++ dv).length
        · rw [List.getElem?_append_left (by simpa using hi), List.getElem?_map] at e
          obtain ⟨v', e1, e2⟩ := Option.map_eq_some_iff.mp e
          cases e2; exact e1
        · rw [List.getElem?_append_right (by simpa using hi)] at e
          rw [List.getElem?_replicate] at e
          split at e <;> cases e
      have bval : ∀ (i : Nat) (y : Str) (k : NameKind) (v : V), names[i]? = some (y, k) → (vals0 names (args ++ dv))[i]? = some (some v) → ∃ a, (ps.zip (xs ++ dfl))[i]? = some (y, a) ∧ VR ρ s.heap v a := fun i y k v e1 e2 => by
        have e3 := vget i v e2
        obtain ⟨a, e4, hr⟩ := hal.get e3
        have hi : i < ps.length := by rw [hpl]; exact (List.getElem?_eq_some_iff.mp e4).1
        have e5 : ps[i]? = some y := by
          rw [← first, List.getElem?_take, if_pos hi, List.getElem?_map, e1]; rfl
        exact ⟨a, by rw [List.getElem?_zip_eq_some]; exact ⟨e5, e4⟩, hr⟩
      refine ⟨ok, hs.keeps (s' := { s with heap := h', toks := tk }) kp, ⟨?_, ⟨_, x.toInCall.ns, fun i y v e1 e2 => ?_⟩, fun i y k v e1 e2 e3 => ?_, fun i y e1 => ?_, x.apart, ?_, fun y c e => ⟨?_, ?_⟩, fun y c e => ?_, ?_⟩⟩
      · unfold vals0
        have : (args ++ dv).length ≤ names.length := by
          have h1 : ps.length ≤ (names.map (·.1)).length := by rw [← first]; simp; walk_at "om"
          simp only [List.length_append, hl]; simpa using h1
        simp only [List.length_append, List.length_map, List.length_replicate] at this ⊢; walk_at "om"
      · obtain ⟨a, e3, hr⟩ := bval i y _ v e1 e2
        exact ⟨a, bindL_get e3 bnod (ok.kindOf e1), hr.mono hp tkp⟩
      · obtain ⟨a, e4, hr⟩ := bval i y k v e1 e3
        have hkd := ok.kindOf e1
        have hkl : k = .cell := by
          obtain ⟨e5, -⟩ := bget i y a e4
          obtain ⟨k', e6, hk'⟩ := pget i y e5
          rw [e1] at e6; cases e6
          rcases e2 with e2 | e2 <;> rcases hk' with hk' | hk' <;> subst e2 <;> first | rfl | cases hk'
        subst hkl
        obtain ⟨c, hc⟩ := Option.isSome_iff_exists.mp (cellsFrom_some (x := y) names (s.heap.objs.size + 1) [] (.inl (lookup_of_get nod e1)))
        rw [← hcells] at hc
        refine ⟨c, a, hc, ?_, hr.mono hp tkp⟩
        have := x.cell y c hc
        rw [bindC_get e4 bnod (by rw [hkd]; decide)] at this
        exact this
      · obtain ⟨c, hc⟩ := Option.isSome_iff_exists.mp (cellsFrom_some (x := y) names (s.heap.objs.size + 1) [] (.inl (lookup_of_get nod e1)))
        rw [← hcells] at hc
        exact ⟨c, _, hc, x.cell y c hc, noB _ (Nat.le_of_lt (cab y c hc))⟩
      · rw [hL]; exact fun q => Nat.lt_irrefl _ (lowL _ q)
      · exact fun q => Nat.lt_irrefl _ (Nat.lt_trans (lowL _ q) (cab y c e))
      · rw [hL]; exact Nat.ne_of_gt (cab y c e)
      · obtain ⟨o, ho, _⟩ := x.cell y c e; exact ⟨o, ho⟩
      · rw [hL]; exact noB _ (Nat.le_refl _)
    refine wpAny_mono (h.go' env ρ _ sr (A.deeper env) _ r.deeper) (fun fl s₂ ⟨f', vals', H', ρ', a1, a2, a3, q⟩ => ?_) fun _ _ e => e
    have ex : Ext ρ s ρ' s₂ := by
      refine ⟨?_, fun b o e hb => a3.keep b o (kp b o e) hb ?_ ?_, fun b hb o e => a3.live b o (kp b o e), tkp.trans a3.tup, a3.gens, a3.os⟩
      · obtain ⟨t, e, ht⟩ := a3.pre
        refine ⟨t, e, fun a ha => ?_⟩
        cases e' : s.heap.get? a with
        | none => rfl
        | some o => have := kp a o e'; rw [ht a ha] at this; cases this
      · rw [hL]; exact Nat.ne_of_lt (Heap.lt_size e)
      · intro y c e'; exact Nat.ne_of_lt (Nat.lt_trans (Heap.lt_size e) (cab y c e'))
    cases a1 with
    | ret hv' => exact hR _ _ H' ρ' s₂ hv' a2.hs ex q
    | next => exact hR .none .none H' ρ' s₂ .none a2.hs ex q
    | brk => exact q.elim
    | cont => exact q.elim
end
noncomputable def KeepOk (prog : Program) (w : World) (h : Heap) (f : Value) : Prop := ∃ k, (k = Keeper.frame ∨ k = Keeper.machine ∨ k = Keeper.boundFrame) ∧ Looks (model prog w) h (keeperOf f) k

section
variable (prog : Program) (w : World) (B : Heap)
/-- a value is called -/
noncomputable def CalV (d : Nat) (f : V) (vs : List V) (H : List O) (Q : V → List O → Prop) : Prop :=
  ∃ fv, f = .val fv ∧ (∀ h : Heap, (∀ b o, B.get? b = some o → h.get? b = some o) → KeepOk prog w h fv) ∧ ∀ ρ s xs, HS w.params B ρ H s → VRs ρ s.heap vs xs → WT prog w B VR d (call fv xs) ρ s Q
/-- a method is looked up -/
noncomputable def MethV (d : Nat) (name : Str) (ov : V) (H : List O) (f : Value) (first : List V) : Prop :=
  ∀ ρ s x pl A E (Q : Value × List Value → Shared → Prop), HS w.params B ρ H s → VR ρ s.heap ov x → Room A d → (∀ fs, VRs ρ s.heap first fs → Q (f, fs) s) → wpAny (model prog w) A (getMethod x name pl) Q E s
end

noncomputable def plainBase : PySem.Expr → Bool
  | .Call (.Name _ _) [] [] _ => false
  | _ => true
theorem base_plain {o : PySem.Expr} (h : plainBase o = true) (attr : Str) (env : Env) (whole : Sem Value) : attributeBase o attr env whole = whole := by
  unfold attributeBase
  split
  · cases h
  · rfl
theorem few_of {args : List PySem.Expr} (hp : args.all plainE = true) (hl : args.length < 29) (pos : Pos) (env : Env) : methodCallForm (args.length + 0) (backTo pos (starEach args env)) (backToKw pos (keywordEach [] env)) = true := by
  have : ∀ (args : List PySem.Expr), args.all plainE = true → (backTo pos (starEach args env)).all (fun x => !x.1) = true := by
    intro args
    induction args with
    | nil => intro _; rfl
    | cons e r ih =>
      intro h
      rw [List.all_cons, Bool.and_eq_true] at h
      rw [star_plain h.1]
      show ((!false) && (backTo pos (starEach r env)).all (fun x => !x.1)) = true
      rw [ih h.2]; rfl
  unfold methodCallForm
  rw [this args hp]
  show (true && true && decide (args.length + 0 + 0 < 30)) = true
  rw [decide_eq_true (by walk_at "om")]; rfl
theorem nostar_of {args : List PySem.Expr} (hp : args.all plainE = true) (pos : Pos) (env : Env) : (backTo pos (starEach args env)).any (·.1) = false := by
  induction args with
  | nil => rfl
  | cons e r ih =>
    rw [List.all_cons, Bool.and_eq_true] at hp
    rw [star_plain hp.1]
    show (false || (backTo pos (starEach r env)).any (·.1)) = false
    rw [ih hp.2]; rfl

section
variable {prog : Program} {w : World} {B : Heap} {names : Names} {d : Nat} {vals : Vals} {H : List O} {K : Frag}

theorem evalArgs_of {M : Model} {A : Around} {E : Value → Shared → Prop} {s : Shared} {f : Value} {args : List PySem.Expr} {pos : Pos} {env : Env} {Q : Args → Shared → Prop} (hp : args.all plainE = true)
    (h : wpAny M A (spliced (backTo pos (starEach args env))) (fun vs s' => Q ⟨vs, []⟩ s') E s) : wpAny M A (evalArgs f true (backTo pos (starEach args env)) []) Q E s := by
  cases args with
  | nil =>
    unfold evalArgs
    show wpAny M A (spliced [] >>= _) Q E s
    refine wpAny_bind (wpAny_mono h (fun vs s' h' => ?_) fun _ _ x => x)
    refine wpAny_bind (wpAny_pure ?_)
    refine wpAny_holding ?_
    exact wpAny_bind (wpAny_pure (wpAny_bind (wpAny_pure (wpAny_pure h'))))
  | cons e r =>
    rw [List.all_cons, Bool.and_eq_true] at hp
    rw [star_plain hp.1] at h ⊢
    exact Calls.evalArgs_plain h

theorem callV_go {f : V} {first : List V} {args : List PySem.Expr} {pos : Pos} {env : Env} {A : Around} {E : Value → Shared → Prop} {ρ : List Addr} {s : Shared} {Q : V → List O → Prop} {fv : Value} {fs : List Value} (hp : args.all plainE = true) (r : Room A d)
    (sr : SR w.params B env names vals ρ H s) (hf : f = .val fv) (hfs : VRs ρ s.heap first fs) (h : EvEs prog w B names d args vals H fun vs H₂ => CalV prog w B d f (first ++ vs) H₂ Q) :
    wpAny (model prog w) A (callWith pos fv fs (backTo pos (starEach args env)) []) (fun val s' => ∃ v H' ρ', VR ρ' s'.heap v val ∧ HS w.params B ρ' H' s' ∧ Ext ρ s ρ' s' ∧ Q v H') E s := by
  subst hf
  refine callWith_of (P := fun h => KeepOk prog w h fv) (by rw [nostar_of hp]; rfl) (fun h k => k) (evalArgs_of hp (evEs_spliced r hp h sr fun vs as H₂ ρ₂ s₂ vas sr₂ e₂ q => ?_))
  obtain ⟨fv', e, k, c⟩ := q
  cases e
  exact ⟨k s₂.heap sr₂.hs.base, (c ρ₂ s₂ (fs ++ as) sr₂.hs (.append (e₂.vrs hfs) vas)).at e₂ r fun _ _ q => q⟩

theorem ev_CallName {x : Str} {np pos : Pos} {args : List PySem.Expr} {Q : V → List O → Prop} (hp : args.all plainE = true)
    (h : EvE prog w B names d (.Name x np) vals H fun f H₁ => (∃ fv, f = .val fv) ∧ EvEs prog w B names d args vals H₁ fun vs H₂ => CalV prog w B d f vs H₂ Q) : EvE prog w B names d (.Call (.Name x np) args [] pos) vals H Q := by
  constructor
  intro env ρ s sr A E r
  refine wpAny_Call_Name_kw (h.go sr r fun f a H₁ ρ₁ s₁ va sr₁ e₁ ⟨⟨fv, hf⟩, h₁⟩ => ?_)
  subst hf
  cases va
  exact wpAny_mono (callV_go (first := []) hp r sr₁ rfl .nil h₁) (fun _ _ ⟨v, H', ρ', a, b, c, q⟩ => ⟨v, H', ρ', a, b, e₁.trans c, q⟩) fun _ _ e => e

theorem ev_CallMeth {o : PySem.Expr} {name : Str} {apos pos : Pos} {args : List PySem.Expr} {Q : V → List O → Prop} (hb : plainBase o = true) (hp : args.all plainE = true) (hl : args.length < 29) (hline : (apos.endLine == pos.line) = true)
    (h : EvE prog w B names d o vals H fun ov H₁ => ∃ fv first, MethV prog w B d name ov H₁ fv first ∧ EvEs prog w B names d args vals H₁ fun vs H₂ => CalV prog w B d (.val fv) (first ++ vs) H₂ Q) : EvE prog w B names d (.Call (.Attribute o name apos) args [] pos) vals H Q := by
  constructor
  intro env ρ s sr A E r
  have hpos : ∀ few, methodCallPos few o env apos pos = pure pos := fun few => by unfold methodCallPos; rw [hline, Bool.or_true]; rfl
  have he : eval (.Call (.Attribute o name apos) args [] pos) env = (attributeBase o name env (eval o env) >>= fun ov => standAt apos.atName >>= fun _ => methodCall o name apos pos env ov (args.length + 0) (backTo pos (starEach args env)) (backToKw pos (keywordEach [] env))) := rfl
  rw [he, base_plain hb]
  refine wpAny_bind (h.go sr r fun ov a H₁ ρ₁ s₁ va sr₁ e₁ ⟨fv, first, hm, h₁⟩ => wpAny_bind (wpAny_standAt ?_))
  unfold methodCall
  rw [few_of hp hl]
  refine wpAny_bind (wpAny_holding ?_)
  show wpAny _ _ (getMethod a name _) _ _ _
  refine hm ρ₁ s₁ a _ A E _ sr₁.hs va r fun fs hfs => ?_
  show wpAny _ _ (methodCallPos _ _ _ _ _ >>= _) _ _ _
  rw [hpos]
  refine wpAny_bind (wpAny_pure ?_)
  exact wpAny_mono (callV_go (first := first) hp r sr₁ rfl hfs h₁) (fun _ _ ⟨v, H', ρ', a, b, c, q⟩ => ⟨v, H', ρ', a, b, e₁.trans c, q⟩) fun _ _ e => e

/-- calls of the top's defs -/
theorem keep_fn {f : Addr} {ps : List Str} {dv : List V} {names' : Names} {body : List Stmt} (F : FnIs B f ps dv names' body) (h : Heap) (k : ∀ b o, B.get? b = some o → h.get? b = some o) : KeepOk prog w h (.ref f) := by
  obtain ⟨⟨fo, fd, hf, hd, _⟩, _⟩ := F
  obtain ⟨oc, od, dt, sl⟩ := fo
  dsimp only at hd; subst hd
  exact ⟨.frame, .inl rfl, (Looks.ld (part := none) (k _ _ hf)).andThen .now⟩
theorem calV_fn {f : Addr} {ps : List Str} {dv : List V} {names' : Names} {body : List Stmt} {d' : Nat} {vs : List V} {Q : V → List O → Prop} (F : FnIs B f ps dv names' body) (h : CallC prog w B d' f vs H Q) (hd : d' ≤ d) : CalV prog w B d (.val (.ref f)) vs H Q := by
  refine ⟨_, rfl, fun h k => keep_fn F h k, fun ρ s xs hs hv A E r => wpAny_call (h.go' ρ s xs A _ hs hv (r.mono hd) fun v val H' ρ' s' a b c q => ⟨v, H', ρ', a, b, c, q⟩)⟩
theorem keep_builtin {id : String} (h : Heap) : KeepOk prog w h (.builtin id) := ⟨.machine, .inr (.inl rfl), .now⟩
theorem keep_type {T : String} (h : Heap) : KeepOk prog w h (.type T) := ⟨.machine, .inr (.inl rfl), .now⟩

/-- classes of the top's -/
structure ClsIs (K : Frag) (C : Addr) : Prop where
  ga : findIn K (.ref C) "__getattribute__" = some (some (.builtin "object.__getattribute__"))
  gh : findIn K (.ref C) "__getattr__" = some none
  dict : hasDictIn K C = true
structure AttrIs (K : Frag) (C : Addr) (name : Str) : Prop where
  no : findIn K (.ref C) name = some none
structure MethIs (K : Frag) (C : Addr) (name : Str) (f : Addr) : Prop where
  at_ : findIn K (.ref C) name = some (some (.ref f))
  fn : typeIn K (.ref f) = some (.type "function")

inductive FLook : List (Str × V) → Str → V → Prop
  | here {x : Str} {v : V} {r : List (Str × V)} : FLook ((x, v) :: r) x v
  | there {p : Str × V} {x : Str} {v : V} {r : List (Str × V)} : FLook r x v → FLook (p :: r) x v
theorem FLook.mem {fs : List (Str × V)} {x : Str} {v : V} (h : FLook fs x v) : (x, v) ∈ fs := by
  induction h with
  | here => exact .head _
  | there _ ih => exact .tail _ ih

theorem isStr_str (y x : Str) (t : Tok) : (Value.str y t).isStr x = decide (y = x) := by
  show (y == x) = _
  by_cases h : y = x
  · subst h; simp
  · rw [decide_eq_false h]; exact beq_eq_false_iff_ne.mpr h
theorem nrs_get {ρ : List Addr} {h : Heap} : ∀ {fs : List (Str × V)} {ds : List DictEntry} {x : Str} {v : V}, NRs ρ h fs ds → (fs.map (·.1)).Nodup → (x, v) ∈ fs → ∃ e, ds.find? (·.key.isStr x) = some e ∧ VR ρ h v e.val
  | _, _, _, _, .nil, _, hm => nomatch hm
  | _, _, x, v, .cons (x := y) (t := t) hk hv hr, hn, hm => by
    rw [List.map_cons, List.nodup_cons] at hn
    rw [List.find?_cons, hk, isStr_str]
    rcases List.mem_cons.mp hm with e | hm
    · cases e; exact ⟨_, by simp, hv⟩
    · have hne : ¬ y = x := fun q => hn.1 (List.mem_map.mpr ⟨(x, v), hm, q.symm⟩)
      simp only [hne, decide_false, Bool.false_eq_true, if_false]
      exact nrs_get hr hn.2 hm
theorem nrs_none {ρ : List Addr} {h : Heap} : ∀ {fs : List (Str × V)} {ds : List DictEntry} {x : Str}, NRs ρ h fs ds → x ∉ fs.map (·.1) → ds.find? (·.key.isStr x) = none ∧ ds.any (·.refKey) = false
  | _, _, _, .nil, _ => ⟨rfl, rfl⟩
  | _, _, x, .cons (x := y) (t := t) hk hv hr, hn => by
    rw [List.map_cons, List.mem_cons, not_or] at hn
    have ih := nrs_none hr hn.2
    rw [List.find?_cons, List.any_cons, hk, isStr_str, decide_eq_false (fun q => hn.1 q.symm), ih.1, ih.2]
    exact ⟨rfl, by simp [DictEntry.refKey, hk]⟩

theorem inst_at {ρ : List Addr} {s : Shared} {n dn : Nat} {C : Addr} {fs : List (Str × V)} {x : Value} (hs : HS w.params B ρ H s) (hx : VR ρ s.heap (.ref n) x) (hi : H[n]? = some (.inst C dn)) (hd : H[dn]? = some (.ns fs)) :
    ∃ a dx ds ep, x = .ref a ∧ ρ[n]? = some a ∧ ρ[dn]? = some dx ∧ s.heap.get? dx = some (dictObj ds ep) ∧ NRs ρ s.heap fs ds ∧ (fs.map (·.1)).Nodup ∧ InstAt s.heap a (instObj C dx) C (some (dictObj ds ep)) := by
  cases hx with
  | ref hr =>
    rename_i a
    obtain ⟨dx, e1, e2⟩ := hs.hr.obj n _ a hi hr
    obtain ⟨ds, ep, e3, e4, e5⟩ := hs.hr.obj dn _ dx hd e1
    exact ⟨a, dx, ds, ep, rfl, hr, e1, e3, e4, e5, ⟨e2, rfl, rfl, e3⟩⟩

theorem methV_inst {n dn : Nat} {C f : Addr} {fs : List (Str × V)} {name : Str} (X : K.In B) (c : ClsIs K C) (hi : H[n]? = some (.inst C dn)) (hd : H[dn]? = some (.ns fs)) (m : MethIs K C name f) (ha : name ∉ fs.map (·.1)) :
    MethV prog w B d name (.ref n) H (.ref f) [.ref n] := by
  intro ρ s x pl A E Q hs hx r q
  obtain ⟨a, dx, ds, ep, rfl, e1, e2, e3, e4, e5, I⟩ := inst_at hs hx hi hd
  refine method_fn (fun b o e => hs.base b o (X b o e)) I c.ga c.gh m.at_ m.fn ?_ (q [.ref a] (.cons (.ref e1) .nil))
  obtain ⟨z1, z2⟩ := nrs_none e4 ha
  show (lookIn name (dictObj ds ep)).map _ = _
  unfold lookIn
  dsimp only
  rw [z1, z2]; rfl

noncomputable def plainV : V → Bool
  | .val _ => false
  | _ => true
theorem handed_plain {ρ : List Addr} {h : Heap} {v : V} {x : Value} (hv : VR ρ h v x) (hp : plainV v = true) : handedIn x = true := by
  cases hv <;> first | rfl | cases hp

theorem ev_Attr {o : PySem.Expr} {attr : Str} {pos : Pos} {Q : V → List O → Prop} (X : K.In B) (hb : plainBase o = true)
    (h : EvE prog w B names d o vals H fun ov H₁ => ∃ n C dn fs u, ov = .ref n ∧ ClsIs K C ∧ H₁[n]? = some (.inst C dn) ∧ H₁[dn]? = some (.ns fs) ∧ AttrIs K C attr ∧ FLook fs attr u ∧ plainV u = true ∧ Q u H₁) : EvE prog w B names d (.Attribute o attr pos) vals H Q := by
  constructor
  intro env ρ s sr A E r
  refine Attribute_any_ (h.go sr r fun ov a H₁ ρ₁ s₁ va sr₁ e₁ ⟨n, C, dn, fs, u, hov, c, hi, hd, ha, hl, hu, q⟩ => ?_) (by
    show (attributeBase o attr env (eval o env) >>= _) = _
    rw [base_plain hb])
  subst hov
  obtain ⟨a, dx, ds, ep, rfl, z1, z2, z3, z4, z5, I⟩ := inst_at sr₁.hs va hi hd
  obtain ⟨e, he, hv⟩ := nrs_get z4 z5 hl.mem
  refine get_value (fun b o e => sr₁.hs.base b o (X b o e)) I c.ga (findObj_own c.dict ha.no rfl (v := e.val) ?_) (handed_plain hv hu) ⟨u, H₁, ρ₁, hv, sr₁.hs.toks _, e₁.trans (.toks _), q⟩
  show lookIn attr (dictObj ds ep) = _
  unfold lookIn
  dsimp only
  rw [he]
end
section
variable {prog : Program} {w : World} {B : Heap} {d : Nat} {H : List O}

/-- the end of a step that changes nothing that stood -/
theorem fin {α β : Type} {rel : List Addr → Heap → β → α → Prop} {ρ : List Addr} {s s' : Shared} {v : β} {x : α} {Q : β → List O → Prop} (hs : HS w.params B ρ H s) (k : ∀ b o, s.heap.get? b = some o → s'.heap.get? b = some o) (hv : rel ρ s'.heap v x) (q : Q v H)
    (hg : s'.gens = s.gens := by rfl) (ho : s'.os = s.os := by rfl) : ∃ v H' ρ', rel ρ' s'.heap v x ∧ HS w.params B ρ' H' s' ∧ Ext ρ s ρ' s' ∧ Q v H' :=
  ⟨v, H, ρ, hv, hs.keeps k, .keeps k hg ho, q⟩

theorem w2_int {t : Value → Value → Sem Value} {a b c : Int} {Q : V → List O → Prop} (h : ∀ (A : Around) (E : Value → Shared → Prop) (s : Shared) (t1 t2 : Tok) (Q' : Value → Shared → Prop), Q' (.int c s.toks) { s with toks := s.toks + 1 } → wpAny (model prog w) A (t (.int a t1) (.int b t2)) Q' E s) (q : Q (.int c) H) :
    W2 prog w B d t (.int a) (.int b) H Q := by
  intro ρ s x y hs hx hy A E r
  cases hx; cases hy
  exact h A E s _ _ _ (fin hs (fun _ _ e => e) (.int _ _) q)
theorem w2_intb {t : Value → Value → Sem Value} {a b : Int} {c : Bool} {Q : V → List O → Prop} (h : ∀ (A : Around) (E : Value → Shared → Prop) (s : Shared) (t1 t2 : Tok) (Q' : Value → Shared → Prop), Q' (.bool c) s → wpAny (model prog w) A (t (.int a t1) (.int b t2)) Q' E s) (q : Q (.bool c) H) :
    W2 prog w B d t (.int a) (.int b) H Q := by
  intro ρ s x y hs hx hy A E r
  cases hx; cases hy
  exact h A E s _ _ _ (fin hs (fun _ _ e => e) (.bool _) q)
theorem w2_strb {t : Value → Value → Sem Value} {a b : Str} {c : Bool} {Q : V → List O → Prop} (h : ∀ (A : Around) (E : Value → Shared → Prop) (s : Shared) (t1 t2 : Tok) (Q' : Value → Shared → Prop), Q' (.bool c) s → wpAny (model prog w) A (t (.str a t1) (.str b t2)) Q' E s) (q : Q (.bool c) H) :
    W2 prog w B d t (.str a) (.str b) H Q := by
  intro ρ s x y hs hx hy A E r
  cases hx; cases hy
  exact h A E s _ _ _ (fin hs (fun _ _ e => e) (.bool _) q)
variable {a b : Int} {x y : Str} {Q : V → List O → Prop}
theorem w_add (q : Q (.int (a + b)) H) : W2 prog w B d (binaryOp .Add) (.int a) (.int b) H Q := w2_int (fun _ _ _ _ _ _ h => add_int h) q
theorem w_sub (q : Q (.int (a - b)) H) : W2 prog w B d (binaryOp .Sub) (.int a) (.int b) H Q := w2_int (fun _ _ _ _ _ _ h => sub_int h) q
theorem w_mul (h0 : IntMulOk a b) (q : Q (.int (a * b)) H) : W2 prog w B d (binaryOp .Mult) (.int a) (.int b) H Q := w2_int (fun _ _ _ _ _ _ h => mul_int h h0) q
theorem w_div (h0 : b ≠ 0) (h1 : Builtin.divisionGoesByPylong a b = false) (q : Q (.int (a.fdiv b)) H) : W2 prog w B d (binaryOp .FloorDiv) (.int a) (.int b) H Q := w2_int (fun _ _ _ _ _ _ h => floordiv_int h0 h (.inl h1)) q
theorem w_mod (h0 : b ≠ 0) (q : Q (.int (a.fmod b)) H) : W2 prog w B d (binaryOp .Mod) (.int a) (.int b) H Q := w2_int (fun _ _ _ _ _ _ h => mod_int' h0 h) q
theorem w_pow (h0 : 0 ≤ b) (h1 : (Builtin.Int.intBits a : Int) * b ≤ 2 ^ 27) (q : Q (.int (a ^ b.toNat)) H) : W2 prog w B d (binaryOp .Pow) (.int a) (.int b) H Q := w2_int (fun _ _ _ _ _ _ h => pow_int h0 h1 h) q
theorem w_shl (h0 : 0 ≤ b) (h1 : (Builtin.Int.intBits a : Int) + b ≤ 2 ^ 27) (q : Q (.int (a * 2 ^ b.toNat)) H) : W2 prog w B d (binaryOp .LShift) (.int a) (.int b) H Q := w2_int (fun _ _ _ _ _ _ h => lshift_int h0 h1 h) q
theorem w_band (q : Q (.int (Builtin.bitAnd a b)) H) : W2 prog w B d (binaryOp .BitAnd) (.int a) (.int b) H Q := w2_int (fun _ _ _ _ _ _ h => and_int h) q
theorem w_bxor (q : Q (.int (Builtin.bitXor a b)) H) : W2 prog w B d (binaryOp .BitXor) (.int a) (.int b) H Q := w2_int (fun _ _ _ _ _ _ h => xor_int h) q
theorem w_neg (q : Q (.int (-a)) H) : W1 prog w B d (unaryOp .USub) (.int a) H Q := by
  intro ρ s x hs hx A E r
  cases hx
  exact neg_int (fin hs (fun _ _ e => e) (.int _ _) q)
theorem w_eq (q : Q (.bool (a == b)) H) : W2 prog w B d (compareOp .Eq) (.int a) (.int b) H Q := w2_intb (fun _ _ _ _ _ _ h => eq_int h) q
theorem w_ne (q : Q (.bool (a != b)) H) : W2 prog w B d (compareOp .NotEq) (.int a) (.int b) H Q := w2_intb (fun _ _ _ _ _ _ h => ne_int h) q
theorem w_lt (q : Q (.bool (decide (a < b))) H) : W2 prog w B d (compareOp .Lt) (.int a) (.int b) H Q := w2_intb (fun _ _ _ _ _ _ h => lt_int h) q
theorem w_gt (q : Q (.bool (decide (a > b))) H) : W2 prog w B d (compareOp .Gt) (.int a) (.int b) H Q := w2_intb (fun _ _ _ _ _ _ h => gt_int h) q
theorem w_ge (q : Q (.bool (decide (a ≥ b))) H) : W2 prog w B d (compareOp .GtE) (.int a) (.int b) H Q := w2_intb (fun _ _ _ _ _ _ h => ge_int h) q
theorem w_eqs (q : Q (.bool (x == y)) H) : W2 prog w B d (compareOp .Eq) (.str x) (.str y) H Q := w2_strb (fun _ _ _ _ _ _ h => eq_str h) q
noncomputable def notVal : V → Bool
  | .val _ => false
  | _ => true
noncomputable def isNoneV : V → Bool
  | .none => true
  | _ => false
theorem none_plain {v : V} {ρ : List Addr} {h : Heap} {x : Value} (hv : VR ρ h v x) (n : notVal v = true) : plainIs x .none = true ∧ (x == Value.none) = isNoneV v := by
  cases hv <;> first | exact ⟨rfl, rfl⟩ | cases n
theorem w_is_none {v : V} (n : notVal v = true) (q : Q (.bool (isNoneV v)) H) : W2 prog w B d (compareOp .Is) v .none H Q := by
  intro ρ s x y hs hx hy A E r
  obtain ⟨h1, h2⟩ := none_plain hx n
  cases hy
  refine wpAny_is_plain h1 (fin hs (fun _ _ e => e) (v := .bool _) (.bool _) ?_)
  rw [h2]; exact q
theorem wtr_bool {b : Bool} {Q : Bool → List O → Prop} (q : Q b H) : WTr prog w B d (.bool b) H Q := by
  intro ρ s x hs hx A E r
  cases hx
  exact wpAny_truthy_bool (fin hs (fun _ _ e => e) rfl q)
/-- an own list, in the heap -/
theorem list_at {ρ : List Addr} {s : Shared} {n : Nat} {vs : List V} {x : Value} (hs : HS w.params B ρ H s) (hx : VR ρ s.heap (.ref n) x) (hn : H[n]? = some (.list vs)) :
    ∃ a items ep, x = .ref a ∧ ρ[n]? = some a ∧ s.heap.get? a = some (listObj items ep) ∧ VRs ρ s.heap vs items := by
  cases hx with
  | ref hr =>
    obtain ⟨items, ep, h1, h2⟩ := hs.hr.obj n _ _ hn hr
    exact ⟨_, items, ep, rfl, hr, h1, h2⟩
theorem isList_of {h : Heap} {a : Addr} {items : List Value} {ep : Nat} (e : h.get? a = some (listObj items ep)) : h.IsList a items.toArray := ⟨_, e, rfl, ep, rfl⟩

theorem w_tup_add {vs us : List V} (hl : vs.length + us.length ≤ 1000000) (q : Q (.tup (vs ++ us)) H) : W2 prog w B d (binaryOp .Add) (.tup vs) (.tup us) H Q := by
  intro ρ s x y hs hx hy A E r
  obtain ⟨t, xs, rfl, ho, hv⟩ := hx.tup_inv
  obtain ⟨t', ys, rfl, ho', hv'⟩ := hy.tup_inv
  have e : xs.toArray ++ ys.toArray = (xs ++ ys).toArray := by simp
  have l1 := hv.length
  have l2 := hv'.length
  by_cases hx : xs = []
  · subst hx
    obtain rfl : vs = [] := List.eq_nil_of_length_eq_zero (by simpa using l1.symm)
    exact concat_meets ⟨_, ho, rfl⟩ ⟨_, ho', rfl⟩ noFill_tuple_add seq_tuple_add PySem.F.slot_tuple_add PySem.F.entry_tuple_add (PySem.F.args_tuple_add_2 _ _)
      (tuple_addW0 t t' #[] ys.toArray 0 0 none none #[] #[] (by simp)) ⟨ho, ho', fin hs (fun _ _ e => e) (v := .tup us) (.tup ho' hv') q⟩
  · by_cases hy : ys = []
    · subst hy
      obtain rfl : us = [] := List.eq_nil_of_length_eq_zero (by simpa using l2.symm)
      exact concat_meets ⟨_, ho, rfl⟩ ⟨_, ho', rfl⟩ noFill_tuple_add seq_tuple_add PySem.F.slot_tuple_add PySem.F.entry_tuple_add (PySem.F.args_tuple_add_2 _ _)
        (tuple_addW1 t t' xs.toArray #[] 0 0 none none #[] #[] (by simpa using hx) (by simp)) ⟨ho, ho', fin hs (fun _ _ e => e) (v := .tup vs) (.tup ho hv) (by simpa using q)⟩
    · refine concat_meets ⟨_, ho, rfl⟩ ⟨_, ho', rfl⟩ noFill_tuple_add seq_tuple_add PySem.F.slot_tuple_add PySem.F.entry_tuple_add (PySem.F.args_tuple_add_2 _ _)
        (tuple_addW2 t t' xs.toArray ys.toArray 0 0 none none #[] #[] (by simpa using hx) (by simpa using hy) (by rw [List.size_toArray, List.size_toArray, sizeLine_eq]; walk_at "om")) ⟨ho, ho', ?_⟩
      rw [e]
      have k : ∀ b o, s.heap.get? b = some o → (s.heap.push (tupObj (xs ++ ys))).get? b = some o := fun b o e => Heap.get?_push_of_some _ e
      exact fin hs (s' := { s with heap := s.heap.push (tupObj (xs ++ ys)) }) k (v := .tup (vs ++ us)) (.tup (Heap.get?_push_size _ rfl) ((hv.append hv').mono ⟨[], by simp⟩ (.of k))) q

theorem rep_one {α : Type} (x : α) : ∀ n : Nat, List.foldl (fun x1 x2 => x1 ++ x2) #[] (List.replicate n #[x]) = (List.replicate n x).toArray := by
  have : ∀ (n : Nat) (acc : Array α), List.foldl (fun x1 x2 => x1 ++ x2) acc (List.replicate n #[x]) = acc ++ (List.replicate n x).toArray := by
    intro n
    induction n with
    | zero => intro acc; simp
    | succ n ih =>
      intro acc
      rw [List.replicate_succ, List.foldl_cons, ih, List.replicate_succ]
      apply Array.toList_inj.mp
      simp
  intro n
  rw [this]; simp
theorem VRs.rep {ρ : List Addr} {h : Heap} {v : V} {x : Value} (hv : VR ρ h v x) : ∀ n : Nat, VRs ρ h (List.replicate n v) (List.replicate n x)
  | 0 => .nil
  | n + 1 => .cons hv (VRs.rep hv n)
theorem w_list_mul {n : Nat} {v : V} {k : Int} (h1 : H[n]? = some (.list [v])) (h0 : 0 ≤ k) (hk : k ≤ 1000000) (q : Q (.ref H.length) (H ++ [.list (List.replicate k.toNat v)])) : W2 prog w B d (binaryOp .Mult) (.ref n) (.int k) H Q := by
  intro ρ s x y hs hx hy A E r
  obtain ⟨a, items, ep, rfl, ha, g1, g2⟩ := list_at hs hx h1
  cases hy with
  | int _ u =>
    cases g2 with
    | cons g3 g4 =>
      cases g4
      rename_i x
      refine wpAny_binaryOp_repeat_ref (T := "list") (U := "int") (by decide) ⟨_, g1, rfl⟩ (fun s' => typeIs_int s' k u) noFill_list_mul F.fills_int_mul F.slot_int_rmul repeat_list F.slot_int_index.lookup
        (call_meets F.slot_int_rmul (typeIs_int s k u) F.entry_int_rmul (F.args_int_rmul_2 _ _) (int___rmul___int_list k u a #[x] ep)
          ⟨g1, rfl, ⟨_, g1, rfl⟩, call_meets F.slot_list_mul ⟨_, g1, rfl⟩ F.entry_list_mul (F.args_list_mul_2 _ _)
            (AutoListH.list___mul___list_int_3 a #[x] ep k u (by simp [Builtin.List.listFitsIndex]; walk_at "om") (by simp; walk_at "om") (by simp [Builtin.List.listTooLong, sizeLine]; walk_at "om"))
            ⟨g1, ?_⟩⟩)
      obtain ⟨z1, z2, z3⟩ := new_list (ep := 0) hs (VRs.rep g3 k.toNat)
      have e : s.heap.push { cls := .type "list", data := Data.seq (List.foldl (fun x1 x2 => x1 ++ x2) #[] (List.replicate (if (#[x] : Array Value).isEmpty = true then 0 else k.toNat) #[x])) } = s.heap.push (listObj (List.replicate k.toNat x) 0) := by
        rw [show (#[x] : Array Value).isEmpty = false from rfl]
        simp only [Bool.false_eq_true, if_false]
        rw [rep_one]
      refine (show (fun h' => ∃ v H' ρ', VR ρ' h' v (.ref s.heap.objs.size) ∧ HS w.params B ρ' H' { s with heap := h' } ∧ Ext ρ s ρ' { s with heap := h' } ∧ Q v H') (s.heap.push { cls := .type "list", data := Data.seq (List.foldl (fun x1 x2 => x1 ++ x2) #[] (List.replicate (if (#[x] : Array Value).isEmpty = true then 0 else k.toNat) #[x])) }) from ?_)
      rw [e]
      exact ⟨.ref H.length, _, _, .ref z3, z1, z2, q⟩
end
theorem mapSeq_at {h : Heap} {a : Addr} {items items' : List Value} {ep : Nat} {f : Array Value → Array Value} (e : h.get? a = some (listObj items ep)) (hf : f items.toArray = items'.toArray) :
    ∃ ep', (h.update a (Obj.mapSeq f)).get? a = some (listObj items' ep') := by
  have q : IsL h a items.toArray ep := e
  have := PySem.IsL.update q f
  rw [hf] at this
  exact ⟨_, this⟩

section
variable {prog : Program} {w : World} {B : Heap} {names : Names} {vals : Vals} {d : Nat} {H : List O} {Q : V → List O → Prop}

theorem put_list {ρ : List Addr} {s : Shared} {n : Nat} {a : Addr} {items items' : List Value} {ep : Nat} {vs' : List V} {f : Array Value → Array Value} {tk : Nat} (hs : HS w.params B ρ H s) (ha : ρ[n]? = some a) (e : s.heap.get? a = some (listObj items ep)) (hf : f items.toArray = items'.toArray) (hv : VRs ρ s.heap vs' items') :
    HS w.params B ρ (H.set n (.list vs')) { s with heap := s.heap.update a (Obj.mapSeq f), toks := tk } ∧ Ext ρ s ρ { s with heap := s.heap.update a (Obj.mapSeq f), toks := tk } := by
  obtain ⟨ep', e'⟩ := mapSeq_at e hf
  have k : ∀ b, b ≠ a → (s.heap.update a (Obj.mapSeq f)).get? b = s.heap.get? b := fun b hb => Heap.get?_update_other _ _ (fun q => hb q.symm)
  have x : Ext ρ s ρ { s with heap := s.heap.update a (Obj.mapSeq f), toks := tk } := .put (s' := { s with heap := s.heap.update a (Obj.mapSeq f), toks := tk }) hs.hr ha k e' rfl rfl
  exact ⟨hs.put (s' := { s with heap := s.heap.update a (Obj.mapSeq f), toks := tk }) ha k ⟨items', ep', e', x.vrs hv⟩, x⟩

theorem methV_list {n : Nat} {vs : List V} {name : Str} {id : String} (slot : Slot "list" name id) (ty : typeOf (.builtin id) = pure (.type "method_descriptor")) (hn : H[n]? = some (.list vs)) : MethV prog w B d name (.ref n) H (.builtin id) [.ref n] := by
  intro ρ s x pl A E Q hs hx r q
  obtain ⟨a, items, ep, rfl, ha, g1, g2⟩ := list_at hs hx hn
  exact getMethod_builtin (T := "list") ⟨_, g1, rfl⟩ PySem.F.plainAttrs_list slot ty (fun b e => by cases e; exact ⟨_, g1, rfl⟩) (q [.ref a] (.cons hx .nil))

theorem c_append {n : Nat} {vs : List V} {v : V} (hn : H[n]? = some (.list vs)) (hl : vs.length ≤ 1000000) (q : Q .none (H.set n (.list (vs ++ [v])))) : CalV prog w B d (.val (.builtin "list.append")) [.ref n, v] H Q := by
  refine ⟨_, rfl, fun h _ => keep_builtin h, fun ρ s xs hs hv A E r => ?_⟩
  cases hv with
  | cons h1 h2 =>
    cases h2 with
    | cons h2 h3 =>
      cases h3
      obtain ⟨a, items, ep, rfl, ha, g1, g2⟩ := list_at hs h1 hn
      rename_i x
      have l1 := g2.length
      refine call_meets slot_list_append (T := "list") ⟨_, g1, rfl⟩ entry_list_append (args_list_append _ _) (AutoListH.list_append_list_val_0 a items.toArray ep x (by rw [List.size_toArray, sizeLine_eq]; walk_at "om")) ⟨g1, ?_⟩
      obtain ⟨z1, z2⟩ := put_list (f := fun y => y.push x) (items' := items ++ [x]) (tk := s.toks) hs ha g1 (by simp) (g2.append (.cons h2 .nil))
      exact ⟨.none, _, ρ, .none, z1, z2, q⟩
theorem c_extend_tup {n : Nat} {vs us : List V} (hn : H[n]? = some (.list vs)) (hl : vs.length + us.length ≤ 1000000) (q : Q .none (H.set n (.list (vs ++ us)))) : CalV prog w B d (.val (.builtin "list.extend")) [.ref n, .tup us] H Q := by
  refine ⟨_, rfl, fun h _ => keep_builtin h, fun ρ s xs hs hv A E r => ?_⟩
  cases hv with
  | cons h1 h2 =>
    cases h2 with
    | cons h2 h3 =>
      cases h3
      obtain ⟨a, items, ep, rfl, ha, g1, g2⟩ := list_at hs h1 hn
      obtain ⟨b, items2, rfl, g3, g4⟩ := h2.tup_inv
      have l1 := g2.length
      have l2 := g4.length
      refine call_meets PySem.F.slot_list_extend (T := "list") ⟨_, g1, rfl⟩ PySem.F.entry_list_extend (PySem.F.args_list_extend_2 _ _) (AutoSeq1.list_extend_list_tuple_0 a items.toArray ep b items2.toArray 0 ?_ ?_ ?_) ⟨g1, g3, ?_⟩
      · simp [Builtin.List.listTooLong, sizeLine]; walk_at "om"
      · rw [List.size_toArray, sizeLine_eq]; walk_at "om"
      · rw [List.size_toArray, List.size_toArray, sizeLine_eq]; walk_at "om"
      obtain ⟨z1, z2⟩ := put_list (f := fun y => y ++ items2.toArray) (items' := items ++ items2) (tk := s.toks) hs ha g1 (by simp) (g2.append g4)
      exact ⟨.none, _, ρ, .none, z1, z2, q⟩
theorem erase_arr (items : List Value) (k : Nat) : items.toArray.eraseIdxIfInBounds k = (items.eraseIdx k).toArray := by
  apply Array.toList_inj.mp
  simp
theorem VRs.erase {ρ : List Addr} {h : Heap} : ∀ {vs : List V} {xs : List Value} (i : Nat), VRs ρ h vs xs → VRs ρ h (vs.eraseIdx i) (xs.eraseIdx i)
  | _, _, _, .nil => .nil
  | _, _, 0, .cons _ r => r
  | _, _, i + 1, .cons a r => .cons a (VRs.erase i r)
theorem c_pop {n : Nat} {vs : List V} {v : V} (hn : H[n]? = some (.list vs)) (hv : vs.getLast? = some v) (hl : vs.length ≤ 1000000) (q : Q v (H.set n (.list vs.dropLast))) : CalV prog w B d (.val (.builtin "list.pop")) [.ref n] H Q := by
  refine ⟨_, rfl, fun h _ => keep_builtin h, fun ρ s xs hs hv' A E r => ?_⟩
  cases hv' with
  | cons h1 h2 =>
    cases h2
    obtain ⟨a, items, ep, rfl, ha, g1, g2⟩ := list_at hs h1 hn
    have l1 := g2.length
    rw [List.getLast?_eq_getElem?] at hv
    obtain ⟨x, hx, vx⟩ := g2.get hv
    refine call_meets PySem.F.slot_list_pop (T := "list") ⟨_, g1, rfl⟩ PySem.F.entry_list_pop (PySem.F.args_list_pop_1 _) (MeetsSeq.list_pop_last a items.toArray ep x (by simpa [l1] using hx) (by rw [List.size_toArray, sizeLine_eq]; walk_at "om")) ⟨g1, ?_⟩
    obtain ⟨z1, z2⟩ := put_list (f := fun xs => xs.eraseIdxIfInBounds (items.toArray.size - 1)) (items' := items.eraseIdx (vs.length - 1)) (vs' := vs.eraseIdx (vs.length - 1)) (tk := s.toks) hs ha g1 (by rw [erase_arr, List.size_toArray, l1]) (g2.erase _)
    rw [List.eraseIdx_length_sub_one] at z1
    exact ⟨v, _, ρ, z2.vr vx, z1, z2, q⟩
/-- items -/
noncomputable def WItem (prog : Program) (w : World) (B : Heap) (d : Nat) (a b : V) (H : List O) (Q : V → List O → Prop) : Prop :=
  ∀ ρ s x y, HS w.params B ρ H s → VR ρ s.heap a x → VR ρ s.heap b y → (∃ T id, s.TypeIs x T ∧ typeLookup (.type T) "__getitem__" = pure (some (.builtin id))) ∧ WT prog w B VR d (getItem x y) ρ s Q
theorem subscripted_ops (slice : PySem.Expr) (o i : Value) : ∃ ops, subscripted slice false o i = operate ops (getItem o i) := by
  cases slice with
  | Slice lo hi st _ => cases st <;> exact ⟨_, rfl⟩
  | _ => exact ⟨_, rfl⟩
theorem ev_Sub {value slice : PySem.Expr} {pos : Pos} (h : EvE prog w B names d value vals H fun a H₁ => EvE prog w B names d slice vals H₁ fun b H₂ => WItem prog w B d a b H₂ Q) : EvE prog w B names d (.Subscript value slice pos) vals H Q := by
  constructor
  intro env ρ s sr A E r
  refine Subscript_ (h.go sr r fun a x H₁ ρ₁ s₁ va sr₁ e₁ h₁ => h₁.go sr₁ r fun b y H₂ ρ₂ s₂ vb sr₂ e₂ h₂ => ?_)
  obtain ⟨⟨T, id, hT, hl⟩, ht⟩ := h₂ ρ₂ s₂ x y sr₂.hs (e₂.vr va) vb
  obtain ⟨ops, ho⟩ := subscripted_ops slice x y
  exact tail_any hT hl (ht.at (e₁.trans e₂) r fun _ _ q => q) ho
theorem i_list {n : Nat} {vs : List V} {v : V} {k : Int} (hn : H[n]? = some (.list vs)) (h0 : 0 ≤ k) (hk : k < 2 ^ 63) (hv : vs[k.toNat]? = some v) (q : Q v H) : WItem prog w B d (.ref n) (.int k) H Q := by
  intro ρ s x y hs hx hy
  obtain ⟨a, items, ep, rfl, ha, g1, g2⟩ := list_at hs hx hn
  obtain ⟨x, hx, vx⟩ := g2.get hv
  refine ⟨⟨"list", _, ⟨_, g1, rfl⟩, slot_list_getitem.lookup⟩, fun A E r => ?_⟩
  cases hy
  exact wpAny_getItem_list (isList_of g1) h0 hk (by simpa using hx) (fin hs (fun _ _ e => e) vx q)
theorem i_list_neg {n : Nat} {vs : List V} {v : V} {k : Int} (hn : H[n]? = some (.list vs)) (h0 : k < 0) (h1 : -(vs.length : Int) ≤ k) (hk : -2 ^ 63 ≤ k) (hv : vs[(k + vs.length).toNat]? = some v) (q : Q v H) : WItem prog w B d (.ref n) (.int k) H Q := by
  intro ρ s x y hs hx hy
  obtain ⟨a, items, ep, rfl, ha, g1, g2⟩ := list_at hs hx hn
  obtain ⟨x, hx, vx⟩ := g2.get hv
  have l1 := g2.length
  refine ⟨⟨"list", _, ⟨_, g1, rfl⟩, slot_list_getitem.lookup⟩, fun A E r => ?_⟩
  cases hy
  exact wpAny_getItem_list_neg (isList_of g1) h0 (by rw [List.size_toArray, l1]; exact h1) hk (by rw [List.size_toArray, l1]; simpa using hx) (fin hs (fun _ _ e => e) vx q)
theorem i_tup {vs : List V} {v : V} {k : Int} (h0 : 0 ≤ k) (hk : k < 2 ^ 63) (hv : vs[k.toNat]? = some v) (q : Q v H) : WItem prog w B d (.tup vs) (.int k) H Q := by
  intro ρ s x y hs hx hy
  obtain ⟨t, items, rfl, g1, g2⟩ := hx.tup_inv
  obtain ⟨x, hx, vx⟩ := g2.get hv
  have l1 := g2.length
  have hlt := (List.getElem?_eq_some_iff.mp hv).1
  refine ⟨⟨"tuple", _, ⟨_, g1, rfl⟩, PySem.F.slot_tuple_getitem.lookup⟩, fun A E r => ?_⟩
  cases hy
  refine PySem.P.getItem_tuple (items := items.toArray) (n := 0) (k := k.toNat) g1 (by walk_at "om") hk ?_ (by simpa using hx) (fin hs (fun _ _ e => e) vx q)
  simp only [seqIndex?, List.size_toArray, l1]
  rw [if_neg (by walk_at "om" : ¬ k < 0), if_pos (by simp only [Bool.and_eq_true, decide_eq_true_eq]; walk_at "om")]

/-- length, range, min, int, tuple, list -/
theorem c_len_list {n : Nat} {vs : List V} (hn : H[n]? = some (.list vs)) (hl : vs.length ≤ 1000000) (q : Q (.int vs.length) H) : CalV prog w B d (.val (.builtin "len")) [.ref n] H Q := by
  refine ⟨_, rfl, fun h _ => keep_builtin h, fun ρ s xs hs hv A E r => ?_⟩
  cases hv with
  | cons h1 h2 =>
    cases h2
    obtain ⟨a, items, ep, rfl, ha, g1, g2⟩ := list_at hs h1 hn
    have l1 := g2.length
    refine call_len_list (isList_of g1) (by rw [List.size_toArray]; walk_at "om") ?_
    rw [List.size_toArray, l1]
    exact fin hs (fun _ _ e => e) (v := .int _) (.int _ _) q
theorem c_range {n : Int} (q : Q (.rng n) H) : CalV prog w B d (.val (.type "range")) [.int n] H Q := by
  refine ⟨_, rfl, fun h _ => keep_type h, fun ρ s xs hs hv A E r => ?_⟩
  cases hv with
  | cons h1 h2 =>
    cases h2
    cases h1
    exact call_range_1 (fin hs (fun b o e => Heap.get?_push_of_some _ e) (v := .rng n) (.rng (Heap.get?_push_size _ rfl)) q)
theorem c_min {a b : Int} (q : Q (.int (if b < a then b else a)) H) : CalV prog w B d (.val (.builtin "min")) [.int a, .int b] H Q := by
  refine ⟨_, rfl, fun h _ => keep_builtin h, fun ρ s xs hs hv A E r => ?_⟩
  cases hv with
  | cons h1 h2 =>
    cases h2 with
    | cons h2 h3 =>
      cases h3; cases h1; cases h2
      refine min_two_ints r.hand fun h' tk k => fin hs k (v := .int _) ?_ q
      split <;> exact .int _ _
theorem c_max {a b : Int} (q : Q (.int (if b > a then b else a)) H) : CalV prog w B d (.val (.builtin "max")) [.int a, .int b] H Q := by
  refine ⟨_, rfl, fun h _ => keep_builtin h, fun ρ s xs hs hv A E r => ?_⟩
  cases hv with
  | cons h1 h2 =>
    cases h2 with
    | cons h2 h3 =>
      cases h3; cases h1; cases h2
      refine max_two_ints r.hand fun h' tk k => fin hs k (v := .int _) ?_ q
      split <;> exact .int _ _
theorem c_tup_tup {vs : List V} (q : Q (.tup vs) H) : CalV prog w B d (.val (.type "tuple")) [.tup vs] H Q := by
  refine ⟨_, rfl, fun h _ => keep_type h, fun ρ s xs hs hv A E r => ?_⟩
  cases hv with
  | cons h1 h2 =>
    cases h2
    obtain ⟨t, items, rfl, g1, g2⟩ := h1.tup_inv
    exact call_tuple_same (isTuple_of g1) (fin hs (fun _ _ e => e) (v := .tup vs) (.tup g1 g2) q)
theorem c_list_list {n : Nat} {vs : List V} (hn : H[n]? = some (.list vs)) (hl : vs.length ≤ 1000000) (q : Q (.ref H.length) (H ++ [.list vs])) : CalV prog w B d (.val (.type "list")) [.ref n] H Q := by
  refine ⟨_, rfl, fun h _ => keep_type h, fun ρ s xs hs hv A E r => ?_⟩
  cases hv with
  | cons h1 h2 =>
    cases h2
    obtain ⟨a, items, ep, rfl, ha, g1, g2⟩ := list_at hs h1 hn
    have l1 := g2.length
    refine call_list_seq (T := "list") a (.inl rfl) g1 rfl rfl (fun h' c' k hn => ?_) (by rw [List.size_toArray, sizeLine_eq]; walk_at "om")
    refine ⟨.ref H.length, H ++ [.list vs], ρ ++ [s.heap.objs.size], .ref ?_, hs.more (o := .list vs) (s' := { s with heap := h' }) k (get_end _) ⟨items, c', hn, g2.mono ⟨_, rfl⟩ (.of k)⟩, .more (s' := { s with heap := h' }) k (get_end _) rfl rfl, q⟩
    rw [← hs.hr.len, List.getElem?_append_right (Nat.le_refl _), Nat.sub_self]; rfl
end
noncomputable def KI.draws : KI → Nat
  | .t l => l.length + 1
  | _ => 1
noncomputable def drawsOf (k : List KI) : Nat := (k.map KI.draws).sum
noncomputable def KI.enc : KI → PyData
  | .i n => .int n
  | .s x => .str x
  | .t l => .tuple (l.map .int)
noncomputable def encK (k : List KI) : PyData := .tuple (k.map KI.enc)

section
variable {ρ : List Addr} {h : Heap}
theorem ints_inj : ∀ {l m : List Int} {xs : List Value}, VRs ρ h (l.map .int) xs → VRs ρ h (m.map .int) xs → l = m
  | [], [], _, _, _ => rfl
  | [], _ :: _, _, a, b => by cases a; cases b
  | _ :: _, [], _, a, b => by cases a; cases b
  | x :: l, y :: m, _, a, b => by
    cases a with
    | cons a1 a2 =>
      cases b with
      | cons b1 b2 => cases a1; cases b1; rw [ints_inj a2 b2]
theorem ki_inj {k k' : KI} {x : Value} (a : VR ρ h k.v x) (b : VR ρ h k'.v x) : k = k' := by
  cases k with
  | i n =>
    cases k' with
    | i m => cases a; cases b; rfl
    | s y => cases a; cases b
    | t l => cases a; cases b
  | s y =>
    cases k' with
    | i m => cases a; cases b
    | s z => cases a; cases b; rfl
    | t l => cases a; cases b
  | t l =>
    cases k' with
    | i m => cases a; cases b
    | s z => cases a; cases b
    | t m =>
      obtain ⟨t, xs, rfl, h1, h2⟩ := VR.tup_inv a
      obtain ⟨t', xs', e, h1', h2'⟩ := VR.tup_inv b
      cases e
      rw [h1] at h1'
      simp only [tupObj, Option.some.injEq, Obj.mk.injEq, Data.seq.injEq, true_and, and_true, Array.mk.injEq] at h1'
      obtain rfl : xs = xs' := by simpa using h1'
      rw [ints_inj h2 h2']
theorem kis_inj : ∀ {k k' : List KI} {xs : List Value}, VRs ρ h (k.map KI.v) xs → VRs ρ h (k'.map KI.v) xs → k = k'
  | [], [], _, _, _ => rfl
  | [], _ :: _, _, a, b => by cases a; cases b
  | _ :: _, [], _, a, b => by cases a; cases b
  | x :: l, y :: m, _, a, b => by
    cases a with
    | cons a1 a2 =>
      cases b with
      | cons b1 b2 => rw [ki_inj a1 b1, kis_inj a2 b2]
theorem keyV_inj {k k' : List KI} {x : Value} (a : VR ρ h (keyV k) x) (b : VR ρ h (keyV k') x) : k = k' := by
  obtain ⟨t, xs, rfl, h1, h2⟩ := VR.tup_inv a
  obtain ⟨t', xs', e, h1', h2'⟩ := VR.tup_inv b
  cases e
  rw [h1] at h1'
  simp only [tupObj, Option.some.injEq, Obj.mk.injEq, Data.seq.injEq, true_and, and_true, Array.mk.injEq] at h1'
  obtain rfl : xs = xs' := by simpa using h1'
  exact kis_inj h2 h2'
theorem ints_nil : ∀ {l : List Int} {xs : List Value}, VRs ρ h (l.map .int) xs → VRs [] h (l.map .int) xs
  | [], _, a => by cases a; exact .nil
  | x :: l, _, a => by
    cases a with
    | cons a1 a2 => cases a1; exact .cons (.int _ _) (ints_nil a2)
theorem ki_nil {k : KI} {x : Value} (a : VR ρ h k.v x) : VR [] h k.v x := by
  cases k with
  | i n => cases a; exact .int _ _
  | s y => cases a; exact .str _ _
  | t l => obtain ⟨t, xs, rfl, h1, h2⟩ := VR.tup_inv a; exact .tup h1 (ints_nil h2)
theorem kis_nil : ∀ {k : List KI} {xs : List Value}, VRs ρ h (k.map KI.v) xs → VRs [] h (k.map KI.v) xs
  | [], _, a => by cases a; exact .nil
  | x :: l, _, a => by
    cases a with
    | cons a1 a2 => exact .cons (ki_nil a1) (kis_nil a2)
theorem keyV_nil {k : List KI} {x : Value} (a : VR ρ h (keyV k) x) : VR [] h (keyV k) x := by
  obtain ⟨t, xs, rfl, h1, h2⟩ := VR.tup_inv a
  exact .tup h1 (kis_nil h2)
theorem VR.up {v : V} {x : Value} (a : VR [] h v x) : VR ρ h v x := a.mono ⟨ρ, rfl⟩ (.of fun _ _ e => e)

theorem ints_items (prog : Program) (w : World) : ∀ {l : List Int} {xs : List Value}, VRs ρ h (l.map .int) xs → ItemsAre (intKind prog w) l xs
  | [], _, a => by cases a; exact .nil
  | x :: l, _, a => by
    cases a with
    | cons a1 a2 => cases a1; exact .cons (intKind_is prog w _ _) (ints_items prog w a2)
theorem tup_key (prog : Program) (w : World) {l : List Int} {a : Addr} (x : VR ρ h (.tup (l.map .int)) (.ref a)) : IsTupleKey (intKind prog w) h l a := by
  obtain ⟨t, xs, e, h1, h2⟩ := VR.tup_inv x
  cases e
  exact ⟨_, _, _, h1, rfl, rfl, ints_items prog w h2⟩
theorem ints_reads : ∀ {l : List Int} {xs : List Value}, VRs ρ h (l.map .int) xs → ReadsAll h xs (l.map .int) []
  | [], _, a => by cases a; exact .nil
  | x :: l, _, a => by
    cases a with
    | cons a1 a2 => cases a1; exact .cons (as := []) (.int _ _) (ints_reads a2)
theorem ki_reads {k : KI} {x : Value} (a : VR ρ h k.v x) : Reads h x k.enc [] := by
  cases k with
  | i n => cases a; exact .int _ _
  | s y => cases a; exact .str _ _
  | t l => obtain ⟨t, xs, rfl, h1, h2⟩ := VR.tup_inv a; exact .tuple h1 rfl rfl (ints_reads h2)
theorem kis_reads : ∀ {k : List KI} {xs : List Value}, VRs ρ h (k.map KI.v) xs → ReadsAll h xs (k.map KI.enc) []
  | [], _, a => by cases a; exact .nil
  | x :: l, _, a => by
    cases a with
    | cons a1 a2 => exact .cons (as := []) (ki_reads a1) (kis_reads a2)
theorem keyV_reads {k : List KI} {x : Value} (a : VR ρ h (keyV k) x) : Reads h x (encK k) [] := by
  obtain ⟨t, xs, rfl, h1, h2⟩ := VR.tup_inv a
  exact .tuple h1 rfl rfl (kis_reads h2)
end

theorem eqv_ints : ∀ l m : List Int, PyData.eqvAll (l.map .int) (m.map .int) = decide (l = m)
  | [], [] => by simp [PyData.eqvAll]
  | [], _ :: _ => by simp [PyData.eqvAll]
  | _ :: _, [] => by simp [PyData.eqvAll]
  | x :: l, y :: m => by
    rw [List.map_cons, List.map_cons, PyData.eqvAll, eqv_ints l m, PyData.eqv]
    by_cases h1 : x = y <;> by_cases h2 : l = m <;> simp [h1, h2]
theorem eqv_ki (a b : KI) : PyData.eqv a.enc b.enc = decide (a = b) := by
  cases a <;> cases b <;> simp only [KI.enc, PyData.eqv, eqv_ints] <;> simp <;> (try exact Bool.eq_iff_iff.mpr (by simp))
theorem eqv_kis : ∀ l m : List KI, PyData.eqvAll (l.map KI.enc) (m.map KI.enc) = decide (l = m)
  | [], [] => by simp [PyData.eqvAll]
  | [], _ :: _ => by simp [PyData.eqvAll]
  | _ :: _, [] => by simp [PyData.eqvAll]
  | x :: l, y :: m => by
    rw [List.map_cons, List.map_cons, PyData.eqvAll, eqv_kis l m, eqv_ki]
    by_cases h1 : x = y <;> by_cases h2 : l = m <;> simp [h1, h2]
theorem eqv_key (a b : List KI) : PyData.eqv (encK a) (encK b) = decide (a = b) := by rw [encK, encK, PyData.eqv]; exact eqv_kis a b
theorem lay_ints : ∀ l : List Int, PyData.canLayAll0 (l.map .int) = true
  | [] => rfl
  | x :: l => by rw [List.map_cons, PyData.canLayAll0, lay_ints l]; rfl
theorem lay_kis : ∀ l : List KI, keyOk l = true → PyData.canLayAll0 (l.map KI.enc) = true
  | [], _ => rfl
  | x :: l, h => by
    rw [keyOk, List.all_cons, Bool.and_eq_true] at h
    rw [List.map_cons, PyData.canLayAll0, lay_kis l h.2]
    cases x with
    | i n => rfl
    | s y => show (PyData.strOk y && true) = true; rw [show PyData.strOk y = true from h.1]; rfl
    | t m => show (PyData.canLayAll0 (m.map .int) && true) = true; rw [lay_ints]; rfl
theorem lay_key (k : List KI) (h : keyOk k = true) : PyData.canLay0 (encK k) = true := lay_kis k h
theorem depth_ints : ∀ l : List Int, PyData.depthAll (l.map .int) ≤ 1
  | [] => by simp [PyData.depthAll]
  | x :: l => by rw [List.map_cons, PyData.depthAll]; have := depth_ints l; simp only [PyData.depth]; walk_at "om"
theorem depth_kis : ∀ l : List KI, PyData.depthAll (l.map KI.enc) ≤ 2
  | [] => by simp [PyData.depthAll]
  | x :: l => by
    rw [List.map_cons, PyData.depthAll]
    have := depth_kis l
    cases x with
    | i n => simp only [KI.enc, PyData.depth]; walk_at "om"
    | s y => simp only [KI.enc, PyData.depth]; walk_at "om"
    | t m => have := depth_ints m; simp only [KI.enc, PyData.depth]; walk_at "om"
theorem depth_key (k : List KI) : (encK k).depth ≤ 3 := by have := depth_kis k; show PyData.depthAll (k.map KI.enc) + 1 ≤ 3; walk_at "om"

noncomputable def isKey (h : Heap) (k : List KI) (a : Addr) : Prop := keyOk k = true ∧ VR [] h (keyV k) (.ref a)
theorem isKey.typeIs {s : Shared} {k : List KI} {a : Addr} (x : isKey s.heap k a) : s.TypeIs (.ref a) "tuple" := by
  obtain ⟨t, xs, e, h1, h2⟩ := VR.tup_inv x.2
  cases e
  exact ⟨_, h1, rfl⟩

section
variable {prog : Program} {w : World} {A : Around} {E : Value → Shared → Prop} {s : Shared}
theorem ki_hash {k : KI} {x : Value} {Q : Int → Shared → Prop} (hu : A.units < cLine) (a : VR [] s.heap k.v x) (h : Q (k.hash w.params) { s with toks := s.toks + k.draws }) : wpAny (model prog w) A (pyHash x) Q E s := by
  cases k with
  | i n => cases a; exact wpAny_pyHash_int h
  | s y => cases a; exact wpAny_pyHash_str h
  | t l =>
    obtain ⟨t, xs, rfl, h1, h2⟩ := VR.tup_inv a
    exact wpAny_pyHash_tuple (knd := intKind prog w) hu (tup_key prog w a) h
theorem key_hash {ks : List KI} {a : Addr} {Q : Int → Shared → Prop} (hu : A.units + 8 < cLine) (hk : isKey s.heap ks a) (h : Q (hashK w.params ks) { s with toks := s.toks + (drawsOf ks + 1) }) :
    wpAny (model prog w) A (pyHash (.ref a)) Q E s := by
  have hT := hk.typeIs
  obtain ⟨t, items, e, ho, hi⟩ := VR.tup_inv hk.2
  cases e
  unfold pyHash
  first | unfold pyHashByItsType | skip
  first | refine wpAny_bind (wpAny_cRoomFor_or (.inr (by walk_at "om")) ?_) | skip
  refine wpAny_bind (wpAny_specialOf hT F.slot_tuple_hash.lookup ?_)
  show wpAny _ _ (if (some (Value.builtin "tuple.__hash__") == some Value.none) = true then _ else _) Q E s
  rw [if_neg (by rw [beq_builtin_none]; exact Bool.false_ne_true)]
  refine wpAny_bind (wpAny_specialOf hT F.slot_tuple_hash.lookup ?_)
  show wpAny _ _ (callSpecialIfBoundUnlessNone? (.ref a) "__hash__" _ >>= _) Q E s
  refine wpAny_bind (wpAny_callSpecialIfBoundUnlessNone?_slot hT F.slot_tuple_hash (wpAny_call_entry F.slot_tuple_hash hT F.entry_tuple_hash ?_ (F.args_tuple_hash_1 _)))
  show wpAny _ _ (Builtin.Tuple.tupleItemsOf (.ref a) >>= _) _ _ s
  refine wpAny_bind (wpAny_tupleItemsOf ho rfl ?_)
  refine wpAny_bind ?_
  rw [← Array.forIn_toList]
  refine wpAny_forIn_list _
    (fun rest (b : Array Int) s' => ∃ done left, ks = done ++ left ∧ VRs [] s.heap (left.map KI.v) rest ∧ b.toList = done.map (KI.hash w.params) ∧ s' = { s with toks := s.toks + drawsOf done })
    _ ?_ ?_ _ _ ⟨[], ks, rfl, hi, rfl, rfl⟩
  · rintro x rest b s' ⟨done, left, rfl, hl, hb, rfl⟩
    cases left with
    | nil => cases hl
    | cons k left =>
      cases hl with
      | cons h1 hl' =>
        refine wpAny_bind (ki_hash (k := k) (by show A.units + 1 < _; walk_at "om") h1 ?_)
        have ed : drawsOf (done ++ [k]) = drawsOf done + k.draws := by simp [drawsOf]
        first
          | exact wpAny_pure ⟨done ++ [k], left, by simp, hl', by simp [hb], by rw [ed, Nat.add_assoc]⟩
          | exact wpAny_bind (wpAny_pure (wpAny_pure ⟨done ++ [k], left, by simp, hl', by simp [hb], by rw [ed, Nat.add_assoc]⟩))
  · rintro b s' ⟨done, left, rfl, hl, hb, rfl⟩
    cases left with
    | cons => cases hl
    | nil =>
      rw [List.append_nil] at h
      show wpAny _ _ (retInt (Builtin.Tuple.tupleHashOf b.toList)) _ _ _
      rw [hb]
      refine wpAny_ret_mkInt ?_
      show wpAny _ _ (if (decide (-(2 : Int) ^ 63 ≤ Builtin.Tuple.tupleHashOf (done.map (KI.hash w.params))) && decide (Builtin.Tuple.tupleHashOf (done.map (KI.hash w.params)) < 2 ^ 63)) = true then _ else _) Q E _
      unfold hashK reduceHash at h
      by_cases hr : (decide (-(2 : Int) ^ 63 ≤ Builtin.Tuple.tupleHashOf (done.map (KI.hash w.params))) && decide (Builtin.Tuple.tupleHashOf (done.map (KI.hash w.params)) < 2 ^ 63)) = true
      · rw [if_pos hr]
        rw [if_pos hr] at h
        exact wpAny_pure (by simpa [Nat.add_assoc] using h)
      · rw [if_neg hr]
        rw [if_neg hr] at h
        exact wpAny_bind (wpAny_rule (wpAny_pure (by simpa [Nat.add_assoc] using h)))
theorem key_eq {x y : List KI} {a b : Addr} {Q : Bool → Shared → Prop} (hu : A.units + 8 < cLine) (hx : isKey s.heap x a) (hy : isKey s.heap y b) (h : Q (decide (x = y)) s) :
    wpAny (model prog w) A (eqBool (.ref a) (.ref b)) Q E s := by
  have d1 := depth_key x
  refine PySem.SeqAt.eqBoolOverData prog w A E s _ _ (encK x) (encK y) [] [] Q (keyV_reads hx.2) (keyV_reads hy.2) (lay_key _ hx.1) (lay_key _ hy.1) (by walk_at "om") ?_
  rw [eqv_key]; exact h
theorem quiet_ints (n : Nat) {l : List Int} {a : Addr} {Q : Bool → Shared → Prop} (hk : IsTupleKey (intKind prog w) s.heap l a) (h : Q true s) : wpAny (model prog w) A (eqIsQuiet (n + 1) (.ref a)) Q E s := by
  have hT := hk.typeIs
  obtain ⟨o, items, n, ho, _, hd, hi⟩ := hk
  unfold eqIsQuiet
  refine wpAny_bind (wpAny_specialOf hT F.slot_tuple_eq.lookup ?_)
  show wpAny _ _ (isInstance (.ref a) (.type "tuple") >>= _) _ _ s
  refine wpAny_bind (wpAny_isInstance hT isSubtype_tuple_tuple ?_)
  simp only [Bool.not_true, Bool.false_eq_true, if_false]
  refine wpAny_bind (wpAny_seqItems ho hd ?_)
  refine wpAny_bind ?_
  show wpAny _ _ (forIn items _ _) _ _ s
  rw [← Array.forIn_toList]
  refine wpAny_forIn_list _ (fun rest r s' => r.1 = none ∧ s' = s ∧ ∀ v ∈ rest, carriedByValue v = true) _ ?_ ?_ _ _ ⟨rfl, rfl, hi.byValue⟩
  · rintro v rest r s' ⟨hr, rfl, hall⟩
    rw [eqIsQuiet_byValue _ (hall v List.mem_cons_self)]
    refine wpAny_bind (wpAny_pure ?_)
    simp only [Bool.not_true, Bool.false_eq_true, if_false]
    exact wpAny_pure ⟨rfl, rfl, fun u hu' => hall u (List.mem_cons_of_mem _ hu')⟩
  · rintro ⟨r1, r2⟩ s' ⟨hr, rfl, _⟩
    simp only at hr
    subst hr
    exact wpAny_pure h
theorem quiet_ki (n : Nat) {k : KI} {x : Value} {Q : Bool → Shared → Prop} (a : VR [] s.heap k.v x) (h : Q true s) : wpAny (model prog w) A (eqIsQuiet (n + 1) x) Q E s := by
  cases k with
  | i m => cases a; rw [eqIsQuiet_byValue _ rfl]; exact wpAny_pure h
  | s y => cases a; rw [eqIsQuiet_byValue _ rfl]; exact wpAny_pure h
  | t l =>
    obtain ⟨t, xs, rfl, h1, h2⟩ := VR.tup_inv a
    exact quiet_ints n (tup_key prog w a) h
theorem key_quiet {ks : List KI} {a : Addr} {Q : Bool → Shared → Prop} (hk : isKey s.heap ks a) (h : Q true s) : wpAny (model prog w) A (eqIsQuiet 8 (.ref a)) Q E s := by
  have hT := hk.typeIs
  obtain ⟨t, items, e, ho, hi⟩ := VR.tup_inv hk.2
  cases e
  unfold eqIsQuiet
  refine wpAny_bind (wpAny_specialOf hT F.slot_tuple_eq.lookup ?_)
  show wpAny _ _ (isInstance (.ref a) (.type "tuple") >>= _) _ _ s
  refine wpAny_bind (wpAny_isInstance hT isSubtype_tuple_tuple ?_)
  simp only [Bool.not_true, Bool.false_eq_true, if_false]
  refine wpAny_bind (wpAny_seqItems ho rfl ?_)
  refine wpAny_bind ?_
  show wpAny _ _ (forIn items.toArray _ _) _ _ s
  rw [← Array.forIn_toList]
  refine wpAny_forIn_list _ (fun rest r s' => r.1 = none ∧ s' = s ∧ ∃ left : List KI, VRs [] s.heap (left.map KI.v) rest) _ ?_ ?_ _ _ ⟨rfl, rfl, ks, hi⟩
  · rintro v rest r s' ⟨hr, rfl, left, hl⟩
    cases left with
    | nil => cases hl
    | cons k left =>
      cases hl with
      | cons h1 hl' =>
        refine wpAny_bind (quiet_ki 6 h1 ?_)
        simp only [Bool.not_true, Bool.false_eq_true, if_false]
        exact wpAny_pure ⟨rfl, rfl, left, hl'⟩
  · rintro ⟨r1, r2⟩ s' ⟨hr, rfl, _⟩
    simp only at hr
    subst hr
    exact wpAny_pure h
end

noncomputable def keyKind (prog : Program) (w : World) : HeapKind prog w (List KI) where
  is := isKey
  hash := hashK w.params
  draws := fun k => drawsOf k + 1
  room := fun A => A.units + 8 < cLine
  inj := fun hx hy => keyV_inj hx.2 hy.2
  keeps := fun x ho hd hs => ⟨x.1, x.2.mono ⟨[], rfl⟩ (sameBut_tup hs ho (not_imm_dict hd))⟩
  pyHash := fun hu hk h => key_hash hu hk h
  eqBool := fun hu hx hy h => key_eq hu hx hy h
  quiet := fun hk h => key_quiet hk h
section
variable {K : Type} [DecidableEq K]
noncomputable def dget (es : List (K × V)) (k : K) : Option V := (es.find? fun kv => kv.1 = k).map (·.2)
noncomputable def dput (es : List (K × V)) (k : K) (v : V) : List (K × V) :=
  if es.any (fun kv => kv.1 = k) then es.map (fun kv => if kv.1 = k then (kv.1, v) else kv) else es ++ [(k, v)]
inductive PRs (ρ : List Addr) (h : Heap) : List (K × V) → List (K × Value) → Prop
  | nil : PRs ρ h [] []
  | cons {k : K} {v : V} {x : Value} {es : List (K × V)} {kvs : List (K × Value)} : VR ρ h v x → PRs ρ h es kvs → PRs ρ h ((k, v) :: es) ((k, x) :: kvs)
variable {ρ : List Addr} {h : Heap}
theorem PRs.keys {es : List (K × V)} {kvs : List (K × Value)} (r : PRs ρ h es kvs) : kvs.map (·.1) = es.map (·.1) := by
  induction r with
  | nil => rfl
  | cons _ _ ih => rw [List.map_cons, List.map_cons, ih]
theorem PRs.length {es : List (K × V)} {kvs : List (K × Value)} (r : PRs ρ h es kvs) : kvs.length = es.length := by
  have := congrArg List.length r.keys
  simpa using this
theorem PRs.mono {ρ' : List Addr} {h' : Heap} (hp : ∃ t, ρ' = ρ ++ t) (ht : TupKeep h h') {es : List (K × V)} {kvs : List (K × Value)} (r : PRs ρ h es kvs) : PRs ρ' h' es kvs := by
  induction r with
  | nil => exact .nil
  | cons a _ ih => exact .cons (a.mono hp ht) ih
theorem PRs.get {es : List (K × V)} {kvs : List (K × Value)} (r : PRs ρ h es kvs) (k : K) : (dget es k = none ∧ valueAt kvs k = none) ∨ ∃ v x, dget es k = some v ∧ valueAt kvs k = some x ∧ VR ρ h v x := by
  induction r with
  | nil => exact .inl ⟨rfl, rfl⟩
  | @cons k' v x es kvs a b ih =>
    by_cases e : k' = k
    · refine .inr ⟨v, x, ?_, ?_, a⟩ <;> simp [dget, valueAt, e]
    · have e1 : dget ((k', v) :: es) k = dget es k := by simp [dget, e]
      have e2 : valueAt ((k', x) :: kvs) k = valueAt kvs k := by simp [valueAt, e]
      rw [e1, e2]; exact ih
theorem PRs.any {es : List (K × V)} {kvs : List (K × Value)} (r : PRs ρ h es kvs) (k : K) : (kvs.any fun kv => decide (kv.1 = k)) = es.any fun kv => decide (kv.1 = k) := by
  induction r with
  | nil => rfl
  | cons a b ih => rw [List.any_cons, List.any_cons, ih]
theorem PRs.map {es : List (K × V)} {kvs : List (K × Value)} (r : PRs ρ h es kvs) {k : K} {v : V} {x : Value} (hv : VR ρ h v x) : PRs ρ h (es.map fun kv => if kv.1 = k then (kv.1, v) else kv) (kvs.map fun kv => if kv.1 = k then (kv.1, x) else kv) := by
  induction r with
  | nil => exact .nil
  | @cons k' v' x' es kvs a b ih =>
    rw [List.map_cons, List.map_cons]
    by_cases e : k' = k
    · simp only [e, if_true]; exact .cons hv (by subst e; exact ih)
    · simp only [e, if_false]; exact .cons a ih
theorem PRs.append {es es' : List (K × V)} {kvs kvs' : List (K × Value)} (r : PRs ρ h es kvs) (r' : PRs ρ h es' kvs') : PRs ρ h (es ++ es') (kvs ++ kvs') := by
  induction r with
  | nil => exact r'
  | cons a b ih => exact .cons a ih
theorem PRs.put {es : List (K × V)} {kvs : List (K × Value)} (r : PRs ρ h es kvs) {k : K} {v : V} {x : Value} (hv : VR ρ h v x) : PRs ρ h (dput es k v) (stored kvs k x) := by
  unfold dput stored
  rw [r.any]
  split
  · exact r.map hv
  · exact r.append (.cons hv .nil)
end

theorem of_exact {o : Obj} {es : Array DictEntry} {ep : Nat} (x : o.ExactDict) (hd : o.data = .dict es ep) : o = dictObj es.toList ep := by
  obtain ⟨c, d, dt, sl⟩ := o
  obtain ⟨h1, h2, h3⟩ := x
  simp only at h1 h2 h3 hd
  subst h1 h2 h3 hd
  simp [dictObj]

section
variable {ρ : List Addr} {h : Heap} (prog : Program) (w : World)
theorem irs_split : ∀ {es : List (Int × V)} {ds : List DictEntry}, IRs ρ h es ds → ∃ kvs : List (Int × Value), PRs ρ h es kvs ∧ Pairs (intKind prog w) ds kvs ∧ ∀ e ∈ ds, ∃ k, (intKind prog w).is k e.key = true ∧ e.hash = (intKind prog w).hash k
  | _, _, .nil => ⟨[], .nil, .nil, fun e he => nomatch he⟩
  | _, _, .cons (k := k) (e := e) a b c r => by
    obtain ⟨kvs, r1, r2, r3⟩ := irs_split r
    have z : (intKind prog w).is k e.key = true := by rw [b]; exact intKind_is prog w _ _
    refine ⟨(k, e.val) :: kvs, .cons c r1, .cons z rfl r2, fun e' he => ?_⟩
    rcases List.mem_cons.mp he with rfl | he
    · exact ⟨k, z, a⟩
    · exact r3 e' he
theorem irs_join : ∀ {es : List (Int × V)} {kvs : List (Int × Value)} {ds : List DictEntry}, PRs ρ h es kvs → Pairs (intKind prog w) ds kvs → (∀ e ∈ ds, ∃ k, (intKind prog w).is k e.key = true ∧ e.hash = (intKind prog w).hash k) → IRs ρ h es ds
  | _, _, _, .nil, .nil, _ => .nil
  | _, _, _, .cons a r, .cons (e := e) b c r', hk => by
    obtain ⟨k', z1, z2⟩ := hk _ (.head _)
    obtain rfl := (intKind prog w).inj _ _ _ z1 b
    obtain ⟨t, ht⟩ := Value.isInt_shape b
    exact .cons z2 ht (by rw [c]; exact a) (irs_join r r' fun e he => hk e (.tail _ he))
theorem krs_split : ∀ {es : List (List KI × V)} {ds : List DictEntry}, KRs w.params ρ h es ds → ∃ xs : List (List KI × Addr × Value), PRs ρ h es (kvsOf xs) ∧ ds = xs.map (entryOfKey (keyKind prog w)) ∧ ∀ x ∈ xs, isKey h x.1 x.2.1
  | _, _, .nil => ⟨[], .nil, rfl, fun e he => nomatch he⟩
  | _, _, .cons (k := k) (e := e) o a b c r => by
    obtain ⟨xs, r1, r2, r3⟩ := krs_split r
    obtain ⟨t, items, e1, h1, h2⟩ := VR.tup_inv b
    have z : isKey h k t := ⟨o, keyV_nil (e1 ▸ b)⟩
    refine ⟨(k, t, e.val) :: xs, .cons c r1, ?_, fun e' he => ?_⟩
    · rw [List.map_cons, r2]
      congr 1
      obtain ⟨eh, ek, ev⟩ := e
      simp only at e1 a
      subst e1 a
      rfl
    · rcases List.mem_cons.mp he with rfl | he
      · exact z
      · exact r3 e' he
theorem krs_join : ∀ {es : List (List KI × V)} {xs : List (List KI × Addr × Value)}, PRs ρ h es (kvsOf xs) → (∀ x ∈ xs, isKey h x.1 x.2.1) → KRs w.params ρ h es (xs.map (entryOfKey (keyKind prog w)))
  | _, [], r, _ => by cases r; exact .nil
  | _, (k, t, v) :: xs, r, hk => by
    cases r with
    | cons a r =>
      have z := hk (k, t, v) (.head _)
      exact .cons z.1 rfl (VR.up z.2) a (krs_join r fun x hx => hk x (.tail _ hx))
end

section
variable {prog : Program} {w : World} {B : Heap} {names : Names} {vals : Vals} {d : Nat} {H : List O} {Q : V → List O → Prop}

theorem idict_at {ρ : List Addr} {s : Shared} {n : Nat} {es : List (Int × V)} {x : Value} (hs : HS w.params B ρ H s) (hx : VR ρ s.heap (.ref n) x) (hn : H[n]? = some (.idict es)) :
    ∃ a kvs, x = .ref a ∧ ρ[n]? = some a ∧ s.heap.DictOf (intKind prog w) a kvs ∧ PRs ρ s.heap es kvs ∧ (a == sysModules) = false := by
  cases hx with
  | ref hr =>
    obtain ⟨ds, ep, h1, h2, h3⟩ := hs.hr.obj n _ _ hn hr
    obtain ⟨kvs, r1, r2, r3⟩ := irs_split prog w h2
    exact ⟨_, kvs, rfl, hr, ⟨_, ds.toArray, ep, h1, ⟨rfl, rfl, rfl⟩, rfl, fun e he => r3 e (by simpa using he), by simpa using r2, by rw [r1.keys]; exact h3⟩, r1, hs.notSys (List.mem_of_getElem? hr)⟩
theorem kdict_at {ρ : List Addr} {s : Shared} {n : Nat} {es : List (List KI × V)} {x : Value} (hs : HS w.params B ρ H s) (hx : VR ρ s.heap (.ref n) x) (hn : H[n]? = some (.kdict es)) :
    ∃ a xs, x = .ref a ∧ ρ[n]? = some a ∧ s.heap.DictOfH (keyKind prog w) a xs ∧ PRs ρ s.heap es (kvsOf xs) ∧ (a == sysModules) = false := by
  cases hx with
  | ref hr =>
    obtain ⟨ds, ep, h1, h2, h3⟩ := hs.hr.obj n _ _ hn hr
    obtain ⟨xs, r1, r2, r3⟩ := krs_split prog w h2
    have ek : xs.map (·.1) = es.map (·.1) := by rw [← r1.keys]; simp [kvsOf]
    exact ⟨_, xs, rfl, hr, ⟨_, ds.toArray, ep, h1, ⟨rfl, rfl, rfl⟩, rfl, by simpa using r2, r3, by rw [ek]; exact h3⟩, r1, hs.notSys (List.mem_of_getElem? hr)⟩

theorem put_idict {ρ : List Addr} {s : Shared} {n : Nat} {a : Addr} {es' : List (Int × V)} {kvs' : List (Int × Value)} {h' : Heap} {tk : Nat} (hs : HS w.params B ρ H s) (ha : ρ[n]? = some a) (hd : h'.DictOf (intKind prog w) a kvs') (hb : Heap.SameBut a s.heap h') (hv : PRs ρ s.heap es' kvs') :
    HS w.params B ρ (H.set n (.idict es')) { s with heap := h', toks := tk } ∧ Ext ρ s ρ { s with heap := h', toks := tk } := by
  obtain ⟨o, es, ep, h1, h2, h3, h4, h5, h6⟩ := hd
  have x : Ext ρ s ρ { s with heap := h', toks := tk } := .put (s' := { s with heap := h', toks := tk }) hs.hr ha (fun b hne => hb.2 b hne) h1 rfl rfl
  refine ⟨hs.put (s' := { s with heap := h', toks := tk }) ha (fun b hne => hb.2 b hne) ⟨es.toList, ep, ?_, irs_join prog w (hv.mono ⟨[], by simp⟩ x.tup) h5 fun e he => h4 e (by simpa using he), by rw [← hv.keys]; exact h6⟩, x⟩
  rw [h1, of_exact h2 h3]
theorem put_kdict {ρ : List Addr} {s : Shared} {n : Nat} {a : Addr} {es' : List (List KI × V)} {xs' : List (List KI × Addr × Value)} {h' : Heap} {tk : Nat} (hs : HS w.params B ρ H s) (ha : ρ[n]? = some a) (hd : h'.DictOfH (keyKind prog w) a xs') (hb : Heap.SameBut a s.heap h') (hv : PRs ρ s.heap es' (kvsOf xs')) :
    HS w.params B ρ (H.set n (.kdict es')) { s with heap := h', toks := tk } ∧ Ext ρ s ρ { s with heap := h', toks := tk } := by
  obtain ⟨o, es, ep, h1, h2, h3, h4, h5, h6⟩ := hd
  have x : Ext ρ s ρ { s with heap := h', toks := tk } := .put (s' := { s with heap := h', toks := tk }) hs.hr ha (fun b hne => hb.2 b hne) h1 rfl rfl
  have ek : xs'.map (·.1) = es'.map (·.1) := by rw [← hv.keys]; simp [kvsOf]
  refine ⟨hs.put (s' := { s with heap := h', toks := tk }) ha (fun b hne => hb.2 b hne) ⟨es.toList, ep, ?_, ?_, by rw [← ek]; exact h6⟩, x⟩
  · show h'.get? a = _; rw [h1, of_exact h2 h3]
  · rw [h4]; exact krs_join prog w (hv.mono ⟨[], by simp⟩ x.tup) h5

theorem w_in_idict {n : Nat} {es : List (Int × V)} {k : Int} (hn : H[n]? = some (.idict es)) (q : Q (.bool (dget es k).isSome) H) : W2 prog w B d (compareOp .In) (.int k) (.ref n) H Q := by
  intro ρ s x y hs hx hy A E r
  obtain ⟨a, kvs, rfl, ha, D, P, ns⟩ := idict_at (prog := prog) hs hy hn
  cases hx with
  | int _ t =>
    refine wpAny_in_of (knd := intKind prog w) (intKind_is prog w k t) ns D.mapOf ?_
    rcases P.get k with ⟨e1, e2⟩ | ⟨v, x, e1, e2, _⟩ <;> rw [e1] at q <;> simp only [e2] <;> exact fin (rel := VR) (s' := { s with toks := s.toks + 1 }) hs (fun _ _ e => e) (v := V.bool _) (VR.bool _) q
theorem i_idict {n : Nat} {es : List (Int × V)} {k : Int} {v : V} (hn : H[n]? = some (.idict es)) (hk : dget es k = some v) (q : Q v H) : WItem prog w B d (.ref n) (.int k) H Q := by
  intro ρ s x y hs hx hy
  obtain ⟨a, kvs, rfl, ha, D, P, ns⟩ := idict_at (prog := prog) hs hx hn
  refine ⟨⟨"dict", _, D.mapOf.typeIs, slot_dict_getitem.lookup⟩, fun A E r => ?_⟩
  cases hy with
  | int _ t =>
    rcases P.get k with ⟨e1, e2⟩ | ⟨v', x, e1, e2, vx⟩
    · rw [e1] at hk; cases hk
    · rw [e1] at hk; cases hk
      exact wpAny_getItem_of (knd := intKind prog w) (intKind_is prog w k t) D.mapOf e2 (fin hs (fun _ _ e => e) vx q)
theorem c_len_idict {n : Nat} {es : List (Int × V)} (hn : H[n]? = some (.idict es)) (hl : es.length ≤ 1000000) (q : Q (.int es.length) H) : CalV prog w B d (.val (.builtin "len")) [.ref n] H Q := by
  refine ⟨_, rfl, fun h _ => keep_builtin h, fun ρ s xs hs hv A E r => ?_⟩
  cases hv with
  | cons h1 h2 =>
    cases h2
    obtain ⟨a, kvs, rfl, ha, D, P, ns⟩ := idict_at (prog := prog) hs h1 hn
    have l1 := P.length
    refine call_len_dict ns D (by walk_at "om") ?_
    rw [l1]
    exact fin hs (fun _ _ e => e) (v := .int _) (.int _ _) q
/-- item stores -/
noncomputable def WSet (prog : Program) (w : World) (B : Heap) (d : Nat) (a b c : V) (H : List O) (Q : List O → Prop) : Prop :=
  ∀ ρ s x y z, HS w.params B ρ H s → VR ρ s.heap a x → VR ρ s.heap b y → VR ρ s.heap c z → WT prog w B relU d (setItem x y z) ρ s fun (_ : Unit) H' => Q H'
theorem s_idict {n : Nat} {es : List (Int × V)} {k : Int} {v : V} {Q : List O → Prop} (hn : H[n]? = some (.idict es)) (hl : es.length ≤ 1000000) (q : Q (H.set n (.idict (dput es k v)))) : WSet prog w B d (.ref n) (.int k) v H Q := by
  intro ρ s x y z hs hx hy hz A E r
  obtain ⟨a, kvs, rfl, ha, D, P, ns⟩ := idict_at (prog := prog) hs hx hn
  cases hy with
  | int _ t =>
    have l1 := P.length
    refine wpAny_setItem_pairs (knd := intKind prog w) (k := k) (intKind_is prog w k t) D (fun h' D' hb => ?_) (by rw [sizeLine_eq]; walk_at "om")
    obtain ⟨z1, z2⟩ := put_idict (tk := s.toks + 1) hs ha D' hb (P.put hz)
    exact ⟨(), _, ρ, trivial, z1, z2, q⟩
theorem s_kdict {n : Nat} {es : List (List KI × V)} {k : List KI} {v : V} {Q : List O → Prop} (hk : keyOk k = true) (hn : H[n]? = some (.kdict es)) (hl : es.length ≤ 1000000) (q : Q (H.set n (.kdict (dput es k v)))) : WSet prog w B d (.ref n) (keyV k) v H Q := by
  intro ρ s x y z hs hx hy hz A E r
  obtain ⟨a, xs, rfl, ha, D, P, ns⟩ := kdict_at (prog := prog) hs hx hn
  obtain ⟨t, items, rfl, h1, h2⟩ := VR.tup_inv hy
  have l1 := P.length
  have hkey : isKey s.heap k t := ⟨hk, keyV_nil hy⟩
  have ru := r.uni
  refine wpAny_setItem_heap (knd := keyKind prog w) (k := k) (by show A.units + 1 + 8 < _; walk_at "om") hkey D (fun h' D' hb => ?_) (by simp only [kvsOf, List.length_map] at l1; rw [sizeLine_eq]; walk_at "om")
  obtain ⟨z1, z2⟩ := put_kdict (tk := s.toks + (keyKind prog w).draws k) hs ha D' hb (by rw [kvsOf_storedH]; exact P.put hz)
  exact ⟨(), _, ρ, trivial, z1, z2, q⟩
theorem s_list {n : Nat} {vs : List V} {k : Int} {v : V} {Q : List O → Prop} (hn : H[n]? = some (.list vs)) (h0 : 0 ≤ k) (hk : k < vs.length) (hl : vs.length ≤ 1000000) (q : Q (H.set n (.list (vs.set k.toNat v)))) : WSet prog w B d (.ref n) (.int k) v H Q := by
  intro ρ s x y z hs hx hy hz A E r
  obtain ⟨a, items, ep, rfl, ha, g1, g2⟩ := list_at hs hx hn
  have l1 := g2.length
  cases hy with
  | int _ t =>
    refine ki_setAt (items := items.toArray) (n := ep) g1 h0 (by walk_at "om") (by rw [List.size_toArray]; walk_at "om") ?_
    obtain ⟨z1, z2⟩ := put_list (f := fun y => y.setIfInBounds k.toNat z) (items' := items.set k.toNat z) (tk := s.toks) hs ha g1 (by apply Array.toList_inj.mp; simp) (g2.set _ hz)
    exact ⟨(), _, ρ, trivial, z1, z2, q⟩
theorem ev1_AssignSub {o i value : PySem.Expr} {p' pos : Pos} {Q : Fl → Vals → List O → Prop} (hs : ∀ env, swapsWith value (some (.Subscript o i p')) pos.line env = pure false)
    (h : EvE prog w B names d value vals H fun v H₁ => EvE prog w B names d o vals H₁ fun ov H₂ => EvE prog w B names d i vals H₂ fun iv H₃ => WSet prog w B d ov iv v H₃ fun H₄ => Q .next vals H₄) :
    Ev1 prog w B names d (.Assign [.Subscript o i p'] value pos) vals H Q := by
  constructor
  intro env ρ s sr A E r
  refine wpAny_Assign_Subscript (h.go sr r fun v x H₁ ρ₁ s₁ va sr₁ e₁ h₁ => h₁.go sr₁ r fun ov y H₂ ρ₂ s₂ vb sr₂ e₂ h₂ => h₂.go sr₂ r fun iv z H₃ ρ₃ s₃ vc sr₃ e₃ h₃ => ?_) (hs env)
  refine wpAny_mono (h₃ ρ₃ s₃ y z x sr₃.hs (e₃.vr vb) vc (e₃.vr (e₂.vr va)) A E r) (fun _ s₄ ⟨_, H₄, ρ₄, _, b1, b2, q⟩ => ?_) fun _ _ e => e
  exact ⟨_, vals, H₄, ρ₄, .next, sr₃.ext b2 b1, (((e₁.trans e₂).trans e₃).trans b2).toF, q⟩

/-- d.get(k, v) -/
theorem methV_dict {n : Nat} {es : List (List KI × V)} {name : Str} {id : String} (slot : Slot "dict" name id) (ty : typeOf (.builtin id) = pure (.type "method_descriptor")) (hn : H[n]? = some (.kdict es)) : MethV prog w B d name (.ref n) H (.builtin id) [.ref n] := by
  intro ρ s x pl A E Q hs hx r q
  cases hx with
  | ref hr =>
    obtain ⟨ds, ep, h1, h2, h3⟩ := hs.hr.obj n _ _ hn hr
    exact getMethod_builtin (T := "dict") ⟨_, h1, rfl⟩ PySem.F.plainAttrs_dict slot ty (fun b e => by cases e; exact ⟨_, h1, rfl⟩) (q [.ref _] (.cons (.ref hr) .nil))
theorem c_get_kdict {n : Nat} {es : List (List KI × V)} {k : List KI} {v : V} (hk : keyOk k = true) (hn : H[n]? = some (.kdict es)) (q : Q ((dget es k).getD v) H) : CalV prog w B d (.val (.builtin "dict.get")) [.ref n, keyV k, v] H Q := by
  refine ⟨_, rfl, fun h _ => keep_builtin h, fun ρ s xs hs hv A E r => ?_⟩
  cases hv with
  | cons h1 h2 =>
    cases h2 with
    | cons h2 h3 =>
      cases h3 with
      | cons h3 h4 =>
        cases h4
        rename_i x
        obtain ⟨a, xs, rfl, ha, D, P, ns⟩ := kdict_at (prog := prog) hs h1 hn
        obtain ⟨t, items, rfl, g1, g2⟩ := VR.tup_inv h2
        have ru := r.uni
        have hkey : isKey s.heap k t := ⟨hk, keyV_nil h2⟩
        refine call_meetsIn PySem.F.slot_dict_get (T := "dict") D.typeIs PySem.F.entry_dict_get (PySem.F.args_dict_get_3 _ _ _) (meetsH_dict_get_default (keyKind prog w) a t ns x) ⟨?_, k, xs, hkey, D, ?_⟩
        · show A.units + 1 + 8 < _; walk_at "om"
        · have eq := valueAt_kvsOf xs k
          rw [← eq]
          rcases P.get k with ⟨e1, e2⟩ | ⟨v', x', e1, e2, vx⟩
          · rw [e1] at q; rw [e2]
            exact fin hs (fun _ _ e => e) h3 q
          · rw [e1] at q; rw [e2]
            exact fin hs (fun _ _ e => e) vx q

/-- new dicts -/
theorem ev_Dict0 {pos : Pos} (o : O) (ho : ∀ P ρ h a, h.get? a = some (dictObj [] 0) → OR P ρ h o a) (q : Q (.ref H.length) (H ++ [o])) : EvE prog w B names d (.Dict [] [] pos) vals H Q := by
  constructor
  intro env ρ s sr A E r
  refine wpAny_Dict_empty ?_
  have k : ∀ b o, s.heap.get? b = some o → (s.heap.push (dictObj [] 0)).get? b = some o := fun b o e => Heap.get?_push_of_some _ e
  refine ⟨.ref H.length, H ++ [o], ρ ++ [s.heap.objs.size], .ref ?_, sr.hs.more (o := o) (s' := { s with heap := s.heap.push (dictObj [] 0) }) k (get_end _) (ho _ _ _ _ (Heap.get?_push_size _ rfl)), .more (s' := { s with heap := s.heap.push (dictObj [] 0) }) k (get_end _) rfl rfl, q⟩
  rw [← sr.hs.hr.len, List.getElem?_append_right (Nat.le_refl _), Nat.sub_self]; rfl
theorem new_idict (P : Params) (ρ : List Addr) (h : Heap) (a : Addr) (e : h.get? a = some (dictObj [] 0)) : OR P ρ h (.idict []) a := ⟨[], 0, e, .nil, List.nodup_nil⟩
theorem new_kdict (P : Params) (ρ : List Addr) (h : Heap) (a : Addr) (e : h.get? a = some (dictObj [] 0)) : OR P ρ h (.kdict []) a := ⟨[], 0, e, .nil, List.nodup_nil⟩
theorem ev_Dict1 {kx vx : PySem.Expr} {pos : Pos} {k : Int} {v : V}
    (h : EvE prog w B names d kx vals (H ++ [.idict []]) fun kv H₁ => kv = .int k ∧ H₁ = H ++ [.idict []] ∧ EvE prog w B names d vx vals (H ++ [.idict []]) fun v' H₂ => v' = v ∧ H₂ = H ++ [.idict []])
    (q : Q (.ref H.length) (H ++ [.idict [(k, v)]])) : EvE prog w B names d (.Dict [some kx] [vx] pos) vals H Q := by
  constructor
  intro env ρ s sr A E r
  refine wpAny_Dict_walk (knd := intKind prog w) rfl rfl (by simp) (by simp) ?_
  have kp : ∀ b o, s.heap.get? b = some o → (s.heap.push (dictObj [] 0)).get? b = some o := fun b o e => Heap.get?_push_of_some _ e
  have ha : (ρ ++ [s.heap.objs.size])[H.length]? = some s.heap.objs.size := by rw [← sr.hs.hr.len, List.getElem?_append_right (Nat.le_refl _), Nat.sub_self]; rfl
  have hs0 := sr.hs.more (o := .idict []) (s' := { s with heap := s.heap.push (dictObj [] 0) }) kp (get_end _) (new_idict _ _ _ _ (Heap.get?_push_size _ rfl))
  have ex0 : Ext ρ s (ρ ++ [s.heap.objs.size]) { s with heap := s.heap.push (dictObj [] 0) } := .more (s' := { s with heap := s.heap.push (dictObj [] 0) }) kp (get_end _) rfl rfl
  refine pairTrees_cons_walk (h.go (sr.ext ex0 hs0) r fun kv x H₁ ρ₁ s₁ va sr₁ e₁ h₁ => ?_)
  obtain ⟨rfl, rfl, h₁⟩ := h₁
  refine h₁.go sr₁ r fun v' y H₂ ρ₂ s₂ vb sr₂ e₂ h₂ => ?_
  obtain ⟨rfl, rfl⟩ := h₂
  refine pairTrees_nil_walk ?_
  cases va with
  | int _ t =>
    obtain ⟨tl, el⟩ := (e₁.trans e₂).pre'
    have ha2 : ρ₂[H.length]? = some s.heap.objs.size := by rw [el, List.getElem?_append_left (List.getElem?_eq_some_iff.mp ha).1]; exact ha
    obtain ⟨a, kvs, e, ha', D, P, ns⟩ := idict_at (prog := prog) (n := H.length) (es := []) (x := .ref s.heap.objs.size) sr₂.hs (.ref ha2) (by rw [List.getElem?_append_right (Nat.le_refl _), Nat.sub_self]; rfl)
    cases e
    cases P
    refine ⟨[(k, y)], ⟨intKind_is prog w k t, rfl, trivial⟩, D, fun h' D' hb => ?_⟩
    obtain ⟨z1, z2⟩ := put_idict (tk := s₂.toks + 1) sr₂.hs ha2 D' hb (es' := [(k, v')]) (by
      show PRs _ _ [(k, v')] (stored [] k y)
      exact .cons vb .nil)
    have es : (H ++ [O.idict []]).set H.length (.idict [(k, v')]) = H ++ [.idict [(k, v')]] := by
      rw [List.set_append_right _ _ (Nat.le_refl _), Nat.sub_self]; rfl
    rw [es] at z1
    exact ⟨.ref H.length, _, ρ₂, .ref ha2, z1, ((ex0.trans e₁).trans e₂).trans z2, q⟩
end
section
variable {ρ : List Addr} {h : Heap}
theorem nrs_put {a : Value} {v : V} {name : Str} {t : Tok} {hsh : Int} (hv : VR ρ h v a) : ∀ {fs : List (Str × V)} {ds : List DictEntry}, NRs ρ h fs ds → (fs.map (·.1)).Nodup → NRs ρ h (dput fs name v) (putL name hsh (.str name t) a ds)
  | _, _, .nil, _ => by
    show NRs ρ h [(name, v)] [_]
    exact .cons (t := t) rfl hv .nil
  | _, _, .cons (x := y) (t := t') (es := es) (v := v') hk hv' hr, hn => by
    rw [List.map_cons, List.nodup_cons] at hn
    unfold putL
    rw [hk, isStr_str]
    by_cases e : y = name
    · subst e
      rw [decide_eq_true rfl]
      simp only [if_true]
      have : dput ((y, v') :: es) y v = (y, v) :: es := by
        unfold dput
        rw [if_pos (by simp)]
        rw [List.map_cons]
        simp only [if_true]
        congr 1
        refine (List.map_congr_left fun z hz => ?_).trans (List.map_id _)
        rw [if_neg fun q => hn.1 (List.mem_map.mpr ⟨z, hz, q⟩)]; rfl
      rw [this]
      exact NRs.cons (x := y) (t := t') rfl hv hr
    · rw [decide_eq_false e]
      simp only [Bool.false_eq_true, if_false]
      have : dput ((y, v') :: es) name v = (y, v') :: dput es name v := by
        unfold dput
        rw [List.any_cons, decide_eq_false e, Bool.false_or, List.map_cons]
        simp only [e, if_false]
        split <;> rfl
      rw [this]
      exact .cons hk hv' (nrs_put hv hr hn.2)
theorem dput_names {K : Type} [DecidableEq K] (fs : List (K × V)) (x : K) (v : V) (hn : (fs.map (·.1)).Nodup) : ((dput fs x v).map (·.1)).Nodup := by
  unfold dput
  split
  · rw [List.map_map]
    have : ((fun kv : K × V => kv.1) ∘ fun kv => if kv.1 = x then (kv.1, v) else kv) = (·.1) := by
      funext kv; simp only [Function.comp]; split <;> rfl
    rw [this]; exact hn
  · rename_i hc
    rw [List.map_append, List.nodup_append]
    refine ⟨hn, by simp, fun a ha b hb => ?_⟩
    simp at hb; subst hb
    intro e; subst e
    obtain ⟨kv, h1, h2⟩ := List.mem_map.mp ha
    exact hc (List.any_eq_true.mpr ⟨kv, h1, by simp [h2]⟩)
theorem nrs_len : ∀ {fs : List (Str × V)} {ds : List DictEntry}, NRs ρ h fs ds → ds.length = fs.length
  | _, _, .nil => rfl
  | _, _, .cons _ _ r => by rw [List.length_cons, List.length_cons, nrs_len r]
theorem nrs_look {fs : List (Str × V)} {ds : List DictEntry} {ep : Nat} (r : NRs ρ h fs ds) (name : Str) : (lookIn name (dictObj ds ep)).isSome = true := by
  unfold lookIn
  dsimp only
  cases e : ds.find? (fun x => x.key.isStr name) with
  | some _ => rfl
  | none =>
    have : ds.any (·.refKey) = false := by
      clear e
      induction r with
      | nil => rfl
      | cons hk _ _ ih => rw [List.any_cons, ih, DictEntry.refKey, hk]; rfl
    rw [this]; rfl
end

/-- facts of a class for stores and making -/
structure StoreIs (K : Frag) (C : Addr) : Prop where
  sa : findIn K (.ref C) "__setattr__" = some (some (.builtin "object.__setattr__"))
  po : plainOver K C = true
  hd : (clsIn K C).any (·.hasDict) = true
structure TakeIs (K : Frag) (C : Addr) (name : Str) : Prop where
  tk : takerIn K C name = some none

section
variable {prog : Program} {w : World} {B : Heap} {names : Names} {vals : Vals} {d : Nat} {H : List O} {K : Frag}

theorem set_attr {n dn : Nat} {C : Addr} {fs : List (Str × V)} {name : Str} {v : V} {ρ : List Addr} {s : Shared} {x y : Value} {Q : List O → Prop} (X : K.In B) (c : StoreIs K C) (tk : TakeIs K C name) (hs : HS w.params B ρ H s) (hx : VR ρ s.heap (.ref n) x) (hv : VR ρ s.heap v y)
    (hi : H[n]? = some (.inst C dn)) (hd : H[dn]? = some (.ns fs)) (hl : fs.length ≤ 900) (q : Q (H.set dn (.ns (dput fs name v)))) : WT prog w B relU d (setAttr x name y) ρ s fun (_ : Unit) H' => Q H' := by
  intro A E r
  obtain ⟨a, dx, ds, ep, rfl, z1, z2, z3, z4, z5, I⟩ := inst_at hs hx hi hd
  have X' : K.In s.heap := fun b o e => hs.base b o (X b o e)
  refine set_plain X' I c.sa (osa_open (s := { s with toks := s.toks + 1 }) X' I c.po tk.tk fun b => ?_)
  obtain ⟨cd, hc, hd'⟩ := any_some c.hd
  obtain ⟨hx', hcl, hn, -⟩ := I
  have D := z3
  have lds := nrs_len z4
  refine wpAny_bind (wpAny_pure (wpAny_bind (wpAny_bind (wpAny_loadPart (s := { s with toks := s.toks + 1 }) hx' (wpAny_bind (Looks.here (s := { s with toks := s.toks + 1 }) (looks_clsIn X' hc) ?_))))))
  rw [hd']
  refine wpAny_pure (a := some dx) (wpAny_bind (wpAny_pure (wpAny_bind ?_)))
  unfold nsSet
  refine wpAny_bind (wpAny_bind (wpAny_askSetting (wpAny_pure (wpAny_bind (wpAny_mkText (wpAny_bind (wpAny_loadPart D ?_)))))))
  have hlk := nrs_look (ep := ep) z4 name
  dsimp only
  have cc : (!ds.toArray.any (·.key.isStr name) && ds.toArray.any (·.refKey)) = false := by
    rw [← Array.any_toList, ← Array.any_toList]
    unfold lookIn at hlk
    dsimp only at hlk
    split at hlk
    · rename_i en he
      rw [List.any_eq_true.mpr ⟨en, List.mem_of_find?_eq_some he, List.find?_some he⟩]; rfl
    · split at hlk
      · cases hlk
      · rename_i z; rw [Bool.not_eq_true] at z; rw [z, Bool.and_false]
  rw [aRefKeyMayBeTheName_at, cc]
  refine wpAny_updatePart D ?_
  have e1 := putName_dict name (PyData.keyHash w.params name) (.str name (s.toks + 1)) y ds ep
  have lput : (putL name (PyData.keyHash w.params name) (.str name (s.toks + 1)) y ds).length ≤ ds.length + 1 := by
    have : ∀ l : List DictEntry, (putL name (PyData.keyHash w.params name) (.str name (s.toks + 1)) y l).length ≤ l.length + 1 := by
      intro l
      induction l with
      | nil => simp [putL]
      | cons e r ih => unfold putL; split <;> simp at ih ⊢; walk_at "om"
    exact this ds
  have get' : (s.heap.update dx (Obj.putName name (PyData.keyHash w.params name) (.str name (s.toks + 1)) y)).get? dx = some (dictOf (putL name (PyData.keyHash w.params name) (.str name (s.toks + 1)) y ds) (putN name ds ep)) := by
    rw [Heap.get?_update_self _ D (by rw [e1]; rfl), e1]
  have k : ∀ b, b ≠ dx → (s.heap.update dx (Obj.putName name (PyData.keyHash w.params name) (.str name (s.toks + 1)) y)).get? b = s.heap.get? b := fun b hb => Heap.get?_update_other _ _ (fun q => hb q.symm)
  refine wpAny_bind (wpAny_lookBehind get' (pastItsLine_dict (by rw [List.size_toArray, sizeLine_eq]; walk_at "om")) ?_)
  have ex : Ext ρ s ρ { s with heap := s.heap.update dx (Obj.putName name (PyData.keyHash w.params name) (.str name (s.toks + 1)) y), toks := s.toks + 1 + 1 } := .put (s' := { s with heap := s.heap.update dx (Obj.putName name (PyData.keyHash w.params name) (.str name (s.toks + 1)) y), toks := s.toks + 1 + 1 }) hs.hr z2 k get' rfl rfl
  refine wpAny_pure ⟨(), H.set dn (.ns (dput fs name v)), ρ, trivial, hs.put (s' := { s with heap := s.heap.update dx (Obj.putName name (PyData.keyHash w.params name) (.str name (s.toks + 1)) y), toks := s.toks + 1 + 1 }) z2 k ⟨_, _, get', ?_, dput_names fs name v z5⟩, ex, q⟩
  exact nrs_put (hv.mono ex.pre' ex.tup) (z4.mono ex.pre' ex.tup) z5

theorem ev1_AssignAttr {o value : PySem.Expr} {attr : Str} {p' pos : Pos} {Q : Fl → Vals → List O → Prop} (X : K.In B) (hs : ∀ env, swapsWith value (some (.Attribute o attr p')) pos.line env = pure false)
    (h : EvE prog w B names d value vals H fun v H₁ => EvE prog w B names d o vals H₁ fun ov H₂ => ∃ n C dn fs, ov = .ref n ∧ StoreIs K C ∧ TakeIs K C attr ∧ H₂[n]? = some (.inst C dn) ∧ H₂[dn]? = some (.ns fs) ∧ fs.length ≤ 900 ∧ Q .next vals (H₂.set dn (.ns (dput fs attr v)))) :
    Ev1 prog w B names d (.Assign [.Attribute o attr p'] value pos) vals H Q := by
  constructor
  intro env ρ s sr A E r
  refine plainObj_wpAny_Assign_Attribute (h.go sr r fun v x H₁ ρ₁ s₁ va sr₁ e₁ h₁ => h₁.go sr₁ r fun ov y H₂ ρ₂ s₂ vb sr₂ e₂ ⟨n, C, dn, fs, hov, c, tk, hi, hd, hl, q⟩ => ?_) (hs env)
  subst hov
  refine wpAny_mono (set_attr (prog := prog) (d := d) (Q := fun H' => Q .next vals H') X c tk sr₂.hs vb (e₂.vr va) hi hd hl q A E r) (fun _ s₄ ⟨_, H₄, ρ₄, _, b1, b2, q⟩ => ?_) fun _ _ e => e
  exact ⟨_, vals, H₄, ρ₄, .next, sr₂.ext b2 b1, ((e₁.trans e₂).trans b2).toF, q⟩

/-- a class is called -/
structure MakeIs (K : Frag) (C : Addr) (fI : Addr) : Prop where
  mak : makesIn K C = true
  ini : findIn K (.ref C) "__init__" = some (some (.ref fI))
  fn : typeIn K (.ref fI) = some (.type "function")

theorem keep_cls {C fI : Addr} (X : K.In B) (m : MakeIs K C fI) (h : Heap) (k : ∀ b o, B.get? b = some o → h.get? b = some o) : KeepOk prog w h (.ref C) := by
  have Y := m.mak
  unfold makesIn at Y
  split at Y
  · rename_i oc od cd sl ho
    exact ⟨.machine, .inr (.inl rfl), (Looks.ld (part := none) (k _ _ (X _ _ ho))).andThen ((makes_of (fun b o e => k b o (X b o e)) m.mak).call.andThen .now)⟩
  · cases Y

theorem under_weight (C : Addr) (xs : List Value) : (Code.builtin "type.__call__" ⟨.ref C :: xs, []⟩).weight = 1 := by kernel_rfl
theorem under_units (C : Addr) (xs : List Value) : (Code.builtin "type.__call__" ⟨.ref C :: xs, []⟩).cUnits = 1 := by kernel_rfl
theorem size_push1 (h : Heap) (o : Obj) : (h.push o).objs.size = h.objs.size + 1 := by cases h; exact Array.size_push _
theorem calV_make {C fI : Addr} {vs : List V} {Q : V → List O → Prop} {d' : Nat} (X : K.In B) (m : MakeIs K C fI) (hd : d' + 1 ≤ d)
    (h : CallC prog w B d' fI (.ref (H.length + 1) :: vs) (H ++ [.ns []] ++ [.inst C H.length]) fun v H' => v = .none ∧ Q (.ref (H.length + 1)) H') : CalV prog w B d (.val (.ref C)) vs H Q := by
  refine ⟨_, rfl, fun h k => keep_cls X m h k, fun ρ s xs hs hv A E r => wpAny_call ?_⟩
  have X' : K.In s.heap := fun b o e => hs.base b o (X b o e)
  obtain ⟨hh, g, dr, t, os⟩ := s
  have Xh : K.In hh := X'
  refine make_core (makes_of Xh m.mak) (looks_findIn Xh m.ini) (fun self => bind_fn Xh self m.fn) (.inl rfl) ?_
  have k1 : ∀ b o, hh.get? b = some o → (hh.push emptyDict).get? b = some o := fun b o e => Heap.get?_push_of_some _ e
  have e0 : (hh.push emptyDict).get? hh.objs.size = some (dictObj [] 0) := Heap.get?_push_size _ rfl
  have hs1 := hs.more (o := .ns []) (s' := ⟨hh.push emptyDict, g, dr, t, os⟩) k1 (get_end _) ⟨[], 0, e0, .nil, List.nodup_nil⟩
  have ex1 : Ext ρ ⟨hh, g, dr, t, os⟩ (ρ ++ [hh.objs.size]) ⟨hh.push emptyDict, g, dr, t, os⟩ := .more (s' := ⟨hh.push emptyDict, g, dr, t, os⟩) k1 (get_end _) rfl rfl
  have sz : (hh.push emptyDict).objs.size = hh.objs.size + 1 := Heap.size_push ..
  have k2 : ∀ b o, (hh.push emptyDict).get? b = some o → ((hh.push emptyDict).push (instObj C hh.objs.size)).get? b = some o := fun b o e => Heap.get?_push_of_some _ e
  have e2 : ((hh.push emptyDict).push (instObj C hh.objs.size)).get? (hh.objs.size + 1) = some (instObj C hh.objs.size) := by rw [← sz]; exact Heap.get?_push_size _ rfl
  have none2 : (hh.push emptyDict).get? (hh.objs.size + 1) = none := by rw [← sz]; exact get_end _
  have r1 : (ρ ++ [hh.objs.size])[H.length]? = some hh.objs.size := by rw [← hs.hr.len, List.getElem?_append_right (Nat.le_refl _), Nat.sub_self]; rfl
  have r1' : (ρ ++ [hh.objs.size] ++ [hh.objs.size + 1])[H.length]? = some hh.objs.size := by rw [List.getElem?_append_left (List.getElem?_eq_some_iff.mp r1).1]; exact r1
  have r2 : (ρ ++ [hh.objs.size] ++ [hh.objs.size + 1])[H.length + 1]? = some (hh.objs.size + 1) := by
    rw [List.getElem?_append_right (by simp [hs.hr.len])]; simp [hs.hr.len]
  have hs2 := hs1.more (o := .inst C H.length) (s' := ⟨(hh.push emptyDict).push (instObj C hh.objs.size), g, dr, t, os⟩) k2 none2 ⟨hh.objs.size, r1', e2⟩ (by show (hh.push emptyDict).objs.size ≤ _; exact Nat.le_of_eq (size_push1 _ _))
  have ex2 : Ext (ρ ++ [hh.objs.size]) ⟨hh.push emptyDict, g, dr, t, os⟩ (ρ ++ [hh.objs.size] ++ [hh.objs.size + 1]) ⟨(hh.push emptyDict).push (instObj C hh.objs.size), g, dr, t, os⟩ := .more (s' := ⟨(hh.push emptyDict).push (instObj C hh.objs.size), g, dr, t, os⟩) k2 none2 rfl rfl
  have ex := ex1.trans ex2
  refine h.go' (ρ ++ [hh.objs.size] ++ [hh.objs.size + 1]) _ _ _ _ hs2 (.cons (.ref r2) (ex.vrs hv)) ?_ fun v val H' ρ' s' a b c q => ?_
  · refine ⟨?_, ?_, r.hand⟩
    · have := r.dep; show A.depth + (Code.builtin "type.__call__" ⟨.ref C :: xs, []⟩).weight + d' < _; rw [under_weight]; walk_at "om"
    · have := r.uni; show A.units + (Code.builtin "type.__call__" ⟨.ref C :: xs, []⟩).cUnits + 8 * d' + 80 < _; rw [under_units]; walk_at "om"
  · obtain ⟨rfl, q⟩ := q
    cases a
    obtain ⟨tl, et⟩ := c.pre'
    refine ⟨rfl, .ref (H.length + 1), H', ρ', .ref ?_, b, ex.trans c, q⟩
    rw [et, List.getElem?_append_left (List.getElem?_eq_some_iff.mp r2).1]; exact r2
end
inductive ItK where
  | list (n : Nat)
  | tup (vs : List V)
  | rng (n : Int)

noncomputable def ItAt (ρ : List Addr) (h : Heap) (it : Addr) : ItK → Nat → Prop
  | .list n, i => ∃ a, ρ[n]? = some a ∧ h.IsListIter it a i
  | .tup vs, i => ∃ t items, h.get? t = some (tupObj items) ∧ VRs ρ h vs items ∧ h.IsTupleIter it t i
  | .rng n, i => IsRangeIter h it i (n - i) 1 ∨ (n ≤ 0 ∧ i = 0 ∧ IsRangeIter h it 0 0 1)
noncomputable def itemAt : ItK → List O → Nat → Option V
  | .list n, H, i => match H[n]? with
    | some (.list vs) => vs[i]?
    | _ => none
  | .tup vs, _, i => vs[i]?
  | .rng n, _, i => if (i : Int) < n then some (.int i) else none
noncomputable def Live : ItK → List O → Prop
  | .list n, H => ∃ vs, H[n]? = some (.list vs)
  | .tup _, _ => True
  | .rng n, _ => -(2 ^ 40) ≤ n ∧ n < 2 ^ 40
inductive IterOf : V → ItK → Prop
  | list {n : Nat} : IterOf (.ref n) (.list n)
  | tup {vs : List V} : IterOf (.tup vs) (.tup vs)
  | rng {n : Int} : IterOf (.rng n) (.rng n)

/-- only what stands at one address changes -/
structure Moved (it : Addr) (s s' : Shared) : Prop where
  keep : ∀ b o, b ≠ it → s.heap.get? b = some o → s'.heap.get? b = some o
  tup : TupKeep s.heap s'.heap
  gens : s'.gens = s.gens
  os : s'.os = s.os
theorem Ext.moved {ρ ρ' : List Addr} {s₀ s s' : Shared} {it : Addr} (x : Ext ρ s₀ ρ' s) (m : Moved it s s') (h0 : s₀.heap.get? it = none) : Ext ρ s₀ ρ' s' :=
  ⟨x.pre, fun b o e hb => m.keep b o (fun q => by rw [q, h0] at e; cases e) (x.keep b o e hb), fun a ha o e => by obtain ⟨o', e'⟩ := x.live a ha o e; exact ⟨o', m.keep _ _ (fun q => by rw [q, h0] at e; cases e) e'⟩, x.tup.trans m.tup, m.gens.trans x.gens, m.os.trans x.os⟩
theorem ExtF.moved {env : Env} {ρ ρ' : List Addr} {s₀ s s' : Shared} {it : Addr} (x : ExtF env ρ s₀ ρ' s) (m : Moved it s s') (h0 : s₀.heap.get? it = none) : ExtF env ρ s₀ ρ' s' :=
  ⟨x.pre, fun b o e hb h1 h2 => m.keep b o (fun q => by rw [q, h0] at e; cases e) (x.keep b o e hb h1 h2), fun a o e => by obtain ⟨o', e'⟩ := x.live a o e; exact ⟨o', m.keep _ _ (fun q => by rw [q, h0] at e; cases e) e'⟩, x.tup.trans m.tup, m.gens.trans x.gens, m.os.trans x.os⟩
theorem HS.moved {P : Params} {B : Heap} {ρ : List Addr} {H : List O} {s s' : Shared} {it : Addr} (x : HS P B ρ H s) (m : Moved it s s') (h1 : it ∉ ρ) (h2 : B.get? it = none) : HS P B ρ H s' :=
  x.aside (wr := [it]) (fun b o hb e => m.keep b o (by simpa using hb) e) (fun b hb => by simp at hb; subst hb; exact ⟨h1, h2⟩) m.tup
theorem FR.frame {B : Heap} {env : Env} {names : Names} {vals : Vals} {ρ ρ' : List Addr} {h h' : Heap} (x : FR B env names vals ρ h) (pre : ∃ t, ρ' = ρ ++ t) (k : ∀ b o, h.get? b = some o → b = env.locals ∨ (∃ y, env.cells.lookup y = some b) → h'.get? b = some o) (tk : TupKeep h h')
    (n1 : env.locals ∉ ρ') (n2 : ∀ (y : Str) (c : Addr), env.cells.lookup y = some c → c ∉ ρ') : FR B env names vals ρ' h' := by
  obtain ⟨m, hn, hm⟩ := x.ns
  have cellK : ∀ (y : Str) (c : Addr), env.cells.lookup y = some c → ∀ v, h.IsCell c v → h'.IsCell c v := fun y c hp v ⟨o, ho, hd⟩ => ⟨o, k _ _ ho (.inr ⟨y, hp⟩), hd⟩
  refine ⟨x.len, ⟨m, ?_, fun i y v h1 h2 => ?_⟩, fun i y kk v h1 h2 h3 => ?_, fun i y h1 => ?_, x.capart, n1, fun y c hp => ⟨n2 y c hp, (x.sepC y c hp).2⟩, fun y c hp => ?_, x.above⟩
  · obtain ⟨o, es, ep, ho, r⟩ := hn
    exact ⟨o, es, ep, k _ _ ho (.inl rfl), r⟩
  · obtain ⟨a, q, r⟩ := hm i y v h1 h2
    exact ⟨a, q, r.mono pre tk⟩
  · obtain ⟨c, a, q, r, t⟩ := x.cl i y kk v h1 h2 h3
    exact ⟨c, a, q, cellK y c q _ r, t.mono pre tk⟩
  · obtain ⟨c, v₀, q, r, t⟩ := x.cany i y h1
    exact ⟨c, v₀, q, cellK y c q _ r, t⟩
  · obtain ⟨o, ho⟩ := x.cthere y c hp
    exact ⟨o, k _ _ ho (.inr ⟨y, hp⟩)⟩
theorem SR.moved {P : Params} {B : Heap} {env : Env} {names : Names} {vals : Vals} {ρ : List Addr} {H : List O} {s s' : Shared} {it : Addr} (x : SR P B env names vals ρ H s) (m : Moved it s s') (h1 : it ∉ ρ) (h2 : B.get? it = none) (h3 : it ≠ env.locals) (h4 : ∀ (y : Str) (c : Addr), env.cells.lookup y = some c → it ≠ c) :
    SR P B env names vals ρ H s' :=
  ⟨x.ok, x.hs.moved m h1 h2, x.fr.frame ⟨[], by simp⟩ (fun b o e hb => m.keep b o (fun q => by
    subst q
    rcases hb with hb | ⟨y, hb⟩
    · exact h3 hb
    · exact h4 y _ hb rfl) e) m.tup x.fr.sepL fun y c hp => (x.fr.sepC y c hp).1⟩

theorem ItAt.keep {ρ ρ' : List Addr} {h h' : Heap} {it : Addr} {k : ItK} {i : Nat} (x : ItAt ρ h it k i) (hp : ∃ t, ρ' = ρ ++ t) (tk : TupKeep h h') (kp : ∀ o, h.get? it = some o → h'.get? it = some o) : ItAt ρ' h' it k i := by
  cases k with
  | list n =>
    obtain ⟨a, ha, o, ho, r⟩ := x
    obtain ⟨t, rfl⟩ := hp
    exact ⟨a, by rw [List.getElem?_append_left (List.getElem?_eq_some_iff.mp ha).1]; exact ha, o, kp _ ho, r⟩
  | tup vs =>
    obtain ⟨t, items, e, r, o, ho, q⟩ := x
    exact ⟨t, items, tk _ _ (imm_tup _) e, r.mono hp tk, o, kp _ ho, q⟩
  | rng n => exact x.imp (fun e => kp _ e) fun e => ⟨e.1, e.2.1, kp _ e.2.2⟩
theorem ItAt.there {ρ : List Addr} {h : Heap} {it : Addr} {k : ItK} {i : Nat} (x : ItAt ρ h it k i) : ∃ o, h.get? it = some o ∧ ¬ Imm o := by
  cases k with
  | list n =>
    obtain ⟨a, ha, o, ho, hc, hd⟩ := x
    exact ⟨o, ho, fun q => by rcases q with ⟨q, _⟩ | ⟨q, _⟩ <;> rw [hc] at q <;> simp at q⟩
  | tup vs =>
    obtain ⟨t, items, e, r, o, ho, hc, hd⟩ := x
    exact ⟨o, ho, fun q => by rcases q with ⟨q, _⟩ | ⟨q, _⟩ <;> rw [hc] at q <;> simp at q⟩
  | rng n =>
    rcases x with x | ⟨_, _, x⟩ <;> exact ⟨_, x, fun q => by rcases q with ⟨q, _⟩ | ⟨q, _⟩ <;> simp at q⟩
theorem moved_same {s : Shared} {it : Addr} {h' : Heap} {tk : Nat} {o : Obj} (ho : s.heap.get? it = some o) (hn : ¬ Imm o) (b : Heap.SameBut it s.heap h') : Moved it s { s with heap := h', toks := tk } :=
  ⟨fun c ob hc e => (b.2 c hc).trans e, fun t ob im e => (b.2 t fun q => by subst q; rw [ho] at e; cases e; exact hn im).trans e, rfl, rfl⟩

section
variable {prog : Program} {w : World} {B : Heap} {A : Around} {E : Value → Shared → Prop} {ρ : List Addr} {H : List O} {s : Shared} {it : Addr} {k : ItK} {i : Nat}

theorem iter_of {v : V} {x : Value} {Q : Value → Shared → Prop} (hs : HS w.params B ρ H s) (hx : VR ρ s.heap v x) (ik : IterOf v k) (lv : Live k H)
    (q : ∀ it s', HS w.params B ρ H s' → (∀ b o, s.heap.get? b = some o → s'.heap.get? b = some o) → s'.gens = s.gens → s'.os = s.os → ItAt ρ s'.heap it k 0 → s.heap.get? it = none → Q (.ref it) s') : wpAny (model prog w) A (pyIter x) Q E s := by
  cases ik with
  | list =>
    obtain ⟨vs, hn⟩ := lv
    obtain ⟨a, items, ep, rfl, ha, g1, g2⟩ := list_at hs hx hn
    refine wpAny_pyIter_list (isList_of g1) ?_
    have kp : ∀ b o, s.heap.get? b = some o → (s.heap.push { cls := .type "list_iterator", data := .fields #[.ref a, .int 0 0] }).get? b = some o := fun b o e => Heap.get?_push_of_some _ e
    exact q _ { s with heap := s.heap.push { cls := .type "list_iterator", data := .fields #[.ref a, .int 0 0] } } (hs.keeps (s' := { s with heap := s.heap.push { cls := .type "list_iterator", data := .fields #[.ref a, .int 0 0] } }) kp) kp rfl rfl ⟨a, ha, _, Heap.get?_push_size _ rfl, rfl, rfl⟩ (get_end _)
  | tup =>
    obtain ⟨t, items, rfl, g1, g2⟩ := hx.tup_inv
    refine wpAny_pyIter_tuple (isTuple_of g1) ?_
    have kp : ∀ b o, s.heap.get? b = some o → (s.heap.push { cls := .type "tuple_iterator", data := .fields #[.ref t, .int 0 0] }).get? b = some o := fun b o e => Heap.get?_push_of_some _ e
    exact q _ { s with heap := s.heap.push { cls := .type "tuple_iterator", data := .fields #[.ref t, .int 0 0] } } (hs.keeps (s' := { s with heap := s.heap.push { cls := .type "tuple_iterator", data := .fields #[.ref t, .int 0 0] } }) kp) kp rfl rfl
      ⟨t, items, kp _ _ g1, g2.mono ⟨[], by simp⟩ (.of kp), _, Heap.get?_push_size _ rfl, rfl, rfl⟩ (get_end _)
  | rng =>
    cases hx with
    | rng hr =>
      rename_i n r t u v
      obtain ⟨hlo, hn⟩ : -(2 ^ 40) ≤ n ∧ n < 2 ^ 40 := lv
      · refine wpAny_pyIter_range hr (small_one (by decide) (by decide) (by walk_at "om") (by walk_at "om")) ?_
        have kp : ∀ b o, s.heap.get? b = some o → (s.heap.push { cls := .type "range_iterator", data := .fields #[rawInt 0, rawInt (Builtin.Range.rangeSize 0 n 1), rawInt 1] }).get? b = some o := fun b o e => Heap.get?_push_of_some _ e
        refine q _ { s with heap := s.heap.push { cls := .type "range_iterator", data := .fields #[rawInt 0, rawInt (Builtin.Range.rangeSize 0 n 1), rawInt 1] } } (hs.keeps (s' := { s with heap := s.heap.push { cls := .type "range_iterator", data := .fields #[rawInt 0, rawInt (Builtin.Range.rangeSize 0 n 1), rawInt 1] } }) kp) kp rfl rfl ?_ (get_end _)
        have e : (s.heap.push { cls := .type "range_iterator", data := .fields #[rawInt 0, rawInt (Builtin.Range.rangeSize 0 n 1), rawInt 1] }).get? s.heap.objs.size = _ := Heap.get?_push_size _ rfl
        have z := rangeSize_one 0 n
        by_cases h0 : 0 < n
        · rw [if_pos h0] at z
          refine .inl ?_
          rw [z] at e
          rw [z]; simpa using e
        · rw [if_neg h0] at z
          refine .inr ⟨by walk_at "om", rfl, ?_⟩
          rw [z] at e
          rw [z]; exact e
theorem next_it {Q : Option Value → Shared → Prop} (hA : A.handled = none) (hs : HS w.params B ρ H s) (hit : ItAt ρ s.heap it k i) (n1 : it ∉ ρ) (n2 : B.get? it = none) (lv : Live k H)
    (hsome : ∀ v, itemAt k H i = some v → ∀ x s', VR ρ s'.heap v x → HS w.params B ρ H s' → ItAt ρ s'.heap it k (i + 1) → Moved it s s' → Q (some x) s')
    (hnone : itemAt k H i = none → ∀ s', HS w.params B ρ H s' → Moved it s s' → Q none s') : wpAny (model prog w) A (pyNext (.ref it)) Q E s := by
  obtain ⟨oi, hoi, him⟩ := hit.there
  have liveOf : ∀ {h' : Heap}, Heap.ExtBut it s.heap h' → Moved it s { s with heap := h' } := fun {h'} x =>
    ⟨fun b o hb e => x b o hb e, fun t o im e => x t o (fun q => by subst q; rw [hoi] at e; cases e; exact him im) e, rfl, rfl⟩
  cases k with
  | list n =>
    obtain ⟨vs, hn⟩ := lv
    obtain ⟨a, ha, hl⟩ := hit
    obtain ⟨a', items, ep, e, ha', g1, g2⟩ := list_at hs (.ref ha) hn
    cases e
    have ei : itemAt (.list n) H i = vs[i]? := by show (match H[n]? with | some (.list vs) => vs[i]? | _ => none) = _; rw [hn]
    rw [ei] at hsome hnone
    cases hv : vs[i]? with
    | some v =>
      obtain ⟨x, hx, vx⟩ := g2.get hv
      refine wpAny_pyNext_list_item hl (isList_of g1) (by simpa using hx) fun h' hl' sb => ?_
      have m : Moved it s { s with heap := h' } := moved_same hoi him sb
      exact hsome v hv x { s with heap := h' } (vx.mono ⟨[], by simp⟩ m.tup) (hs.moved m n1 n2) ⟨a, ha, hl'⟩ m
    | none =>
      have hx : items.toArray[i]? = none := by
        have := g2.length
        rw [List.getElem?_eq_none_iff] at hv
        rw [List.getElem?_toArray, List.getElem?_eq_none_iff]; walk_at "om"
      refine wpAny_pyNext_list_end hA hl (isList_of g1) hx fun h' x => ?_
      exact hnone hv { s with heap := h' } (hs.moved (liveOf x) n1 n2) (liveOf x)
  | tup vs =>
    obtain ⟨t, items, e, g2, hl⟩ := hit
    have ei : itemAt (.tup vs) H i = vs[i]? := rfl
    rw [ei] at hsome hnone
    cases hv : vs[i]? with
    | some v =>
      obtain ⟨x, hx, vx⟩ := g2.get hv
      refine wpAny_pyNext_tuple_item hl (isTuple_of e) (by simpa using hx) fun h' hl' sb => ?_
      have m : Moved it s { s with heap := h' } := moved_same hoi him sb
      exact hsome v hv x { s with heap := h' } (vx.mono ⟨[], by simp⟩ m.tup) (hs.moved m n1 n2) ⟨t, items, m.tup _ _ (imm_tup _) e, g2.mono ⟨[], by simp⟩ m.tup, hl'⟩ m
    | none =>
      have hx : items.toArray[i]? = none := by
        have := g2.length
        rw [List.getElem?_eq_none_iff] at hv
        rw [List.getElem?_toArray, List.getElem?_eq_none_iff]; walk_at "om"
      refine wpAny_pyNext_tuple_end hA hl (isTuple_of e) hx fun h' x => ?_
      exact hnone hv { s with heap := h' } (hs.moved (liveOf x) n1 n2) (liveOf x)
  | rng n =>
    have ei : itemAt (.rng n) H i = if (i : Int) < n then some (.int i) else none := rfl
    rw [ei] at hsome hnone
    by_cases hlt : (i : Int) < n
    · rw [if_pos hlt] at hsome
      have hr : IsRangeIter s.heap it i (n - i) 1 := by
        rcases hit with h | ⟨h1, h2, h3⟩
        · exact h
        · walk_at "om"
      refine wpAny_pyNext_range_item hr (by walk_at "om") fun h' hr' sb => ?_
      have m : Moved it s { s with heap := h', toks := s.toks + 1 } := moved_same hoi him sb
      refine hsome _ rfl _ { s with heap := h', toks := s.toks + 1 } (.int _ _) (hs.moved m n1 n2) (.inl ?_) m
      have e1 : (i : Int) + 1 = ((i + 1 : Nat) : Int) := by walk_at "om"
      have e2 : n - (i : Int) - 1 = n - ((i + 1 : Nat) : Int) := by walk_at "om"
      rw [e1, e2] at hr'
      exact hr'
    · rw [if_neg hlt] at hnone
      obtain ⟨x, lf, hr, hlf⟩ : ∃ x lf, IsRangeIter s.heap it x lf 1 ∧ lf ≤ 0 := by
        rcases hit with h | ⟨h1, h2, h3⟩
        · exact ⟨_, _, h, by walk_at "om"⟩
        · exact ⟨_, _, h3, by walk_at "om"⟩
      refine wpAny_pyNext_range_end hA hr hlf fun h' x => ?_
      exact hnone rfl { s with heap := h' } (hs.moved (liveOf x) n1 n2) (liveOf x)
end
inductive TgtPut (names : Names) : PySem.Expr → V → Vals → Vals → Prop
  | name {x : Str} {pos : Pos} {k : NameKind} {v : V} {vals vals' : Vals} : Put names vals x k v vals' → (k = .local ∨ k = .cell) → TgtPut names (.Name x pos) v vals vals'
  | tup {xs : List (Str × Pos)} {kk : Nat} {pos : Pos} {vs : List V} {vals vals' : Vals} : xs.length = vs.length → PutAll names vals ((xs.map (·.1)).zip vs) vals' → TgtPut names (.Tuple (nameExprs xs) kk pos) (.tup vs) vals vals'
noncomputable def isTgt : PySem.Expr → Bool
  | .Name .. => true
  | .Tuple .. => true
  | _ => false

section
variable {prog : Program} {w : World} {B : Heap} {A : Around} {E : Value → Shared → Prop} {names : Names} {vals vals' : Vals} {env : Env} {ρ : List Addr} {H : List O} {s : Shared} {it : Addr} {k : ItK} {i d : Nat}

theorem assign_tgt {target : PySem.Expr} {v : V} {x : Value} {Q : Unit → Shared → Prop} (hA : A.handled = none) (p : TgtPut names target v vals vals') (sr : SR w.params B env names vals ρ H s) (hv : VR ρ s.heap v x)
    (q : ∀ s', SR w.params B env names vals' ρ H s' → ExtF env ρ s ρ s' → Q () s') : wpAny (model prog w) A (assign target env x) Q E s := by
  cases p with
  | name p hk => exact wpAny_assign_Name (store_ok sr p hk hv q)
  | tup hl p =>
    rename_i xs kk pos vs
    obtain ⟨t, items, rfl, ht, hvs⟩ := hv.tup_inv
    have hil := hvs.length
    refine wpAny_assign_Tuple hA (isTuple_of ht) (by rw [assignEach_names]; simp [hil, hl]) (star_names xs env) fun h' x' => ?_
    obtain ⟨hs', ex'⟩ := ext_end sr.hs x'
    rw [assignEach_names, List.map_map]
    exact assign_all (xs := xs) (sr.ext ex' hs') p hl (ex'.vrs hvs) fun s₂ sr₂ e₂ => q s₂ sr₂ (ex'.toF.trans e₂)

theorem letgo_it {target : PySem.Expr} {x : Value} {Q : Unit → Shared → Prop} (ht : isTgt target = true) (hit : ItAt ρ s.heap it k i) (q : Q () s) : wpAny (model prog w) A (letOwnedTupleGo target (.ref it) x) Q E s := by
  cases target <;> first | cases ht | skip
  case Name => exact wpAny_pure q
  case Tuple =>
    cases x <;> first | exact wpAny_pure q | skip
    rename_i a
    cases k with
    | list n =>
      obtain ⟨_, _, o, ho, hc, hd⟩ := hit
      unfold letOwnedTupleGo
      refine wpAny_bind (wpAny_load ho ?_)
      rw [hc, hd]
      dsimp only
      rw [if_neg (by simp)]
      exact wpAny_pure q
    | tup vs =>
      obtain ⟨_, _, _, _, o, ho, hc, hd⟩ := hit
      unfold letOwnedTupleGo
      refine wpAny_bind (wpAny_load ho ?_)
      rw [hc, hd]
      dsimp only
      rw [if_neg (by simp)]
      exact wpAny_pure q
    | rng n =>
      rcases hit with hit | ⟨_, _, hit⟩ <;>
      · unfold letOwnedTupleGo
        refine wpAny_bind (wpAny_load hit ?_)
        dsimp only
        rw [if_neg (by simp)]
        exact wpAny_pure q
theorem TgtPut.isTgt {target : PySem.Expr} {v : V} (p : TgtPut names target v vals vals') : isTgt target = true := by cases p <;> rfl

theorem ev1_For {target iter : PySem.Expr} {body : List Stmt} {pos : Pos} {Q : Fl → Vals → List O → Prop} (k : ItK) (N : Nat) (Inv : Nat → Vals → List O → Prop) (hf : ∀ env x, foldedSetIterable iter env x = pure x)
    (h : EvE prog w B names d iter vals H fun v H₁ => IterOf v k ∧ Inv 0 vals H₁)
    (lv : ∀ i vals H, Inv i vals H → Live k H ∧ i ≤ N)
    (done : ∀ i vals H, Inv i vals H → itemAt k H i = none → Q .next vals H)
    (turn : ∀ i vals H v, Inv i vals H → itemAt k H i = some v → ∃ vals', TgtPut names target v vals vals' ∧ EvS prog w B names d body vals' H fun f vals'' H'' => match f with
      | .next | .cont => Inv (i + 1) vals'' H''
      | .brk => Q .next vals'' H''
      | .ret u => Q (.ret u) vals'' H'') : Ev1 prog w B names d (.For target iter body [] pos) vals H Q := by
  constructor
  intro env ρ s sr A E r
  refine wpAny_For (h.go sr r fun v x H₁ ρ₁ s₁ va sr₁ e₁ ⟨ik, hI⟩ => ?_) (hf env)
  refine iter_of (prog := prog) sr₁.hs va ik (lv _ _ _ hI).1 fun it s₂ hs₂ kp hg ho hit hnone => ?_
  have ex₂ : Ext ρ₁ s₁ ρ₁ s₂ := .keeps kp hg ho
  have sr₂ := sr₁.ext ex₂ hs₂
  have n1 : it ∉ ρ₁ := (sr₁.hs.fresh hnone).1
  have n2 : B.get? it = none := (sr₁.hs.fresh hnone).2
  have n0 : s.heap.get? it = none := fresh_back e₁.pre' e₁.keep e₁.live hnone
  have n3 : it ≠ env.locals := fun q => by obtain ⟨o, _, _, e, _⟩ := sr.fr.there; rw [← q, n0] at e; cases e
  have n4 : ∀ (y : Str) (c : Addr), env.cells.lookup y = some c → it ≠ c := fun y c hc q => by obtain ⟨o, e⟩ := sr.fr.cthere y c hc; rw [← q, n0] at e; cases e
  refine codeAny_forLoop_any (fun n s' => ∃ i vals' H' ρ', n = N - i ∧ Inv i vals' H' ∧ SR w.params B env names vals' ρ' H' s' ∧ ExtF env ρ s ρ' s' ∧ ItAt ρ' s'.heap it k i ∧ it ∉ ρ') ?_ N ⟨0, vals, H₁, ρ₁, by simp, hI, sr₂, (e₁.trans ex₂).toF, hit, n1⟩
  rintro n s' ⟨i, vals', H', ρ', rfl, hI', sr', e', hit', n1'⟩
  refine next_it (prog := prog) r.hand sr'.hs hit' n1' n2 (lv _ _ _ hI').1 (fun v hv x s₃ vx hs₃ hit₃ m => ?_) fun hn s₃ hs₃ m => ?_
  · obtain ⟨vals₃, tp, hb⟩ := turn i vals' H' v hI' hv
    have sr₃ := sr'.moved m n1' n2 n3 n4
    have e₃ := e'.moved m n0
    refine letgo_it tp.isTgt hit₃ (assign_tgt r.hand tp sr₃ vx fun s₄ sr₄ e₄ => ?_)
    have hit₄ := hit₃.keep (ρ' := ρ') ⟨[], by simp⟩ e₄.tup fun o ho => e₄.keep _ _ ho n1' n3 n4
    have e₄' := e₃.trans e₄
    refine wpAny_mono (WS.go' hb env ρ' s₄ sr₄ A _ r) (fun fl s₅ ⟨f, v2, H2, ρ2, a2, b2, c2, q2⟩ => ?_) fun _ _ e => e
    have ee := e₄'.trans c2
    have it5 : ItAt ρ2 s₅.heap it k (i + 1) ∧ it ∉ ρ2 := by
      obtain ⟨oi, hoi, _⟩ := hit₄.there
      exact ⟨hit₄.keep c2.pre' c2.tup fun o ho => c2.keep _ _ ho n1' n3 n4, c2.notin hoi n1'⟩
    cases a2 with
    | next => exact ⟨N - (i + 1), by have := (lv _ _ _ q2).2; walk_at "om", i + 1, v2, H2, ρ2, rfl, q2, b2, ee, it5.1, it5.2⟩
    | cont => exact ⟨N - (i + 1), by have := (lv _ _ _ q2).2; walk_at "om", i + 1, v2, H2, ρ2, rfl, q2, b2, ee, it5.1, it5.2⟩
    | brk => exact ⟨_, v2, H2, ρ2, .next, b2, ee, q2⟩
    | ret hv => exact ⟨_, v2, H2, ρ2, .ret hv, b2, ee, q2⟩
  · exact wpAny_execs_nil ⟨_, vals', H', ρ', .next, sr'.moved m n1' n2 n3 n4, e'.moved m n0, done _ _ _ hI' hn⟩
end
/-- the names of a comprehension's own scope, as they stand in its frame -/
inductive Relab (names : Names) : Names → Names → Prop
  | nil : Relab names [] []
  | same {x : Str} {k : NameKind} {ns ns' : Names} : (k = .local ∨ k = .globalImplicit) → Relab names ns ns' → Relab names ((x, k) :: ns) ((x, k) :: ns')
  | cell {x : Str} {ns ns' : Names} : Has names x .cell → Relab names ns ns' → Relab names ((x, .free) :: ns) ((x, .cell) :: ns')
inductive CompV (names : Names) (vals : Vals) : Names → Vals → Prop
  | nil : CompV names vals [] []
  | take {x : Str} {v : V} {ns : Names} {vs : Vals} : Look names vals x .cell v → CompV names vals ns vs → CompV names vals ((x, .cell) :: ns) (some v :: vs)
  | skip {p : Str × NameKind} {ns : Names} {vs : Vals} : CompV names vals ns vs → CompV names vals (p :: ns) (none :: vs)
/-- a name that stands bare gets its first value -/
inductive PutN : Names → Vals → Str → V → Vals → Prop
  | here {x : Str} {ns : Names} {v : V} {vs : Vals} : PutN ((x, .local) :: ns) (none :: vs) x v (some v :: vs)
  | there {n : Str × NameKind} {o : Option V} {ns : Names} {vs vs' : Vals} {x : Str} {v : V} : PutN ns vs x v vs' → PutN (n :: ns) (o :: vs) x v (o :: vs')
inductive PutNs (names : Names) : Vals → List (Str × V) → Vals → Prop
  | nil {vs : Vals} : PutNs names vs [] vs
  | cons {vs vs₁ vs₂ : Vals} {x : Str} {v : V} {r : List (Str × V)} : PutN names vs x v vs₁ → PutNs names vs₁ r vs₂ → PutNs names vs ((x, v) :: r) vs₂
inductive TgtN (names : Names) : PySem.Expr → V → Vals → Vals → Prop
  | name {x : Str} {pos : Pos} {v : V} {vals vals' : Vals} : PutN names vals x v vals' → TgtN names (.Name x pos) v vals vals'
  | tup {xs : List (Str × Pos)} {kk : Nat} {pos : Pos} {vs : List V} {vals vals' : Vals} : xs.length = vs.length → PutNs names vals ((xs.map (·.1)).zip vs) vals' → TgtN names (.Tuple (nameExprs xs) kk pos) (.tup vs) vals vals'
theorem TgtN.isTgt {names : Names} {target : PySem.Expr} {v : V} {vals vals' : Vals} (p : TgtN names target v vals vals') : isTgt target = true := by cases p <;> rfl
noncomputable def Less (a b : Vals) : Prop := a.length = b.length ∧ ∀ (i : Nat) (v : V), a[i]? = some (some v) → b[i]? = some (some v)
theorem Less.refl (a : Vals) : Less a a := ⟨rfl, fun _ _ h => h⟩
theorem Less.trans {a b c : Vals} (x : Less a b) (y : Less b c) : Less a c := ⟨x.1.trans y.1, fun i v h => y.2 i v (x.2 i v h)⟩
theorem PutN.less {names : Names} {vals vals' : Vals} {x : Str} {v : V} (p : PutN names vals x v vals') : Less vals vals' := by
  induction p with
  | here => exact ⟨rfl, fun i v h => by cases i with
    | zero => simp at h
    | succ i => simpa using h⟩
  | there _ ih => exact ⟨by rw [List.length_cons, List.length_cons, ih.1], fun i v h => by cases i with
    | zero => simpa using h
    | succ i => simp only [List.getElem?_cons_succ] at h ⊢; exact ih.2 i v h⟩
theorem PutN.put {names : Names} {vals vals' : Vals} {x : Str} {v : V} (p : PutN names vals x v vals') : Put names vals x .local v vals' := by
  induction p with
  | here => exact .here
  | there _ ih => exact .there ih
theorem PutNs.less {names : Names} {vals vals' : Vals} {l : List (Str × V)} (p : PutNs names vals l vals') : Less vals vals' := by
  induction p with
  | nil => exact .refl _
  | cons a _ ih => exact a.less.trans ih
theorem TgtN.less {names : Names} {target : PySem.Expr} {v : V} {vals vals' : Vals} (p : TgtN names target v vals vals') : Less vals vals' := by
  cases p with
  | name p => exact p.less
  | tup _ p => exact p.less

theorem Relab.kinds {names : Names} {ns ns' : Names} (r : Relab names ns ns') : (∀ y ∈ ns, y.2 ≠ .cell) ∧ (∀ y ∈ ns, y.2 = .free → Has names y.1 .cell) ∧ ns.map (·.1) = ns'.map (·.1) ∧ (∀ y ∈ ns', y.2 = .cell → (y.1, NameKind.free) ∈ ns) ∧ (∀ y ∈ ns', y.2 ≠ .free) := by
  induction r with
  | nil => simp
  | same hk r ih =>
    obtain ⟨a, b, c, d, e⟩ := ih
    refine ⟨fun y hy => ?_, fun y hy => ?_, by simp [c], fun y hy => ?_, fun y hy => ?_⟩ <;> rcases List.mem_cons.mp hy with rfl | hy
    · rcases hk with rfl | rfl <;> simp
    · exact a y hy
    · rcases hk with rfl | rfl <;> simp
    · exact b y hy
    · rcases hk with rfl | rfl <;> simp
    · exact fun h => .tail _ (d y hy h)
    · rcases hk with rfl | rfl <;> simp
    · exact e y hy
  | cell hk r ih =>
    obtain ⟨a, b, c, d, e⟩ := ih
    refine ⟨fun y hy => ?_, fun y hy => ?_, by simp [c], fun y hy => ?_, fun y hy => ?_⟩ <;> rcases List.mem_cons.mp hy with rfl | hy
    · simp
    · exact a y hy
    · exact fun _ => hk
    · exact b y hy
    · exact fun _ => .head _
    · exact fun h => .tail _ (d y hy h)
    · simp
    · exact e y hy
theorem Has.look {names : Names} (hn : (names.map (·.1)).Nodup) {x : Str} {k : NameKind} (h : Has names x k) : names.lookup x = some k := let ⟨_, e⟩ := h.get; lookup_of_get hn e
theorem relab_eq {names : Names} {env : Env} (ok : EnvOk env names) {ns ns' : Names} (r : Relab names ns ns') :
    (ns.map fun (n, k) => if (k == NameKind.free && env.scope.kind == .function && env.kindOf n == some .cell) then (n, NameKind.cell) else (n, k)) = ns' := by
  induction r with
  | nil => rfl
  | same hk r ih =>
    rw [List.map_cons, ih]
    rcases hk with rfl | rfl <;> rfl
  | @cell x _ _ hk r ih =>
    rw [List.map_cons, ih]
    have : env.kindOf x = some .cell := by show env.scope.names.lookup _ = _; rw [ok.nm]; exact hk.look ok.nod
    simp only [this, ok.kind]
    rfl

theorem closure_ok {names : Names} {env : Env} (hc : ∀ (x : Str), Has names x .cell → ∃ c, env.cells.lookup x = some c) : ∀ (ns : Names) (acc : List (Str × Addr)), (∀ y ∈ ns, y.2 = .free → Has names y.1 .cell) →
    ∃ l : List (Str × Addr), (forIn ns acc fun x cs => do
      let (name, kind) := x
      if kind == .free then do
        let a ← cellOf env name
        pure (ForInStep.yield ((name, a) :: cs))
      else pure (ForInStep.yield cs) : Sem (List (Str × Addr))) = pure (l.reverse ++ acc) ∧ l.map (·.1) = (ns.filter fun y => y.2 == .free).map (·.1) ∧ ∀ p ∈ l, env.cells.lookup p.1 = some p.2
  | [], acc, _ => ⟨[], rfl, rfl, fun p hp => nomatch hp⟩
  | (x, k) :: ns, acc, h => by
    by_cases hk : k = .free
    · subst hk
      obtain ⟨c, hx⟩ := hc x (h _ (.head _) rfl)
      obtain ⟨l, e1, e2, e3⟩ := closure_ok hc ns ((x, c) :: acc) fun y hy => h y (.tail _ hy)
      refine ⟨(x, c) :: l, ?_, by simp [e2], fun p hp => ?_⟩
      · rw [List.forIn_cons]
        have hco : cellOf env x = pure c := by unfold cellOf; rw [hx]
        dsimp only
        rw [hco, if_pos (by rfl), pure_bind, pure_bind]
        dsimp only
        exact e1.trans (by simp)
      · rcases List.mem_cons.mp hp with rfl | hp
        · exact hx
        · exact e3 p hp
    · obtain ⟨l, e1, e2, e3⟩ := closure_ok hc ns acc fun y hy => h y (.tail _ hy)
      refine ⟨l, ?_, ?_, e3⟩
      · rw [List.forIn_cons]
        have : (k == NameKind.free) = false := beq_eq_false_iff_ne.mpr hk
        simp only [this, Bool.false_eq_true, if_false, pure_bind]
        exact e1
      · rw [e2, List.filter_cons]
        have : (k == NameKind.free) = false := beq_eq_false_iff_ne.mpr hk
        simp [this]
theorem closure_for {names : Names} {env : Env} {scope : Scope} (hc : ∀ (x : Str), Has names x .cell → ∃ c, env.cells.lookup x = some c) (h : ∀ y ∈ scope.names, y.2 = .free → Has names y.1 .cell) :
    ∃ l : List (Str × Addr), closureFor scope env = pure l ∧ l.map (·.1) = ((scope.names.filter fun y => y.2 == .free).map (·.1)).reverse ∧ ∀ p ∈ l, env.cells.lookup p.1 = some p.2 := by
  obtain ⟨l, e1, e2, e3⟩ := closure_ok hc scope.names [] h
  refine ⟨l.reverse, ?_, by rw [List.map_reverse, e2], fun p hp => e3 p (List.mem_reverse.mp hp)⟩
  unfold closureFor
  rw [show l.reverse = l.reverse ++ [] by simp]
  simpa using e1
theorem lookup_of_mem {l : List (Str × Addr)} (hn : (l.map (·.1)).Nodup) {x : Str} {c : Addr} (h : (x, c) ∈ l) : l.lookup x = some c := by
  induction l with
  | nil => cases h
  | cons p r ih =>
    obtain ⟨y, c'⟩ := p
    rw [List.map_cons, List.nodup_cons] at hn
    rcases List.mem_cons.mp h with e | h
    · cases e; rw [List.lookup_cons]; simp
    · have : (x == y) = false := beq_eq_false_iff_ne.mpr fun q => hn.1 (List.mem_map.mpr ⟨(x, c), h, q⟩)
      rw [List.lookup_cons, this]; exact ih hn.2 h

section
variable {prog : Program} {w : World} {B : Heap} {A : Around} {E : Value → Shared → Prop} {names : Names} {vals vals' : Vals} {env : Env} {ρ : List Addr} {H : List O} {s : Shared} {it : Addr} {k : ItK} {i d : Nat}

theorem SR.less (x : SR w.params B env names vals ρ H s) (l : Less vals' vals) : SR w.params B env names vals' ρ H s :=
  ⟨x.ok, x.hs, ⟨l.1.trans x.fr.len, let ⟨m, a, b⟩ := x.fr.ns; ⟨m, a, fun i y v h1 h2 => b i y v h1 (l.2 i v h2)⟩, fun i y k v h1 h2 h3 => x.fr.cl i y k v h1 h2 (l.2 i v h3), x.fr.cany, x.fr.capart, x.fr.sepL, x.fr.sepC, x.fr.cthere, x.fr.above⟩⟩

/-- a local name is bound: nothing but the frame's dict changes -/
theorem store_loc {x : Str} {v : V} {a : Value} {Q : Unit → Shared → Prop} (sr : SR w.params B env names vals ρ H s) (p : Put names vals x .local v vals') (hv : VR ρ s.heap v a)
    (q : ∀ s', SR w.params B env names vals' ρ H s' → Moved env.locals s s' → Q () s') : wpAny (model prog w) A (storeName env x a) Q E s := by
  have hp : ∃ t, ρ = ρ ++ t := ⟨[], by simp⟩
  obtain ⟨i, hi, hl, rfl⟩ := p.get
  obtain ⟨m, hm, hmm⟩ := sr.fr.ns
  refine wpAny_storeName_local (sr.ok.kindOf hi) hm (fun h' hn hs => ?_) sr.ok.plain
  obtain ⟨o, es, ep, ho, hd, _⟩ := hm
  have tk := sameBut_tup hs ho (not_imm_dict hd)
  refine q { s with heap := h', toks := s.toks + 1 } ⟨sr.ok, sr.hs.aside (s' := { s with heap := h', toks := s.toks + 1 }) (wr := [env.locals]) (fun b ob hb e => (hs.2 b (by simpa using hb)).trans e) (fun b hb => by simp at hb; subst hb; exact ⟨sr.fr.sepL, sr.fr.above⟩) tk,
    FR.vals_local (s' := { s with heap := h', toks := s.toks + 1 }) sr.ok sr.fr hi (hv.mono hp tk) ⟨o, es, ep, ho, hd, ‹_›⟩ hmm hn hs tk⟩ ⟨fun b ob hb e => (hs.2 b hb).trans e, tk, rfl, rfl⟩
theorem Moved.trans {a : Addr} {s s' s'' : Shared} (x : Moved a s s') (y : Moved a s' s'') : Moved a s s'' :=
  ⟨fun b o hb e => y.keep b o hb (x.keep b o hb e), x.tup.trans y.tup, y.gens.trans x.gens, y.os.trans x.os⟩
theorem Moved.refl (a : Addr) (s : Shared) : Moved a s s := ⟨fun _ _ _ e => e, fun _ _ _ e => e, rfl, rfl⟩
theorem assign_locs {xs : List (Str × Pos)} {vs : List V} {as : List Value} {Q : Unit → Shared → Prop} (sr : SR w.params B env names vals ρ H s) (p : PutNs names vals ((xs.map (·.1)).zip vs) vals') (hl : xs.length = vs.length) (hv : VRs ρ s.heap vs as)
    (q : ∀ s', SR w.params B env names vals' ρ H s' → Moved env.locals s s' → Q () s') : wpAny (model prog w) A (assignInOrder (xs.map fun x => assign (.Name x.1 x.2) env) as) Q E s := by
  induction xs generalizing vs as vals s with
  | nil =>
    cases vs with
    | nil => cases hv; cases p; exact wpAny_assignInOrder_none (q s sr (.refl _ _))
    | cons => cases hl
  | cons x xs ih =>
    cases vs with
    | nil => cases hl
    | cons v vs =>
      cases hv with
      | cons hv hr =>
        cases p with
        | cons p1 p2 =>
          refine wpAny_assignInOrder_more (wpAny_assign_Name (store_loc sr p1.put hv fun s₁ sr₁ e₁ => ?_))
          exact ih sr₁ p2 (by simpa using hl) (hr.mono ⟨[], by simp⟩ e₁.tup) fun s' sr' e' => q s' sr' (e₁.trans e')
theorem assign_tgtN {target : PySem.Expr} {v : V} {x : Value} {Q : Unit → Shared → Prop} (hA : A.handled = none) (p : TgtN names target v vals vals') (sr : SR w.params B env names vals ρ H s) (hv : VR ρ s.heap v x)
    (q : ∀ s', SR w.params B env names vals' ρ H s' → Moved env.locals s s' → Q () s') : wpAny (model prog w) A (assign target env x) Q E s := by
  cases p with
  | name p => exact wpAny_assign_Name (store_loc sr p.put hv q)
  | tup hl p =>
    rename_i xs kk pos vs
    obtain ⟨t, items, rfl, ht, hvs⟩ := hv.tup_inv
    have hil := hvs.length
    refine wpAny_assign_Tuple hA (isTuple_of ht) (by rw [assignEach_names]; simp [hil, hl]) (star_names xs env) fun h' x' => ?_
    obtain ⟨hs', ex'⟩ := ext_end sr.hs x'
    rw [assignEach_names, List.map_map]
    refine assign_locs (xs := xs) (sr.ext ex' hs') p hl (ex'.vrs hvs) fun s₂ sr₂ e₂ => q s₂ sr₂ (Moved.trans ⟨fun b o hb e => x' b o (Nat.ne_of_lt (Heap.lt_size e)) e, ex'.tup, rfl, rfl⟩ e₂)

theorem compLoop_tests {elt target iter : PySem.Expr} {ifs : List PySem.Expr} {scope : Scope} {pos : Pos} {it acc : Value} {env : Env} {R : Result → Shared → Prop} (I : Nat → Shared → Prop)
    (turn : ∀ n s, I n s → wpAny (model prog w) A (pyNext it) (fun r s₁ => match r with
      | none => R (.ok .next) s₁
      | some v => wpAny (model prog w) A (letOwnedTupleGo target it v) (fun _ s₁ => wpAny (model prog w) A (assign target env v) (fun _ s₂ =>
          wpAny (model prog w) A (forIn ifs true fun c r => if r = true then do let ok ← isTrue c env (eval c env); pure (ForInStep.yield ok) else pure (ForInStep.yield r)) (fun ok s₃ =>
            if ok = true then wpAny (model prog w) A (eval elt env) (fun x s₄ =>
              wpAny (model prog w) A (call (.builtin "list.append") [acc, x]) (fun _ s₅ => ∃ m, m < n ∧ I m s₅) (notedBy (model prog w) A env fun e s' => R (.error e) s') s₄) (notedBy (model prog w) A env fun e s' => R (.error e) s') s₃
            else ∃ m, m < n ∧ I m s₃) (notedBy (model prog w) A env fun e s' => R (.error e) s') s₂) (notedBy (model prog w) A env fun e s' => R (.error e) s') s₁) (notedBy (model prog w) A env fun e s' => R (.error e) s') s₁) (notedBy (model prog w) A env fun e s' => R (.error e) s') s)
    (n : Nat) (h : I n s) :
    codeAny (model prog w) A (.compLoop (.ListComp elt [⟨target, iter, ifs, 0⟩] scope pos) 0 it acc env) R s := by
  refine codeAny_loop rfl I (fun n s hI => ?_) n h
  show wpAny _ A ((compTurn (.ListComp elt [⟨target, iter, ifs, 0⟩] scope pos) 0 it acc env).onRaise (fun x => do noteFrame x env; theTreesLotGoes x)) _ _ s
  refine wpAny_noted ?_
  rw [compTurn_list]
  refine wpAny_bind (wpAny_standAt (wpAny_bind (wpAny_mono (turn n s hI) (fun r s₁ h₁ => ?_) fun _ _ h' => h')))
  cases r with
  | none => exact wpAny_pure h₁
  | some v =>
    refine wpAny_bind (wpAny_mono h₁ (fun _ s₁' h₁ => ?_) fun _ _ h' => h')
    refine wpAny_bind (wpAny_mono h₁ (fun _ s₂ h₂ => wpAny_bind (wpAny_mono h₂ (fun ok s₃ h₃ => ?_) fun _ _ h' => h')) fun _ _ h' => h')
    cases ok with
    | false => exact wpAny_pure ⟨rfl, h₃⟩
    | true =>
      exact wpAny_bind (wpAny_bind (wpAny_mono h₃ (fun x s₄ h₄ => wpAny_bind (wpAny_mono h₄ (fun _ s₅ h₅ => wpAny_pure (wpAny_pure ⟨rfl, h₅⟩)) fun _ _ h' => h')) fun _ _ h' => h'))
end
noncomputable def EvIfs (prog : Program) (w : World) (B : Heap) (names : Names) (d : Nat) : List PySem.Expr → Vals → List O → (Bool → List O → Prop) → Prop
  | [], _, H, Q => Q true H
  | [c], vals, H, Q => EvT prog w B names d c vals H Q
  | _, _, _, _ => False

section
variable {prog : Program} {w : World} {B : Heap} {A : Around} {E : Value → Shared → Prop} {names names' : Names} {vals vals' : Vals} {env : Env} {ρ : List Addr} {H : List O} {s : Shared} {k : ItK} {d a N : Nat}

theorem ifs_go {ifs : List PySem.Expr} {Q : Bool → List O → Prop} {R : Bool → Shared → Prop} (r : Room A d) (sr : SR w.params B env names vals ρ H s) (h : EvIfs prog w B names d ifs vals H Q)
    (q : ∀ b H₁ ρ₁ s₁, SR w.params B env names vals ρ₁ H₁ s₁ → Ext ρ s ρ₁ s₁ → Q b H₁ → R b s₁) :
    wpAny (model prog w) A (forIn ifs true fun c r => if r = true then do let ok ← isTrue c env (eval c env); pure (ForInStep.yield ok) else pure (ForInStep.yield r)) R E s := by
  match ifs, h with
  | [], h => exact wpAny_tests_nil (q true H ρ s sr (.refl _ _) h)
  | [c], h => exact wpAny_tests_one (EvT.go h sr r fun b H₁ ρ₁ s₁ sr₁ e₁ h₁ => q b H₁ ρ₁ s₁ sr₁ e₁ h₁)

theorem comp_sr {scope : Scope} {cl : List (Str × Addr)} {C : Addr} {h' : Heap} {tk : Nat} {ρ' : List Addr} {H' : List O} (sr : SR w.params B env names vals ρ H s) (hkind : scope.kind = .function) (rl : Relab names scope.names names') (hnod : (scope.names.map (·.1)).Nodup)
    (hdbg : ∀ x ∈ names', (x.1 == ("__debug__" : Str)) = false ∧ (x.1 == ("__classdict__" : Str)) = false) (cv : CompV names vals names' vals') (hcl1 : cl.map (·.1) = ((scope.names.filter fun y => y.2 == .free).map (·.1)).reverse) (hcl : ∀ p ∈ cl, env.cells.lookup p.1 = some p.2)
    (ex : Ext ρ s ρ' { s with heap := h', toks := tk }) (hs' : HS w.params B ρ' H' { s with heap := h', toks := tk }) (hC : h'.Ns C fun _ => none) (hC0 : s.heap.get? C = none) (hC1 : C ∉ ρ') (hC2 : B.get? C = none) :
    SR w.params B (compEnvC scope cl C env) names' vals' ρ' H' { s with heap := h', toks := tk } := by
  obtain ⟨k1, k2, k3, k4, k5⟩ := rl.kinds
  have hcn : (cl.map (·.1)).Nodup := by
    rw [hcl1]
    unfold List.Nodup
    rw [List.pairwise_reverse]
    exact (List.Sublist.nodup (List.Sublist.map _ List.filter_sublist) hnod).imp fun h => h.symm
  have fr' := sr.fr.ext ex
  have ok := sr.ok
  have up : ∀ {x : Str} {c : Addr}, cl.lookup x = some c → env.cells.lookup x = some c := fun e => hcl _ (mem_of_lookup e)
  have down : ∀ {x : Str}, (x, NameKind.cell) ∈ names' → ∃ c, cl.lookup x = some c := fun {x} hm => by
    have hf := k4 _ hm rfl
    have : x ∈ cl.map (·.1) := by
      rw [hcl1, List.mem_reverse]
      exact List.mem_map.mpr ⟨(x, .free), List.mem_filter.mpr ⟨hf, rfl⟩, rfl⟩
    obtain ⟨p, hp, rfl⟩ := List.mem_map.mp this
    exact ⟨p.2, lookup_of_mem hcn hp⟩
  have clen : vals'.length = names'.length := by
    clear hdbg k4 k5 down ok fr' rl k1 k2 k3
    induction cv with
    | nil => rfl
    | take _ _ ih => simp [ih]
    | skip _ ih => simp [ih]
  have cval : ∀ (i : Nat) (x : Str) (k : NameKind) (v : V), names'[i]? = some (x, k) → vals'[i]? = some (some v) → k = .cell ∧ Look names vals x .cell v := by
    clear hdbg k4 k5 down ok fr' rl k1 k2 k3 clen
    induction cv with
    | nil => intro i x k v h; simp at h
    | take hl _ ih =>
      intro i x k v h1 h2
      cases i with
      | zero =>
        simp only [List.getElem?_cons_zero, Option.some.injEq, Prod.mk.injEq] at h1 h2
        obtain ⟨rfl, rfl⟩ := h1
        subst h2
        exact ⟨rfl, hl⟩
      | succ i => exact ih i x k v (by simpa using h1) (by simpa using h2)
    | skip _ ih =>
      intro i x k v h1 h2
      cases i with
      | zero => simp at h2
      | succ i => exact ih i x k v (by simpa using h1) (by simpa using h2)
  have cellNe : ∀ (x : Str) (c : Addr), env.cells.lookup x = some c → c ≠ C := fun x c e q => by obtain ⟨o, ho⟩ := sr.fr.cthere x c e; rw [q, hC0] at ho; cases ho
  refine ⟨⟨relab_eq ok rl, ?_, ok.glob, ok.bi, by rw [← k3]; exact hnod, hdbg⟩, hs', clen, ⟨_, hC, fun i y v h1 h2 => ?_⟩, fun i y k v h1 h2 h3 => ?_, fun i y h1 => ?_, ?_, hC1, fun y c e => ⟨(fr'.sepC y c (up e)).1, cellNe y c (up e)⟩, fun y c e => fr'.cthere y c (up e), hC2⟩
  · show (relabel scope env).kind = _; exact hkind
  · exact absurd (cval i y _ v h1 h2).1 (by decide)
  · obtain ⟨rfl, hl⟩ := cval i y k v h1 h3
    obtain ⟨j, e1, e2⟩ := hl.get
    obtain ⟨c, x, q1, q2, q3⟩ := fr'.cl j y .cell v e1 (.inl rfl) e2
    obtain ⟨c', hc'⟩ := down (List.mem_of_getElem? h1)
    have := up hc'
    rw [q1] at this; cases this
    exact ⟨_, x, hc', q2, q3⟩
  · obtain ⟨c', hc'⟩ := down (List.mem_of_getElem? h1)
    have hh : Has names y .cell := k2 _ (k4 _ (List.mem_of_getElem? h1) rfl) rfl
    obtain ⟨j, hj⟩ := hh.get
    obtain ⟨c, v₀, q1, q2, q3⟩ := fr'.cany j y hj
    have := up hc'
    rw [q1] at this; cases this
    exact ⟨_, v₀, hc', q2, q3⟩
  · show cl.Pairwise fun x y => x.2 ≠ y.2
    have : ∀ l : List (Str × Addr), (∀ p ∈ l, env.cells.lookup p.1 = some p.2) → (l.map (·.1)).Nodup → l.Pairwise fun x y => x.2 ≠ y.2 := by
      intro l
      induction l with
      | nil => intro _ _; exact .nil
      | cons p r ih =>
        intro h1 h2
        rw [List.map_cons, List.nodup_cons] at h2
        refine .cons (fun q hq e => ?_) (ih (fun q hq => h1 q (.tail _ hq)) h2.2)
        have a1 := mem_of_lookup (h1 p (.head _))
        have a2 := mem_of_lookup (h1 q (.tail _ hq))
        rw [← e] at a2
        have := name_of_addr sr.fr.capart a1 a2
        exact h2.1 (List.mem_map.mpr ⟨q, hq, this.symm⟩)
    exact this cl hcl hcn

theorem self_iter {it : Addr} {i : Nat} {Q : Value → Shared → Prop} (hit : ItAt ρ s.heap it k i) (q : Q (.ref it) s) : wpAny (model prog w) A (pyIter (.ref it)) Q E s := by
  cases k with
  | list n => obtain ⟨_, _, h⟩ := hit; exact wpAny_pyIter_listiter h q
  | tup vs => obtain ⟨_, _, _, _, h⟩ := hit; exact wpAny_pyIter_tupleiter h q
  | rng n => rcases hit with h | ⟨_, _, h⟩ <;> exact wpAny_pyIter_rangeiter h q

theorem comp_coreD {elt target iter : PySem.Expr} {ifs : List PySem.Expr} {scope : Scope} {pos pos₂ : Pos} {use : Option (Value → Sem Unit)} {Qc : Value → Shared → Prop} {Post : Nat → List O → Prop}
    (r : Room A d) (sr : SR w.params B env names vals ρ H s) (hf : ∀ env x, foldedSetIterable iter env x = pure x) (hkind : scope.kind = .function) (rl : Relab names scope.names names') (hnod : (scope.names.map (·.1)).Nodup)
    (hdbg : ∀ x ∈ names', (x.1 == ("__debug__" : Str)) = false ∧ (x.1 == ("__classdict__" : Str)) = false) (cv : CompV names vals names' vals')
    (h : EvE prog w B names d iter vals H fun v H₁ => ∃ (k : ItK) (a N : Nat) (Inv : Nat → List V → List O → Prop), IterOf v k ∧ H₁.length = a ∧ Live k H₁ ∧ Inv 0 [] (H₁ ++ [.list []]) ∧
      (∀ i ys H, Inv i ys H → Live k H ∧ i ≤ N ∧ H[a]? = some (.list ys) ∧ ys.length ≤ 1000000) ∧
      (∀ i ys H, Inv i ys H → itemAt k H i = none → Post a H) ∧
      (∀ i ys H v, Inv i ys H → itemAt k H i = some v → ∃ vals'', TgtN names' target v vals' vals'' ∧ EvIfs prog w B names' d ifs vals'' H fun ok H' =>
        (ok = true → EvE prog w B names' d elt vals'' H' fun y H'' => H''[a]? = some (.list ys) ∧ Inv (i + 1) (ys ++ [y]) (H''.set a (.list (ys ++ [y])))) ∧ (ok = false → Inv (i + 1) ys H')))
    (fin : ∀ a D C ρ' H' s', Post a H' → HS w.params B ρ' H' s' → Ext ρ s ρ' s' → ρ'[a]? = some D → s.heap.get? C = none → C ∉ ρ' → B.get? C = none → (∃ m, s'.heap.Ns C m) → compPost (model prog w) A E use Qc (.ref D) C (.ok .next) s') :
    wpAny (model prog w) A (comprehension (.ListComp elt [⟨target, iter, ifs, 0⟩] scope pos) scope env pos₂ (newList []) false (eval iter env) use) Qc E s := by
  obtain ⟨k1, k2, k3, k4, k5⟩ := rl.kinds
  have cellsThere : ∀ (x : Str), Has names x .cell → ∃ c, env.cells.lookup x = some c := fun x hx => by
    obtain ⟨j, hj⟩ := hx.get
    obtain ⟨c, _, q, _⟩ := sr.fr.cany j x hj
    exact ⟨c, q⟩
  obtain ⟨cl, hclos, hcl1, hcl⟩ := closure_for (scope := scope) cellsThere k2
  refine wpAny_comprehension_free (g := ⟨target, iter, ifs, 0⟩) (gs := []) rfl (hf env) hclos hkind (fun x hx hl => lookup_of_get hnod (List.mem_iff_getElem?.mp hx).choose_spec |>.trans (by rw [hl])) ?_
  refine h.go sr r fun v x H₁ ρ₁ s₁ va sr₁ e₁ ⟨k, a, N, Inv, ik, ha, lk, hI, lv, done, turn⟩ => ?_
  refine iter_of (prog := prog) sr₁.hs va ik lk fun it s₂ hs₂ kp hg ho hit hnone => ?_
  have ex₂ : Ext ρ₁ s₁ ρ₁ s₂ := .keeps kp hg ho
  have sr₂ := sr₁.ext ex₂ hs₂
  have n1 : it ∉ ρ₁ := (sr₁.hs.fresh hnone).1
  have n2 : B.get? it = none := (sr₁.hs.fresh hnone).2
  have n0 : s.heap.get? it = none := fresh_back e₁.pre' e₁.keep e₁.live hnone
  obtain ⟨oit, hoit, _⟩ := hit.there
  refine wpAny_newObj_type ?_
  obtain ⟨z1, z2, z3⟩ := new_list (ep := 0) (vs := []) (as := []) sr₂.hs .nil
  have sr₃ := sr₂.ext z2 z1
  refine wpAny_newFunctionEnv k1 (by intro y hy; simp at hy) (fun h₁ hns₁ hsb₁ => ?_) hkind
  dsimp only at hns₁ hsb₁ ⊢
  have hD0 : s₂.heap.get? s₂.heap.objs.size = none := get_end _
  -- the new heap
  generalize hH2 : s₂.heap.push { cls := .type "list", dict := none, data := .seq ([] : List Value).toArray } = H2 at hns₁ hsb₁ ⊢
  have hH2' : s₂.heap.push (listObj [] 0) = H2 := hH2
  rw [hH2'] at z1 z2 sr₃
  have hCsz : H2.objs.size = s₂.heap.objs.size + 1 := by rw [← hH2, Heap.size_push]
  have hCnone : H2.get? H2.objs.size = none := get_end _
  have keep₁ : ∀ b o, H2.get? b = some o → h₁.get? b = some o := fun b o e => hsb₁.extBut b o (Nat.ne_of_lt (Heap.lt_size e)) (Heap.get?_push_of_some _ e)
  have ex₄ : Ext (ρ₁ ++ [s₂.heap.objs.size]) { s₂ with heap := H2 } (ρ₁ ++ [s₂.heap.objs.size]) { s₂ with heap := h₁, toks := s₂.toks + ([] : List (Str × Value)).length } := .keeps keep₁ rfl rfl
  have hs₄ := z1.keeps (s' := { s₂ with heap := h₁, toks := s₂.toks + ([] : List (Str × Value)).length }) keep₁
  have exs : Ext ρ s (ρ₁ ++ [s₂.heap.objs.size]) { s₂ with heap := h₁, toks := s₂.toks + ([] : List (Str × Value)).length } := ((e₁.trans ex₂).trans z2).trans ex₄
  have hCs₂ : s₂.heap.get? H2.objs.size = none := by
    cases e : s₂.heap.get? H2.objs.size with
    | none => rfl
    | some o => exact absurd (Nat.lt_of_succ_lt (hCsz ▸ Heap.lt_size e)) (Nat.lt_irrefl _)
  have hCs₁ : s₁.heap.get? H2.objs.size = none := by
    cases e : s₁.heap.get? H2.objs.size with
    | none => rfl
    | some o => have := kp _ _ e; rw [hCs₂] at this; cases this
  have hC0 : s.heap.get? H2.objs.size = none := fresh_back e₁.pre' e₁.keep e₁.live hCs₁
  have hCρ : H2.objs.size ∉ ρ₁ ++ [s₂.heap.objs.size] := (z1.fresh (a := H2.objs.size) hCnone).1
  have hCB : B.get? H2.objs.size = none := (z1.fresh (a := H2.objs.size) hCnone).2
  have srC : SR w.params B (compEnvC scope cl H2.objs.size env) names' vals' (ρ₁ ++ [s₂.heap.objs.size]) (H₁ ++ [.list []]) { s₂ with heap := h₁, toks := s₂.toks + ([] : List (Str × Value)).length } :=
    comp_sr (s := s₂) (h' := h₁) sr₂ hkind rl hnod hdbg cv hcl1 hcl (z2.trans ex₄) hs₄ (by simpa using hns₁) hCs₂ hCρ hCB
  have hitne : it ≠ H2.objs.size := fun q => by rw [q, hCs₂] at hoit; cases hoit
  have itneD : it ≠ s₂.heap.objs.size := fun q => by rw [q, hD0] at hoit; cases hoit
  have itC : ∀ (y : Str) (c : Addr), cl.lookup y = some c → it ≠ c := fun y c e q => by
    have := hcl _ (mem_of_lookup e)
    obtain ⟨o, ho⟩ := sr.fr.cthere y c this
    rw [← q, n0] at ho; cases ho
  have hnotin : it ∉ ρ₁ ++ [s₂.heap.objs.size] := by simp [n1, itneD]
  have hit₄ : ItAt (ρ₁ ++ [s₂.heap.objs.size]) h₁ it k 0 := hit.keep ⟨_, rfl⟩ (z2.tup.trans ex₄.tup) fun o e => keep₁ _ _ (by rw [← hH2]; exact Heap.get?_push_of_some _ e)
  have cellC : ∀ (y : Str) (c : Addr), cl.lookup y = some c → H2.objs.size ≠ c := fun y c e q => by
    have := hcl _ (mem_of_lookup e)
    obtain ⟨o, ho⟩ := sr.fr.cthere y c this
    rw [← q, hC0] at ho; cases ho
  have ha' : (ρ₁ ++ [s₂.heap.objs.size])[a]? = some s₂.heap.objs.size := ha ▸ z3
  have loop : ∀ s₃ : Shared, s₃ = { s₂ with heap := h₁, toks := s₂.toks + ([] : List (Str × Value)).length } →
      codeAny (model prog w) A (.compLoop (.ListComp elt [⟨target, iter, ifs, 0⟩] scope pos) 0 (.ref it) (.ref s₂.heap.objs.size) (compEnvC scope cl H2.objs.size env))
        (compPost (model prog w) A E use Qc (.ref s₂.heap.objs.size) H2.objs.size) s₃ := by
    rintro s₃ rfl
    refine compLoop_tests (fun n s' => ∃ i ys H' ρ', n = N - i ∧ Inv i ys H' ∧ SR w.params B (compEnvC scope cl H2.objs.size env) names' vals' ρ' H' s' ∧ Ext ρ s ρ' s' ∧ ItAt ρ' s'.heap it k i ∧ it ∉ ρ' ∧ H2.objs.size ∉ ρ' ∧ ρ'[a]? = some s₂.heap.objs.size) ?_ N
      ⟨0, [], _, _, by simp, hI, srC, exs, hit₄, hnotin, hCρ, ha'⟩
    rintro n s' ⟨i, ys, H', ρ', rfl, hI', sr', e', hit', n1', nC', hD'⟩
    obtain ⟨lk', hle, hacc, hlen⟩ := lv _ _ _ hI'
    refine next_it (prog := prog) r.hand sr'.hs hit' n1' n2 lk' (fun v hv x s₃ vx hs₃ hit₃ m => ?_) fun hn s₃ hs₃ m => ?_
    · obtain ⟨vals₃, tp, hb⟩ := turn i ys H' v hI' hv
      have sr₃ := sr'.moved m n1' n2 hitne itC
      have e₃ := e'.moved m n0
      refine letgo_it tp.isTgt hit₃ (assign_tgtN r.hand tp sr₃ vx fun s₄ sr₄ m₄ => ?_)
      have e₄ := e₃.moved m₄ hC0
      have hit₄ := hit₃.keep (ρ' := ρ') ⟨[], by simp⟩ m₄.tup fun o ho => m₄.keep _ _ hitne ho
      refine ifs_go r sr₄ hb fun ok H₅ ρ₅ s₅ sr₅ e₅ h₅ => ?_
      obtain ⟨oi, hoi, _⟩ := hit₄.there
      have hit₅ := hit₄.keep e₅.pre' e₅.tup fun o ho => e₅.keep _ _ ho n1'
      have n5 := e₅.notin hoi n1'
      obtain ⟨oC, esC, epC, hoC, _⟩ := sr₄.fr.there
      have nC5 : H2.objs.size ∉ ρ₅ := e₅.notin hoC nC'
      have hD5 : ρ₅[a]? = some s₂.heap.objs.size := by
        obtain ⟨t, et⟩ := e₅.pre'
        rw [et, List.getElem?_append_left (List.getElem?_eq_some_iff.mp hD').1]; exact hD'
      have es₅ := e₄.trans e₅
      cases ok with
      | false =>
        rw [if_neg (by decide)]
        have q := h₅.2 rfl
        exact ⟨N - (i + 1), by have := (lv _ _ _ q).2.1; walk_at "om", i + 1, ys, H₅, ρ₅, rfl, q, sr₅.less tp.less, es₅, hit₅, n5, nC5, hD5⟩
      | true =>
        rw [if_pos rfl]
        refine (h₅.1 rfl).go sr₅ r fun y xv H₆ ρ₆ s₆ vy sr₆ e₆ ⟨hacc₆, q⟩ => ?_
        obtain ⟨oi5, hoi5, _⟩ := hit₅.there
        have hit₆ := hit₅.keep e₆.pre' e₆.tup fun o ho => e₆.keep _ _ ho n5
        have n6 := e₆.notin hoi5 n5
        obtain ⟨oC5, _, _, hoC5, _⟩ := sr₅.fr.there
        have nC6 : H2.objs.size ∉ ρ₆ := e₆.notin hoC5 nC5
        have hD6 : ρ₆[a]? = some s₂.heap.objs.size := by
          obtain ⟨t, et⟩ := e₆.pre'
          rw [et, List.getElem?_append_left (List.getElem?_eq_some_iff.mp hD5).1]; exact hD5
        obtain ⟨fv, ef, _, hc⟩ := c_append (prog := prog) (w := w) (B := B) (d := d) (H := H₆) (v := y) (Q := fun _ H => H = H₆.set a (.list (ys ++ [y]))) hacc₆ hlen rfl
        cases ef
        refine wpAny_mono (hc ρ₆ s₆ [.ref s₂.heap.objs.size, xv] sr₆.hs (.cons (.ref hD6) (.cons vy .nil)) A _ r) (fun _ s₇ ⟨_, H₇, ρ₇, _, b1, b2, b3⟩ => ?_) fun _ _ e => e
        subst b3
        obtain ⟨oi6, hoi6, _⟩ := hit₆.there
        obtain ⟨oC6, _, _, hoC6, _⟩ := sr₆.fr.there
        have hD7 : ρ₇[a]? = some s₂.heap.objs.size := by
          obtain ⟨t, et⟩ := b2.pre'
          rw [et, List.getElem?_append_left (List.getElem?_eq_some_iff.mp hD6).1]; exact hD6
        exact ⟨N - (i + 1), by have := (lv _ _ _ q).2.1; walk_at "om", i + 1, ys ++ [y], _, ρ₇, rfl, q, (sr₆.ext b2 b1).less tp.less, (es₅.trans e₆).trans b2, hit₆.keep b2.pre' b2.tup fun o ho => b2.keep _ _ ho n6, b2.notin hoi6 n6, b2.notin hoC6 nC6, hD7⟩
    · have srn := sr'.moved m n1' n2 hitne itC
      obtain ⟨mm, hmm, _⟩ := srn.fr.ns
      exact fin a _ _ ρ' H' s₃ (done _ _ _ hI' hn) hs₃ (e'.moved m n0) hD' hC0 nC' hCB ⟨mm, hmm⟩
  refine codeAny_compStart_list (loop _ rfl) ?_
  have hitx : ItAt (ρ₁ ++ [s₂.heap.objs.size]) ({ s₂ with heap := h₁, toks := s₂.toks + ([] : List (Str × Value)).length } : Shared).heap it k 0 := hit₄
  exact self_iter hitx (loop _ rfl)
theorem comp_core {elt target iter : PySem.Expr} {ifs : List PySem.Expr} {scope : Scope} {pos pos₂ : Pos} {use : Option (Value → Sem Unit)} {Qc : Value → Shared → Prop} {Inv : Nat → List V → List O → Prop} {Post : List O → Prop}
    (r : Room A d) (sr : SR w.params B env names vals ρ H s) (hf : ∀ env x, foldedSetIterable iter env x = pure x) (hkind : scope.kind = .function) (rl : Relab names scope.names names') (hnod : (scope.names.map (·.1)).Nodup)
    (hdbg : ∀ x ∈ names', (x.1 == ("__debug__" : Str)) = false ∧ (x.1 == ("__classdict__" : Str)) = false) (cv : CompV names vals names' vals')
    (h : EvE prog w B names d iter vals H fun v H₁ => IterOf v k ∧ H₁.length = a ∧ Live k H₁ ∧ Inv 0 [] (H₁ ++ [.list []]))
    (lv : ∀ i ys H, Inv i ys H → Live k H ∧ i ≤ N ∧ H[a]? = some (.list ys) ∧ ys.length ≤ 1000000)
    (done : ∀ i ys H, Inv i ys H → itemAt k H i = none → Post H)
    (turn : ∀ i ys H v, Inv i ys H → itemAt k H i = some v → ∃ vals'', TgtN names' target v vals' vals'' ∧ EvIfs prog w B names' d ifs vals'' H fun ok H' =>
      (ok = true → EvE prog w B names' d elt vals'' H' fun y H'' => H''[a]? = some (.list ys) ∧ Inv (i + 1) (ys ++ [y]) (H''.set a (.list (ys ++ [y])))) ∧ (ok = false → Inv (i + 1) ys H'))
    (fin : ∀ D C ρ' H' s', Post H' → HS w.params B ρ' H' s' → Ext ρ s ρ' s' → ρ'[a]? = some D → s.heap.get? C = none → C ∉ ρ' → B.get? C = none → (∃ m, s'.heap.Ns C m) → compPost (model prog w) A E use Qc (.ref D) C (.ok .next) s') :
    wpAny (model prog w) A (comprehension (.ListComp elt [⟨target, iter, ifs, 0⟩] scope pos) scope env pos₂ (newList []) false (eval iter env) use) Qc E s := by
  refine comp_coreD (Post := fun a' H => a' = a ∧ Post H) r sr hf hkind rl hnod hdbg cv (h.mono ?_) ?_
  · rintro v H₁ ⟨h1, h2, h3, h4⟩
    exact ⟨k, a, N, Inv, h1, h2, h3, h4, lv, fun i ys H x y => ⟨rfl, done i ys H x y⟩, turn⟩
  · rintro a' D C ρ' H' s' ⟨rfl, q⟩
    exact fin D C ρ' H' s' q
end
section
variable {prog : Program} {w : World} {B : Heap} {A : Around} {E : Value → Shared → Prop} {names names' : Names} {vals vals' : Vals} {env : Env} {ρ : List Addr} {H : List O} {s : Shared} {k : ItK} {d a N : Nat}

theorem drop_comp {C : Addr} {h' : Heap} {m : Str → Option Value} {s₀ : Shared} {ρ₀ : List Addr} (hs : HS w.params B ρ H s) (ex : Ext ρ₀ s₀ ρ s) (hm : s.heap.Ns C m) (hC0 : s₀.heap.get? C = none) (hC1 : C ∉ ρ) (hC2 : B.get? C = none) (hb : Heap.SameBut C s.heap h') :
    HS w.params B ρ H { s with heap := h' } ∧ Ext ρ₀ s₀ ρ { s with heap := h' } ∧ Moved C s { s with heap := h' } := by
  obtain ⟨o, es, ep, ho, hd, _⟩ := hm
  have mv : Moved C s { s with heap := h' } := ⟨fun b ob hne e => (hb.2 b hne).trans e, sameBut_tup hb ho (not_imm_dict hd), rfl, rfl⟩
  exact ⟨hs.moved mv hC1 hC2, ex.moved mv hC0, mv⟩

theorem ev_ListComp {elt target iter : PySem.Expr} {ifs : List PySem.Expr} {scope : Scope} {pos : Pos} {Q : V → List O → Prop} (k : ItK) (a N : Nat) (Inv : Nat → List V → List O → Prop) (hf : ∀ env x, foldedSetIterable iter env x = pure x) (hkind : scope.kind = .function)
    (rl : Relab names scope.names names') (hnod : (scope.names.map (·.1)).Nodup) (hdbg : ∀ x ∈ names', (x.1 == ("__debug__" : Str)) = false ∧ (x.1 == ("__classdict__" : Str)) = false) (cv : CompV names vals names' vals')
    (h : EvE prog w B names d iter vals H fun v H₁ => IterOf v k ∧ H₁.length = a ∧ Live k H₁ ∧ Inv 0 [] (H₁ ++ [.list []]))
    (lv : ∀ i ys H, Inv i ys H → Live k H ∧ i ≤ N ∧ H[a]? = some (.list ys) ∧ ys.length ≤ 1000000)
    (done : ∀ i ys H, Inv i ys H → itemAt k H i = none → Q (.ref a) H)
    (turn : ∀ i ys H v, Inv i ys H → itemAt k H i = some v → ∃ vals'', TgtN names' target v vals' vals'' ∧ EvIfs prog w B names' d ifs vals'' H fun ok H' =>
      (ok = true → EvE prog w B names' d elt vals'' H' fun y H'' => H''[a]? = some (.list ys) ∧ Inv (i + 1) (ys ++ [y]) (H''.set a (.list (ys ++ [y])))) ∧ (ok = false → Inv (i + 1) ys H')) :
    EvE prog w B names d (.ListComp elt [⟨target, iter, ifs, 0⟩] scope pos) vals H Q := by
  constructor
  intro env ρ s sr A E r
  rw [eval_ListComp]
  refine comp_core (use := none) r sr hf hkind rl hnod hdbg cv h lv done turn fun D C ρ' H' s' q hs' ex hD hC0 hC1 hC2 ⟨m, hm⟩ => ⟨m, hm, fun h' hb => ?_⟩
  obtain ⟨z1, z2, _⟩ := drop_comp hs' ex hm hC0 hC1 hC2 hb
  exact ⟨.ref a, H', ρ', .ref hD, z1, z2, q⟩

theorem ev1_AssignCompD {y : Str} {py spos : Pos} {elt target iter : PySem.Expr} {ifs : List PySem.Expr} {scope : Scope} {pos : Pos} {Q : Fl → Vals → List O → Prop} (hf : ∀ env x, foldedSetIterable iter env x = pure x) (hkind : scope.kind = .function)
    (rl : Relab names scope.names names') (hnod : (scope.names.map (·.1)).Nodup) (hdbg : ∀ x ∈ names', (x.1 == ("__debug__" : Str)) = false ∧ (x.1 == ("__classdict__" : Str)) = false) (cv : CompV names vals names' vals')
    (hy : Has names y .local) (hline : (py.line == pos.line) = true) (hno : (scope.names.any fun (n, k) => n == y && (k == .local || k == .cell)) = false)
    (h : EvE prog w B names d iter vals H fun v H₁ => ∃ (k : ItK) (a N : Nat) (Inv : Nat → List V → List O → Prop), IterOf v k ∧ H₁.length = a ∧ Live k H₁ ∧ Inv 0 [] (H₁ ++ [.list []]) ∧
      (∀ i ys H, Inv i ys H → Live k H ∧ i ≤ N ∧ H[a]? = some (.list ys) ∧ ys.length ≤ 1000000) ∧
      (∀ i ys H, Inv i ys H → itemAt k H i = none → ∃ vals2, Put names vals y .local (.ref a) vals2 ∧ Q .next vals2 H) ∧
      (∀ i ys H v, Inv i ys H → itemAt k H i = some v → ∃ vals'', TgtN names' target v vals' vals'' ∧ EvIfs prog w B names' d ifs vals'' H fun ok H' =>
        (ok = true → EvE prog w B names' d elt vals'' H' fun y H'' => H''[a]? = some (.list ys) ∧ Inv (i + 1) (ys ++ [y]) (H''.set a (.list (ys ++ [y])))) ∧ (ok = false → Inv (i + 1) ys H'))) :
    Ev1 prog w B names d (.Assign [.Name y py] (.ListComp elt [⟨target, iter, ifs, 0⟩] scope pos) spos) vals H Q := by
  constructor
  intro env ρ s sr A E r
  have hk : env.kindOf y = some .local := let ⟨_, e⟩ := hy.get; sr.ok.kindOf e
  have hsw : swapsWith (.ListComp elt [⟨target, iter, ifs, 0⟩] scope pos) (some (.Name y py)) spos.line env = pure true := by
    show (pure (env.blockKind == .function && env.kindOf y == some .local && py.line == pos.line && !(scope.names.any fun (n, k) => n == y && (k == .local || k == .cell))) : Sem Bool) = _
    rw [sr.ok.block, hk, hline, hno]; rfl
  rw [exec_Assign_Name_used _ _ _ _ hsw]
  refine wpAny_bind (wpAny_standAt (wpAny_bind ?_))
  show wpAny _ A (do let _ ← comprehension (.ListComp elt [⟨target, iter, ifs, 0⟩] scope pos) scope env _ (newList []) false (eval iter env) (some (assign (.Name y py) env))) _ _ s
  refine wpAny_bind (wpAny_mono (comp_coreD (prog := prog) (Post := fun a H => ∃ vals2, Put names vals y .local (.ref a) vals2 ∧ Q .next vals2 H) (Qc := fun _ s' => ∃ f vals' H' ρ', FlR ρ' s'.heap f .next ∧ SR w.params B env names vals' ρ' H' s' ∧ ExtF env ρ s ρ' s' ∧ Q f vals' H') r sr hf hkind rl hnod hdbg cv h fun a D C ρ' H' s' q hs' ex hD hC0 hC1 hC2 ⟨m, hm⟩ => ?_) (fun _ s' hq => wpAny_pure (wpAny_pure hq)) fun _ _ e => e)
  obtain ⟨vals2, p, q⟩ := q
  have sr' := sr.ext ex hs'
  have hCL : C ≠ env.locals := fun q => by obtain ⟨o, _, _, e, _⟩ := sr.fr.there; rw [← q, hC0] at e; cases e
  have hCc : ∀ (y : Str) (c : Addr), env.cells.lookup y = some c → C ≠ c := fun y c hc q => by obtain ⟨o, e⟩ := sr.fr.cthere y c hc; rw [← q, hC0] at e; cases e
  show wpAny _ A (assign (.Name y py) env (.ref D)) _ _ _
  refine wpAny_assign_Name (store_loc sr' p (.ref hD) fun s₂ sr₂ mv => ?_)
  obtain ⟨o, es, ep, ho, hd, rest⟩ := hm
  have hm2 : s₂.heap.Ns C m := ⟨o, es, ep, mv.keep _ _ hCL ho, hd, rest⟩
  refine ⟨m, hm2, fun h' hb => ?_⟩
  have mC : Moved C s₂ { s₂ with heap := h' } := ⟨fun b ob hne e => (hb.2 b hne).trans e, sameBut_tup hb (mv.keep _ _ hCL ho) (not_imm_dict hd), rfl, rfl⟩
  have xF : ExtF env ρ s ρ' s₂ := by
    have x := ex.toF (env := env)
    refine ⟨x.pre, fun b o e h1 h2 h3 => mv.keep _ _ h2 (x.keep b o e h1 h2 h3), fun b o e => ?_, x.tup.trans mv.tup, mv.gens.trans x.gens, mv.os.trans x.os⟩
    obtain ⟨o', e'⟩ := x.live b o e
    by_cases q : b = env.locals
    · subst q; obtain ⟨ol, _, _, el, _⟩ := sr₂.fr.there; exact ⟨ol, el⟩
    · exact ⟨o', mv.keep _ _ q e'⟩
  exact ⟨.next, vals2, H', ρ', .next, sr₂.moved mC hC1 hC2 hCL hCc, xF.moved mC hC0, q⟩

theorem ev1_AssignComp {y : Str} {py spos : Pos} {elt target iter : PySem.Expr} {ifs : List PySem.Expr} {scope : Scope} {pos : Pos} {Q : Fl → Vals → List O → Prop} (k : ItK) (a N : Nat) (Inv : Nat → List V → List O → Prop) (hf : ∀ env x, foldedSetIterable iter env x = pure x) (hkind : scope.kind = .function)
    (rl : Relab names scope.names names') (hnod : (scope.names.map (·.1)).Nodup) (hdbg : ∀ x ∈ names', (x.1 == ("__debug__" : Str)) = false ∧ (x.1 == ("__classdict__" : Str)) = false) (cv : CompV names vals names' vals')
    (hy : Has names y .local) (hline : (py.line == pos.line) = true) (hno : (scope.names.any fun (n, k) => n == y && (k == .local || k == .cell)) = false)
    (h : EvE prog w B names d iter vals H fun v H₁ => IterOf v k ∧ H₁.length = a ∧ Live k H₁ ∧ Inv 0 [] (H₁ ++ [.list []]))
    (lv : ∀ i ys H, Inv i ys H → Live k H ∧ i ≤ N ∧ H[a]? = some (.list ys) ∧ ys.length ≤ 1000000)
    (done : ∀ i ys H, Inv i ys H → itemAt k H i = none → ∃ vals2, Put names vals y .local (.ref a) vals2 ∧ Q .next vals2 H)
    (turn : ∀ i ys H v, Inv i ys H → itemAt k H i = some v → ∃ vals'', TgtN names' target v vals' vals'' ∧ EvIfs prog w B names' d ifs vals'' H fun ok H' =>
      (ok = true → EvE prog w B names' d elt vals'' H' fun y H'' => H''[a]? = some (.list ys) ∧ Inv (i + 1) (ys ++ [y]) (H''.set a (.list (ys ++ [y])))) ∧ (ok = false → Inv (i + 1) ys H')) :
    Ev1 prog w B names d (.Assign [.Name y py] (.ListComp elt [⟨target, iter, ifs, 0⟩] scope pos) spos) vals H Q := by
  refine ev1_AssignCompD hf hkind rl hnod hdbg cv hy hline hno (h.mono ?_)
  rintro v H₁ ⟨h1, h2, h3, h4⟩
  exact ⟨k, a, N, Inv, h1, h2, h3, h4, lv, done, turn⟩

theorem ev1_Assign' {x : Str} {px pos : Pos} {value : PySem.Expr} {Q : Fl → Vals → List O → Prop} (hs : ∀ env, EnvOk env names → swapsWith value (some (.Name x px)) pos.line env = pure false)
    (h : EvE prog w B names d value vals H fun v H₁ => ∃ k vals', Put names vals x k v vals' ∧ (k = .local ∨ k = .cell) ∧ Q .next vals' H₁) : Ev1 prog w B names d (.Assign [.Name x px] value pos) vals H Q := by
  constructor
  intro env ρ s sr A E r
  refine wpAny_Assign_Name (h.go sr r fun v a H₁ ρ₁ s₁ va sr₁ e₁ ⟨k, vals', p, hk, q⟩ => store_ok sr₁ p hk va fun s₂ sr₂ e₂ => ?_) (hs env sr.ok)
  exact ⟨_, vals', H₁, ρ₁, .next, sr₂, e₁.toF.trans e₂, q⟩
theorem swaps_cell {y : Str} {py : Pos} {elt : PySem.Expr} {gens : List Comprehension} {scope : Scope} {pos : Pos} {line : Nat} {env : Env} (hy : Has names y .cell) (ok : EnvOk env names) : swapsWith (.ListComp elt gens scope pos) (some (.Name y py)) line env = pure false := by
  have hk : env.kindOf y = some .cell := let ⟨_, e⟩ := hy.get; ok.kindOf e
  show (pure (env.blockKind == .function && env.kindOf y == some .local && py.line == pos.line && !(scope.names.any fun (n, k) => n == y && (k == .local || k == .cell))) : Sem Bool) = _
  rw [hk]
  cases (env.blockKind == ScopeKind.function) <;> rfl
end
theorem set_ne {H : List O} {i j : Nat} {x o : O} (h : H[j]? = some o) (hij : i ≠ j) : (H.set i x)[j]? = some o := by rw [List.getElem?_set_ne hij]; exact h
theorem set_eq {H : List O} {i : Nat} {x o : O} (h : H[i]? = some o) : (H.set i x)[i]? = some x := by
  rw [List.getElem?_set_self (List.getElem?_eq_some_iff.mp h).1]
theorem app_l {H H' : List O} {i : Nat} {o : O} (h : H[i]? = some o) : (H ++ H')[i]? = some o := by
  rw [List.getElem?_append_left (List.getElem?_eq_some_iff.mp h).1]; exact h
theorem app_r {H : List O} {o : O} : (H ++ [o])[H.length]? = some o := by
  rw [List.getElem?_append_right (Nat.le_refl _), Nat.sub_self]; rfl
section
variable {prog : Program} {w : World} {B : Heap} {names : Names} {vals : Vals} {d : Nat} {H : List O} {K : Frag} {Q : V → List O → Prop} {fs : List (Str × V)}
theorem ev_At {o : PySem.Expr} {pos : Pos} {C : Addr} {n dn : Nat} {attr : Str} {u : V} (X : K.In B) (hb : plainBase o = true) (cl : ClsIs K C) (h4 : H[n]? = some (.inst C dn)) (h3 : H[dn]? = some (.ns fs)) (a : AttrIs K C attr) (l : FLook fs attr u) (p : plainV u = true)
    (h : EvE prog w B names d o vals H fun ov H₁ => ov = .ref n ∧ H₁ = H ∧ Q u H) : EvE prog w B names d (.Attribute o attr pos) vals H Q :=
  ev_Attr X hb (h.mono fun ov H₁ ⟨e1, e2, q⟩ => by subst e1 e2; exact ⟨n, C, dn, fs, u, rfl, cl, h4, h3, a, l, p, q⟩)
theorem evEs_mono {es : List PySem.Expr} {Q Q' : List V → List O → Prop} (h : EvEs prog w B names d es vals H Q) (k : ∀ vs H, Q vs H → Q' vs H) : EvEs prog w B names d es vals H Q' := by
  induction es generalizing H Q Q' with
  | nil => exact k _ _ h
  | cons e r ih => exact EvE.mono h fun v H₁ h₁ => ih h₁ fun vs H₂ q => k _ _ q
/-- a method of an own object is called -/
theorem ev_Do {o : PySem.Expr} {name : Str} {apos pos : Pos} {args : List PySem.Expr} {n dn : Nat} {C f : Addr} {ps : List Str} {dv : List V} {names' : Names} {body : List Stmt} {d' : Nat} (X : K.In B) (hb : plainBase o = true) (hp : args.all plainE = true) (hl : args.length < 29) (hline : (apos.endLine == pos.line) = true)
    (cl : ClsIs K C) (h4 : H[n]? = some (.inst C dn)) (h3 : H[dn]? = some (.ns fs)) (m : MethIs K C name f) (na : name ∉ fs.map (·.1)) (F : FnIs B f ps dv names' body) (hd : d' ≤ d)
    (h : EvE prog w B names d o vals H fun ov H₁ => ov = .ref n ∧ H₁ = H ∧ EvEs prog w B names d args vals H fun vs H₂ => CallC prog w B d' f (.ref n :: vs) H₂ Q) : EvE prog w B names d (.Call (.Attribute o name apos) args [] pos) vals H Q :=
  ev_CallMeth hb hp hl hline (h.mono fun ov H₁ ⟨e1, e2, q⟩ => by
    subst e1 e2
    exact ⟨_, _, methV_inst X cl h4 h3 m na, evEs_mono q fun vs H₂ q => calV_fn F q hd⟩)
/-- a def of the top's is called -/
theorem ev_Fn {x : Str} {np pos : Pos} {args : List PySem.Expr} {f : Addr} {ps : List Str} {dv : List V} {names' : Names} {body : List Stmt} {d' : Nat} (hp : args.all plainE = true) (l : Has names x .globalImplicit) (g : GlobIs B x (.ref f)) (F : FnIs B f ps dv names' body) (hd : d' ≤ d)
    (h : EvEs prog w B names d args vals H fun vs H₂ => CallC prog w B d' f vs H₂ Q) : EvE prog w B names d (.Call (.Name x np) args [] pos) vals H Q :=
  ev_CallName hp (ev_glob l g ⟨⟨_, rfl⟩, evEs_mono h fun vs H₂ q => calV_fn F q hd⟩)
/-- a built-in is called -/
theorem ev_Bi {x : Str} {np pos : Pos} {args : List PySem.Expr} {fv : Value} (hp : args.all plainE = true) (l : Has names x .globalImplicit) (g : BuiltIs B x fv)
    (h : EvEs prog w B names d args vals H fun vs H₂ => CalV prog w B d (.val fv) vs H₂ Q) : EvE prog w B names d (.Call (.Name x np) args [] pos) vals H Q :=
  ev_CallName hp (ev_built l g ⟨⟨_, rfl⟩, h⟩)
/-- x.append(e) and the like -/
theorem ev_LMeth {o : PySem.Expr} {name : Str} {id : String} {apos pos : Pos} {args : List PySem.Expr} {n : Nat} {us : List V} (slot : Slot "list" name id) (ty : typeOf (.builtin id) = pure (.type "method_descriptor")) (hb : plainBase o = true) (hp : args.all plainE = true) (hl : args.length < 29) (hline : (apos.endLine == pos.line) = true)
    (hn : H[n]? = some (.list us)) (h : EvE prog w B names d o vals H fun ov H₁ => ov = .ref n ∧ H₁ = H ∧ EvEs prog w B names d args vals H fun vs H₂ => CalV prog w B d (.val (.builtin id)) (.ref n :: vs) H₂ Q) : EvE prog w B names d (.Call (.Attribute o name apos) args [] pos) vals H Q :=
  ev_CallMeth hb hp hl hline (h.mono fun ov H₁ ⟨e1, e2, q⟩ => by
    subst e1 e2
    exact ⟨_, _, methV_list slot ty hn, q⟩)
end
section
variable {prog : Program} {w : World} {B : Heap} {names : Names} {vals : Vals} {d : Nat} {H : List O} {K : Frag} {Q : V → List O → Prop}
theorem w_notin_idict {n : Nat} {es : List (Int × V)} {k : Int} (hn : H[n]? = some (.idict es)) (q : Q (.bool (!(dget es k).isSome)) H) : W2 prog w B d (compareOp .NotIn) (.int k) (.ref n) H Q := by
  intro ρ s x y hs hx hy A E r
  obtain ⟨a, kvs, rfl, ha, D, P, ns⟩ := idict_at (prog := prog) hs hy hn
  cases hx with
  | int _ t =>
    refine wpAny_notIn_of (knd := intKind prog w) (intKind_is prog w k t) ns D.mapOf ?_
    rcases P.get k with ⟨e1, e2⟩ | ⟨v, x, e1, e2, _⟩ <;> rw [e1] at q <;> simp only [e2] <;> exact fin (rel := VR) (s' := { s with toks := s.toks + 1 }) hs (fun _ _ e => e) (v := V.bool _) (VR.bool _) q
theorem text_small {i : Int} (h : i.natAbs < 10 ^ 10) : (Str.ofString (toString i)).length ≤ 100 := by
  have e := int_text_length_le10 (k := 10) (by decide) h
  rw [PySem.ofString_length]; walk_at "om"
theorem ev_Joined3 {x y : Str} {k1 k2 : Nat} {e : PySem.Expr} {p1 p2 p3 pos : Pos} (hx : x.length ≤ 100) (hy : y.length ≤ 100)
    (h : EvE prog w B names d e vals H fun v H₁ => ∃ i : Int, v = .int i ∧ i.natAbs < 10 ^ 10 ∧ ∀ z, Q (.str z) H₁) : EvE prog w B names d (.JoinedStr [.Constant (.str x) k1 p1, .FormattedValue e (-1) none p2, .Constant (.str y) k2 p3] pos) vals H Q := by
  constructor
  intro env ρ s sr A E r
  refine wpAny_JoinedStr ?_
  have l0 : Str.empty.length = 0 := rfl
  refine wpAny_Constant_str ⟨x, _, rfl, by rw [strLen_append, l0, sizeLine_eq]; walk_at "om", ?_⟩
  refine wpAny_FormattedValue_plain (h.go (sr.ext (.toks _) (sr.hs.toks _)) r fun v a H₁ ρ₁ s₁ va sr₁ e₁ ⟨i, hv, hi, q⟩ => ?_)
  subst hv
  cases va with
  | int _ t =>
    have hl : i.natAbs.log2 < 1920 := by
      by_cases h0 : i.natAbs = 0
      · rw [h0]; decide
      · exact (Nat.log2_lt h0).mpr (Nat.lt_of_lt_of_le hi (by decide +kernel))
    have ht := text_small hi
    refine wpAny_formatField_int hl ⟨_, _, rfl, by rw [strLen_append, strLen_append, l0, sizeLine_eq]; walk_at "om", ?_⟩
    refine wpAny_Constant_str ⟨y, _, rfl, by rw [strLen_append, strLen_append, strLen_append, l0, sizeLine_eq]; walk_at "om", by rw [strLen_append, strLen_append, strLen_append, l0, sizeLine_eq]; walk_at "om", ?_⟩
    exact ⟨_, H₁, ρ₁, .str _ _, sr₁.hs.keeps (fun _ _ e => e), (Ext.toks _).trans (e₁.trans (.keeps (fun _ _ e => e) rfl rfl)), q _⟩
end
section
variable {prog : Program} {w : World} {B : Heap} {names names' : Names} {vals vals' : Vals} {d : Nat} {H : List O}

theorem map_range_succ {α : Type} (f : Nat → α) (i : Nat) : (List.range (i + 1)).map f = (List.range i).map f ++ [f i] := by
  rw [List.range_succ, List.map_append]; rfl
/-- a comprehension whose parts leave the heap alone -/
theorem ev_CompP {elt target iter : PySem.Expr} {scope : Scope} {pos : Pos} {Q : V → List O → Prop} (k : ItK) (us : List V) (H1 : List O) (f : Nat → V) (hf : ∀ env x, foldedSetIterable iter env x = pure x) (hkind : scope.kind = .function)
    (rl : Relab names scope.names names') (hnod : (scope.names.map (·.1)).Nodup) (hdbg : ∀ x ∈ names', (x.1 == ("__debug__" : Str)) = false ∧ (x.1 == ("__classdict__" : Str)) = false) (cv : CompV names vals names' vals')
    (h : EvE prog w B names d iter vals H fun v H₁ => H₁ = H1 ∧ IterOf v k)
    (it : ∀ ys i, itemAt k (H1 ++ [.list ys]) i = us[i]?) (lk : ∀ ys, Live k (H1 ++ [.list ys])) (lk0 : Live k H1) (hl : us.length ≤ 1000000)
    (turn : ∀ i u ys, us[i]? = some u → ∃ vals'', TgtN names' target u vals' vals'' ∧ EvE prog w B names' d elt vals'' (H1 ++ [.list ys]) fun y H'' => y = f i ∧ H'' = H1 ++ [.list ys])
    (q : Q (.ref H1.length) (H1 ++ [.list ((List.range us.length).map f)])) :
    EvE prog w B names d (.ListComp elt [⟨target, iter, [], 0⟩] scope pos) vals H Q := by
  refine ev_ListComp k H1.length us.length (fun i ys H' => i ≤ us.length ∧ ys = (List.range i).map f ∧ H' = H1 ++ [.list ys]) hf hkind rl hnod hdbg cv (h.mono ?_) ?_ ?_ ?_
  · rintro v H₁ ⟨rfl, ik⟩
    exact ⟨ik, rfl, lk0, by walk_at "om", rfl, rfl⟩
  · rintro i ys H' ⟨hi, rfl, rfl⟩
    exact ⟨lk _, hi, app_r, by simp; walk_at "om"⟩
  · rintro i ys H' ⟨hi, rfl, rfl⟩ hn
    rw [it, List.getElem?_eq_none_iff] at hn
    have : i = us.length := by walk_at "om"
    subst this
    exact q
  · rintro i ys H' v ⟨hi, rfl, rfl⟩ hv
    rw [it] at hv
    obtain ⟨vals'', t, e⟩ := turn i v _ hv
    have hlt := (List.getElem?_eq_some_iff.mp hv).1
    refine ⟨vals'', t, fun _ => e.mono ?_, fun h => (by cases h)⟩
    rintro y H'' ⟨rfl, rfl⟩
    refine ⟨app_r, by walk_at "om", (map_range_succ f i).symm, ?_⟩
    rw [List.set_append_right _ _ (Nat.le_refl _), Nat.sub_self]; rfl
theorem ev1_AssignCompP {y : Str} {py spos : Pos} {elt target iter : PySem.Expr} {scope : Scope} {pos : Pos} {Q : Fl → Vals → List O → Prop} (k : ItK) (us : List V) (H1 : List O) (f : Nat → V) (hf : ∀ env x, foldedSetIterable iter env x = pure x) (hkind : scope.kind = .function)
    (rl : Relab names scope.names names') (hnod : (scope.names.map (·.1)).Nodup) (hdbg : ∀ x ∈ names', (x.1 == ("__debug__" : Str)) = false ∧ (x.1 == ("__classdict__" : Str)) = false) (cv : CompV names vals names' vals')
    (hy : Has names y .local) (hline : (py.line == pos.line) = true) (hno : (scope.names.any fun (n, k) => n == y && (k == .local || k == .cell)) = false)
    (h : EvE prog w B names d iter vals H fun v H₁ => H₁ = H1 ∧ IterOf v k)
    (it : ∀ ys i, itemAt k (H1 ++ [.list ys]) i = us[i]?) (lk : ∀ ys, Live k (H1 ++ [.list ys])) (lk0 : Live k H1) (hl : us.length ≤ 1000000)
    (turn : ∀ i u ys, us[i]? = some u → ∃ vals'', TgtN names' target u vals' vals'' ∧ EvE prog w B names' d elt vals'' (H1 ++ [.list ys]) fun y H'' => y = f i ∧ H'' = H1 ++ [.list ys])
    (q : ∃ vals2, Put names vals y .local (.ref H1.length) vals2 ∧ Q .next vals2 (H1 ++ [.list ((List.range us.length).map f)])) :
    Ev1 prog w B names d (.Assign [.Name y py] (.ListComp elt [⟨target, iter, [], 0⟩] scope pos) spos) vals H Q := by
  refine ev1_AssignComp k H1.length us.length (fun i ys H' => i ≤ us.length ∧ ys = (List.range i).map f ∧ H' = H1 ++ [.list ys]) hf hkind rl hnod hdbg cv hy hline hno (h.mono ?_) ?_ ?_ ?_
  · rintro v H₁ ⟨rfl, ik⟩
    exact ⟨ik, rfl, lk0, by walk_at "om", rfl, rfl⟩
  · rintro i ys H' ⟨hi, rfl, rfl⟩
    exact ⟨lk _, hi, app_r, by simp; walk_at "om"⟩
  · rintro i ys H' ⟨hi, rfl, rfl⟩ hn
    rw [it, List.getElem?_eq_none_iff] at hn
    have : i = us.length := by walk_at "om"
    subst this
    exact q
  · rintro i ys H' v ⟨hi, rfl, rfl⟩ hv
    rw [it] at hv
    obtain ⟨vals'', t, e⟩ := turn i v _ hv
    have hlt := (List.getElem?_eq_some_iff.mp hv).1
    refine ⟨vals'', t, fun _ => e.mono ?_, fun h => (by cases h)⟩
    rintro y H'' ⟨rfl, rfl⟩
    refine ⟨app_r, by walk_at "om", (map_range_succ f i).symm, ?_⟩
    rw [List.set_append_right _ _ (Nat.le_refl _), Nat.sub_self]; rfl
theorem rng_items (n : Nat) (H : List O) (i : Nat) : itemAt (.rng (n : Int)) H i = ((List.range n).map fun j : Nat => V.int (j : Int))[i]? := by
  rw [List.getElem?_map]
  show (if (i : Int) < (n : Int) then some (V.int i) else none) = _
  by_cases h : i < n
  · rw [if_pos (by walk_at "om"), List.getElem?_eq_getElem (by simpa using h)]; simp
  · rw [if_neg (by walk_at "om"), List.getElem?_eq_none (by simpa using h)]; rfl
theorem rng_live (n : Nat) (H : List O) (h : n ≤ 1000000) : Live (.rng (n : Int)) H := ⟨by walk_at "om", by walk_at "om"⟩
theorem rng_at {n i : Nat} {u : V} (h : ((List.range n).map fun j : Nat => V.int (j : Int))[i]? = some u) : i < n ∧ u = .int (i : Int) := by
  rw [List.getElem?_map] at h
  obtain ⟨j, e1, e2⟩ := Option.map_eq_some_iff.mp h
  obtain ⟨h1, h2⟩ := List.getElem?_eq_some_iff.mp e1
  simp at h1 h2
  exact ⟨h1, by rw [← e2, ← h2]⟩
end
/-- a stretch of a list -/
noncomputable def pickL {α : Type} (l : List α) (lo hi : Option Int) : List α := (l.drop (kms_lo lo l.length)).take (kms_hi hi l.length - kms_lo lo l.length)
section
variable {prog : Program} {w : World} {B : Heap} {names : Names} {vals : Vals} {d : Nat} {H : List O} {Q : V → List O → Prop}
inductive PartV : V → Option Int → Prop
  | none : PartV .none none
  | int {i : Int} : PartV (.int i) (some i)
theorem PartV.is {v : V} {o : Option Int} (p : PartV v o) {ρ : List Addr} {h : Heap} {x : Value} (r : VR ρ h v x) : IsPart x o := by
  cases p with
  | none => cases r; exact .none
  | int => cases r; exact .int _ _
/-- a part of a slice -/
noncomputable def EvP (prog : Program) (w : World) (B : Heap) (names : Names) (d : Nat) : Option PySem.Expr → Vals → List O → (V → List O → Prop) → Prop
  | none, _, H, Q => Q .none H
  | some e, vals, H, Q => EvE prog w B names d e vals H Q
theorem EvP.go {e : Option PySem.Expr} {Q₁ : V → List O → Prop} {env : Env} {ρ : List Addr} {s : Shared} {A : Around} {E : Value → Shared → Prop}
    (h : EvP prog w B names d e vals H Q₁) (sr : SR w.params B env names vals ρ H s) (r : Room A d) {t : Value → Shared → Prop}
    (k : ∀ v x H₁ ρ₁ s₁, VR ρ₁ s₁.heap v x → SR w.params B env names vals ρ₁ H₁ s₁ → Ext ρ s ρ₁ s₁ → Q₁ v H₁ → t x s₁) : wpAny (model prog w) A (evalPart e env) t E s := by
  cases e with
  | none => rw [evalPart_none]; exact wpAny_pure (k .none .none H ρ s .none sr (.refl _ _) h)
  | some e => rw [evalPart_some]; exact EvE.go h sr r k
theorem evP_mono {e : Option PySem.Expr} {Q Q' : V → List O → Prop} (h : EvP prog w B names d e vals H Q) (k : ∀ v H, Q v H → Q' v H) : EvP prog w B names d e vals H Q' := by
  cases e with
  | none => exact k _ _ h
  | some e => exact EvE.mono h k
/-- the slice of a list, its parts evaluated -/
theorem slice_go {lower upper step : Option PySem.Expr} {p : Pos} {env : Env} {ρ : List Addr} {s : Shared} {A : Around} {E : Value → Shared → Prop} {t : Value → Shared → Prop} {Q₁ : V → V → V → List O → Prop} (sr : SR w.params B env names vals ρ H s) (r : Room A d)
    (h : EvP prog w B names d lower vals H fun l H₁ => EvP prog w B names d upper vals H₁ fun u H₂ => EvP prog w B names d step vals H₂ fun st H₃ => Q₁ l u st H₃)
    (k : ∀ l u st x y z H₁ ρ₁ s₁, VR ρ₁ s₁.heap l x → VR ρ₁ s₁.heap u y → VR ρ₁ s₁.heap st z → SR w.params B env names vals ρ₁ H₁ s₁ → Ext ρ s ρ₁ s₁ → Q₁ l u st H₁ → ∀ sl, s₁.heap.IsSliceOf sl x y z → t (.ref sl) s₁) : wpAny (model prog w) A (eval (.Slice lower upper step p) env) t E s := by
  refine wpAny_Slice (EvP.go h sr r fun l x H₁ ρ₁ s₁ va sr₁ e₁ h₁ => EvP.go h₁ sr₁ r fun u y H₂ ρ₂ s₂ vb sr₂ e₂ h₂ => EvP.go h₂ sr₂ r fun st z H₃ ρ₃ s₃ vc sr₃ e₃ h₃ => ?_)
  have kp : ∀ b o, s₃.heap.get? b = some o → (s₃.heap.push { cls := .type "slice", data := .fields #[x, y, z] }).get? b = some o := fun b o e => Heap.get?_push_of_some _ e
  have ex : Ext ρ₃ s₃ ρ₃ { s₃ with heap := s₃.heap.push { cls := .type "slice", data := .fields #[x, y, z] } } := .keeps (s' := { s₃ with heap := s₃.heap.push { cls := .type "slice", data := .fields #[x, y, z] } }) kp rfl rfl
  exact k l u st x y z H₃ ρ₃ { s₃ with heap := s₃.heap.push { cls := .type "slice", data := .fields #[x, y, z] } } (ex.vr (e₃.vr (e₂.vr va))) (ex.vr (e₃.vr vb)) (ex.vr vc) (sr₃.ext ex (sr₃.hs.keeps (s' := { s₃ with heap := s₃.heap.push { cls := .type "slice", data := .fields #[x, y, z] } }) kp)) (((e₁.trans e₂).trans e₃).trans ex) h₃ _ ⟨_, Heap.get?_push_size _ rfl, rfl, rfl⟩
theorem VRs.pick {ρ : List Addr} {h : Heap} {vs : List V} {xs : List Value} (r : VRs ρ h vs xs) (lo hi : Option Int) : VRs ρ h (pickL vs lo hi) (kms_pick xs lo hi) := by
  unfold pickL kms_pick
  rw [r.length]
  exact (r.drop _).take _
theorem ev_Slice {value : PySem.Expr} {lower upper : Option PySem.Expr} {p pos : Pos} {n : Nat} {vs : List V}
    (h : EvE prog w B names d value vals H fun v H₁ => v = .ref n ∧ EvP prog w B names d lower vals H₁ fun l H₂ => EvP prog w B names d upper vals H₂ fun u H₃ => ∃ lo hi, PartV l lo ∧ PartV u hi ∧ H₃[n]? = some (.list vs) ∧ vs.length ≤ 1000000 ∧ Q (.ref H₃.length) (H₃ ++ [.list (pickL vs lo hi)])) :
    EvE prog w B names d (.Subscript value (.Slice lower upper none p) pos) vals H Q := by
  constructor
  intro env ρ s sr A E r
  refine Subscript_ (h.go sr r fun v x H₁ ρ₁ s₁ va sr₁ e₁ ⟨hv, h₁⟩ => ?_)
  subst hv
  refine slice_go (step := none) (Q₁ := fun l u st H₃ => st = .none ∧ ∃ lo hi, PartV l lo ∧ PartV u hi ∧ H₃[n]? = some (.list vs) ∧ vs.length ≤ 1000000 ∧ Q (.ref H₃.length) (H₃ ++ [.list (pickL vs lo hi)])) sr₁ r ?_ ?_
  · refine evP_mono h₁ fun l H₂ h₂ => evP_mono h₂ fun u H₃ h₃ => ⟨rfl, h₃⟩
  · rintro l u st x' y z H₃ ρ₃ s₃ vl vu vst sr₃ e₃ ⟨rfl, lo, hi, pl, pu, hn, hlen, q⟩ sl hsl
    cases vst
    obtain ⟨a, items, ep, ea, ha, g1, g2⟩ := list_at sr₃.hs (e₃.vr va) hn
    subst ea
    have l1 := g2.length
    obtain ⟨ops, ho⟩ := subscripted_ops (.Slice lower upper none p) (.ref a) (.ref sl)
    refine tail_any (T := "list") ⟨_, g1, rfl⟩ slot_list_getitem.lookup ?_ ho
    refine wpAny_getItem_list_slice (isList_of g1) hsl (pl.is vl) (pu.is vu) .none (by simp) ?_ (by rw [List.size_toArray, sizeLine_eq]; walk_at "om")
    rw [kms_pick_eq]
    obtain ⟨z1, z2, z3⟩ := new_list (ep := 0) sr₃.hs (g2.pick lo hi)
    exact ⟨.ref H₃.length, _, _, .ref z3, z1, (e₁.trans e₃).trans z2, q⟩
theorem pick_upto {α : Type} (l : List α) (b : Nat) : pickL l none (some (b : Int)) = l.take b := by
  unfold pickL kms_lo kms_hi
  simp only [Int.toNat_natCast]
  rw [if_neg (by walk_at "om"), List.drop_zero, Nat.sub_zero]
  by_cases h : b ≤ l.length
  · rw [Nat.min_eq_left h]
  · rw [Nat.min_eq_right (by walk_at "om"), List.take_of_length_le (Nat.le_refl _), List.take_of_length_le (by walk_at "om")]
theorem VRs.of_get {ρ : List Addr} {h : Heap} : ∀ {vs : List V} {xs : List Value}, xs.length = vs.length → (∀ (i : Nat) v x, vs[i]? = some v → xs[i]? = some x → VR ρ h v x) → VRs ρ h vs xs
  | [], [], _, _ => .nil
  | [], _ :: _, e, _ => by simp at e
  | _ :: _, [], e, _ => by simp at e
  | v :: vs, x :: xs, e, k => .cons (k 0 v x rfl rfl) (VRs.of_get (by simpa using e) fun i v x h1 h2 => k (i + 1) v x (by simpa using h1) (by simpa using h2))
theorem c_list_rng {n : Nat} (hn : n ≤ 100000) (q : Q (.ref H.length) (H ++ [.list ((List.range n).map fun j : Nat => V.int (j : Int))])) : CalV prog w B d (.val (.type "list")) [.rng (n : Int)] H Q := by
  refine ⟨_, rfl, fun h _ => keep_type h, fun ρ s xs hs hv A E r => ?_⟩
  cases hv with
  | cons h1 h2 =>
    cases h2
    cases h1 with
    | rng hr =>
      refine call_list_range (n := n) r.hand hr (small_one (by decide) (by decide) (by walk_at "om") (by walk_at "om")) (by rw [rangeSize_one]; split <;> walk_at "om") (by walk_at "om") fun h' tk acc c' k hget hit => ?_
      have ho : OR w.params (ρ ++ [s.heap.objs.size]) h' (.list ((List.range n).map fun j : Nat => V.int (j : Int))) s.heap.objs.size := by
        refine ⟨acc.toList, c', hget, VRs.of_get ?_ fun i v x e1 e2 => ?_⟩
        · have := hit.1
          simp [this]
        · obtain ⟨hi, rfl⟩ := rng_at e1
          have := hit.2 i x (by simpa using e2)
          obtain ⟨t, rfl⟩ := this
          have e : (0 : Int) + (i : Int) * 1 = (i : Int) := by walk_at "om"
          rw [e]; exact .int _ _
      refine ⟨.ref H.length, H ++ [.list ((List.range n).map fun j : Nat => V.int (j : Int))], ρ ++ [s.heap.objs.size], .ref ?_, hs.more (s' := { s with heap := h', toks := tk }) k (get_end _) ho, .more (s' := { s with heap := h', toks := tk }) k (get_end _) rfl rfl, q⟩
      rw [← hs.hr.len, List.getElem?_append_right (Nat.le_refl _), Nat.sub_self]; rfl
end
noncomputable def fdOf (K : Frag) (f : Addr) : FuncData := match K.lookup f with
  | some ⟨_, _, .func fd, _⟩ => fd
  | _ => default
noncomputable def fnThere (K : Frag) (f : Addr) : Bool := match K.lookup f with
  | some ⟨_, _, .func _, _⟩ => true
  | _ => false
theorem fn_there {K : Frag} {f : Addr} (h : fnThere K f = true) : ∃ oc od osl, K.lookup f = some ⟨oc, od, .func (fdOf K f), osl⟩ := by
  unfold fnThere at h
  unfold fdOf
  split at h
  · rename_i oc od fd osl e
    exact ⟨oc, od, osl, by rw [e]⟩
  · cases h
/-- what a def's object says, at one go -/
noncomputable def fdSays (fd : FuncData) : List (Str × Addr) × Addr × Addr × Names × ScopeKind × Bool × Bool := (fd.closure, fd.globals, fd.builtins, fd.scope.names, fd.scope.kind, fd.scope.isCoroutine, fd.scope.isGenerator)
noncomputable def namesOkB (names : Names) : Bool := (names.all fun x => !(x.1 == ("__debug__" : Str)) && !(x.1 == ("__classdict__" : Str)))
theorem namesOkB_is {names : Names} (h : namesOkB names = true) : ∀ x ∈ names, (x.1 == ("__debug__" : Str)) = false ∧ (x.1 == ("__classdict__" : Str)) = false := by
  intro x hx
  have := List.all_eq_true.mp h x hx
  simpa using this
noncomputable def kindsB (names : Names) (n : Nat) : Bool := (names.take n).all fun x => x.2 == .local || x.2 == .cell
theorem kindsB_is {names : Names} {n : Nat} (h : kindsB names n = true) : ∀ x ∈ names.take n, x.2 = .local ∨ x.2 = .cell := by
  intro x hx
  have := List.all_eq_true.mp h x hx
  simpa using this
theorem fnIs_of {K : Frag} {B : Heap} {f : Addr} {ps : List Str} {names : Names} {body : List Stmt} (X : K.In B) (lim : B.NoLimit) (e1 : fnThere K f = true) (e2 : (fdOf K f).body = .stmts body) (e3 : fdSays (fdOf K f) = ([], mainGlobals, builtinsNs, names, .function, false, false))
    (e4 : codeIn K (fdOf K f).code (fdOf K f).qualname = true) (bind : ∀ xs : List Value, xs.length = ps.length → bindArgs (fdOf K f) ⟨xs, []⟩ = pure (ps.zip xs)) (first : (names.map (·.1)).take ps.length = ps) (kinds : kindsB names ps.length = true) (nod : (names.map (·.1)).Nodup) (dbg : namesOkB names = true) : FnIs B f ps [] names body := by
  obtain ⟨oc, od, osl, e⟩ := fn_there e1
  unfold fdSays at e3
  simp only [Prod.mk.injEq] at e3
  obtain ⟨a1, a2, a3, a4, a5, a6, a7⟩ := e3
  exact ⟨⟨_, fdOf K f, X _ _ e, rfl, e2, a1, a2, a3, a4, a5, a6, a7, codeRec_of X e4, [], fun _ _ => .nil, fun s xs _ hl => by rw [List.append_nil]; exact .of_eq (bind xs (by simpa using hl))⟩, lim, first, kindsB_is kinds, nod, namesOkB_is dbg⟩
theorem fnIs_ofD {K : Frag} {B : Heap} {f T : Addr} {ps : List Str} {names : Names} {body : List Stmt} {v : V} {x : Value} {n : Nat} {o : Obj} (X : K.In B) (lim : B.NoLimit) (e1 : fnThere K f = true) (e2 : (fdOf K f).body = .stmts body) (e3 : fdSays (fdOf K f) = ([], mainGlobals, builtinsNs, names, .function, false, false))
    (e4 : codeIn K (fdOf K f).code (fdOf K f).qualname = true) (hd : (fdOf K f).defaults = .ref T) (ho : K.lookup T = some o) (hs : o.data = .seq #[x] n) (hv : ∀ ρ h, VR ρ h v x)
    (bind : ∀ xs : List Value, xs.length + 1 = ps.length → ∃ k : Option (Array Value) → Sem (List (Str × Value)), bindArgs (fdOf K f) ⟨xs, []⟩ = (seqItems? (fdOf K f).defaults >>= k) ∧ k (some #[x]) = pure (ps.zip (xs ++ [x]))) (first : (names.map (·.1)).take ps.length = ps) (kinds : kindsB names ps.length = true) (nod : (names.map (·.1)).Nodup) (dbg : namesOkB names = true) : FnIs B f ps [v] names body := by
  obtain ⟨oc, od, osl, e⟩ := fn_there e1
  unfold fdSays at e3
  simp only [Prod.mk.injEq] at e3
  obtain ⟨a1, a2, a3, a4, a5, a6, a7⟩ := e3
  exact ⟨⟨_, fdOf K f, X _ _ e, rfl, e2, a1, a2, a3, a4, a5, a6, a7, codeRec_of X e4, [x], fun ρ h => .cons (hv ρ h) .nil, fun s xs hb hl => let ⟨k, b1, b2⟩ := bind xs (by simpa using hl); .of_defaults hd (hb _ _ (X _ _ ho)) hs b1 b2⟩, lim, first, kindsB_is kinds, nod, namesOkB_is dbg⟩
theorem globIs_of {K : Frag} {B : Heap} {p : Program} {loose : List Str} {mg mb : Str → Option Value} {x : Str} {v : Value} (X : K.In B) (T : TopRead p loose mg mb B) (e : nsIn K mainGlobals x = some (some v)) : GlobIs B x v := ⟨mg, T.g, mg_of X T.g e⟩
theorem builtIs_of {K : Frag} {B : Heap} {p : Program} {loose : List Str} {mg mb : Str → Option Value} {x : Str} {v : Value} (X : K.In B) (T : TopRead p loose mg mb B) (e : nsIn K mainGlobals x = some none) (hv : bootBuiltins x = some v) (hn : x ≠ "__name__") : BuiltIs B x v :=
  ⟨mg, mb, T.g, mg_none_of X T.g e, T.b, (T.builtins x hn).trans hv⟩
noncomputable abbrev nmSup : Names := [(Str.ofString "self", .local), (Str.ofString "__class__", .free), (Str.ofString "super", .globalImplicit)]
noncomputable def fileIn (K : Frag) (c : Addr) : Option Str := match K.lookup c with
  | some ⟨_, _, .fields vs, _⟩ => match (vs[2]? : Option Value) with
    | some (Value.str x _) => some x
    | _ => none
  | _ => none
noncomputable def cellIn (K : Frag) (c : Addr) : Option Value := match K.lookup c with
  | some ⟨_, _, .cell v, _⟩ => v
  | _ => none
theorem fileIn_is {K : Frag} {c : Addr} {x : Str} (h : fileIn K c = some x) : ∃ cc dd vs sl t, K.lookup c = some ⟨cc, dd, .fields vs, sl⟩ ∧ vs[2]? = some (.str x t) := by
  unfold fileIn at h
  split at h
  · rename_i cc dd vs sl e
    split at h
    · rename_i y t hv; cases h; exact ⟨cc, dd, vs, sl, t, e, hv⟩
    · cases h
  · cases h
theorem cellIn_is {K : Frag} {c : Addr} {v : Value} (h : cellIn K c = some v) : ∃ o, K.lookup c = some o ∧ o.data = .cell (some v) := by
  unfold cellIn at h
  split at h
  · rename_i cc dd vs sl e
    subst h
    exact ⟨_, e, rfl⟩
  · cases h
theorem nmSup_nod : (nmSup.map (·.1)).Nodup := by decide +kernel
theorem nmSup_dbg : namesOkB nmSup = true := by decide +kernel
theorem nmSup_cell : ∀ x ∈ nmSup, x.2 ≠ .cell := by decide +kernel

section
variable {prog : Program} {w : World} {B : Heap} {d : Nat} {H : List O} {K : Frag}

theorem call_super {p : Program} {loose : List Str} {mg mb : Str → Option Value} {C f f2 cc cda : Addr} {n dn : Nat} {file : Str} {p0 p1 apos cpos epos : Pos} {rest : List Stmt} {Q : V → List O → Prop} (X : K.In B) (T : TopRead p loose mg mb B)
    (e1 : fnThere K f = true) (e2 : (fdOf K f).body = .stmts (.Expr (.Call (.Attribute (.Call (.Name (Str.ofString "super") p0) [] [] p1) (Str.ofString "__init__") apos) [] [] cpos) epos :: rest))
    (e3 : fdSays (fdOf K f) = ([(Str.ofString "__class__", cc)], mainGlobals, builtinsNs, nmSup, .function, false, false)) (e4 : codeIn K (fdOf K f).code (fdOf K f).qualname = true)
    (bind : ∀ x, bindArgs (fdOf K f) ⟨[x], []⟩ = pure [(Str.ofString "self", x)]) (par : (((fdOf K f).params.posonlyargs ++ (fdOf K f).params.args).head?).map (·.arg) = some (Str.ofString "self"))
    (hcda : (fdOf K f).code = .ref cda) (hcode : fileIn K cda = some file) (hfile : (prog.main.file == file) = true) (hcell : cellIn K cc = some (.ref C)) (hC : (clsIn K C).isSome = true) (hsub : mroIn K C (.ref C) = some true)
    (hsuper : nsIn K mainGlobals "super" = some none) (hline : (apos.endLine == cpos.line) = true) (htop : (prog.main.scope.names.lookup ("super" : Str)).isSome = false) (hboot : bootBuiltins "super" = some (.type "super")) (hopq : nsIn K cStatics "thirdparty.any" = some none)
    (hm : ks_superIn K C C "__init__" = some (some (.ref f2))) (ht : typeIn K (.ref f2) = some (.type "function")) (hfn : fnIn K f2 = true) (h4 : H[n]? = some (.inst C dn))
    (h : CallC prog w B d f2 [.ref n] H fun _ H' => EvS prog w B nmSup d rest [some (.ref n), none, none] H' fun fl _ H' => match fl with | .ret v => Q v H' | .next => Q .none H' | _ => False) :
    CallC prog w B (d + 1) f [.ref n] H Q := by
  constructor
  intro ρ s xs A R hs hv r hR
  obtain ⟨oc, od, osl, ef⟩ := fn_there e1
  unfold fdSays at e3
  simp only [Prod.mk.injEq] at e3
  obtain ⟨a1, a2, a3, a4, a5, a6, a7⟩ := e3
  cases hv with
  | cons hx hnil =>
  cases hnil
  cases hx with
  | ref hn =>
  rename_i a
  have hlim : s.heap.NoLimit := T.nolimit.keeps hs.base
  obtain ⟨dx, hdx, hobj⟩ := hs.hr.obj n _ a h4 hn
  have Xs : K.In s.heap := X.keeps hs.base
  obtain ⟨ccl, cdd, vs, csl, tf, hcl, hvs⟩ := fileIn_is hcode
  obtain ⟨oce, hoce, hoced⟩ := cellIn_is hcell
  obtain ⟨cdC, hcdC⟩ := Option.isSome_iff_exists.mp hC
  obtain ⟨oC, hoC, hoCd⟩ : ∃ oC, K.lookup C = some oC ∧ oC.data = .cls cdC := by
    unfold clsIn at hcdC
    split at hcdC
    · rename_i c dd cd' sl ho
      cases hcdC
      exact ⟨_, ho, rfl⟩
    · cases hcdC
  have hxC : a ≠ C := by
    rintro rfl
    rw [Xs _ _ hoC] at hobj
    cases hobj
    cases hoCd
  obtain ⟨par0, hpar, hparg⟩ : ∃ ar, ((fdOf K f).params.posonlyargs ++ (fdOf K f).params.args).head? = some ar ∧ ar.arg = Str.ofString "self" := by
    obtain ⟨ar, q1, q2⟩ := Option.map_eq_some_iff.mp par
    exact ⟨ar, q1, q2⟩
  obtain ⟨of, hof, hofc⟩ : ∃ of, K.lookup f2 = some of ∧ of.cls = .type "function" := by
    have ht' : (K.lookup f2).map (·.cls) = some (.type "function") := ht
    obtain ⟨o, q1, q2⟩ := Option.map_eq_some_iff.mp ht'
    exact ⟨o, q1, q2⟩
  have hlook : ∀ x ∈ [(Str.ofString "self", Value.ref a)], (fdOf K f).scope.names.lookup x.1 = some .local := by
    intro x hx
    simp at hx
    subst hx
    rw [a4]; rfl
  refine ks_codeAny_call_defAt (fd := fdOf K f) (binds := [(Str.ofString "self", .ref a)]) r.depth (Xs _ _ ef) rfl hlim ((codeRec_of X e4).keeps hs.base) e2 (.of_eq (bind _)) (by rw [a4]; exact nmSup_cell) hlook (fun h₀ hns hk => ?_) a6 a7 a5
  generalize henv : callEnv (fdOf K f) s.heap.objs.size f = env
  have hL : env.locals = s.heap.objs.size := by rw [← henv]; rfl
  have hcells : env.cells = [(Str.ofString "__class__", cc)] := by rw [← henv]; exact a1
  have ok : EnvOk env nmSup := ⟨by rw [← henv]; exact a4, by rw [← henv]; exact a5, by rw [← henv]; exact a2, by rw [← henv]; exact a3, nmSup_nod, namesOkB_is nmSup_dbg⟩
  have lowL : ∀ b ∈ ρ, b < s.heap.objs.size := fun b hb => by obtain ⟨o, e, _⟩ := hs.hr.own hb; exact Heap.lt_size e
  have lowB : ∀ b o, B.get? b = some o → b < s.heap.objs.size := fun b o e => Heap.lt_size (hs.base _ _ e)
  have hns' : h₀.Ns env.locals fun x => [(Str.ofString "self", Value.ref a)].reverse.lookup x := by rw [hL]; rw [← hL] at hns; rw [← hL]; exact hns
  have sr : SR w.params B env nmSup [some (.ref n), none, none] ρ H { s with heap := h₀, toks := s.toks + 1 } := by
    refine ⟨ok, hs.keeps (s' := { s with heap := h₀, toks := s.toks + 1 }) hk, ⟨rfl, ⟨_, hns', fun i y v q1 q2 => ?_⟩, fun i y k v q1 q2 q3 => ?_, fun i y q1 => ?_, ?_, ?_, fun y c q => ?_, fun y c q => ?_, ?_⟩⟩
    · match i with
      | 0 =>
        simp at q1 q2
        subst q1 q2
        exact ⟨.ref a, rfl, .ref hn⟩
      | 1 => simp at q2
      | 2 => simp at q2
      | i + 3 => simp at q2
    · match i with
      | 0 =>
        simp at q1
        obtain ⟨_, rfl⟩ := q1
        rcases q2 with q2 | q2 <;> cases q2
      | 1 => simp at q3
      | 2 => simp at q3
      | i + 3 => simp at q3
    · match i with
      | 0 => simp at q1
      | 1 => simp at q1
      | 2 => simp at q1
      | i + 3 => simp at q1
    · rw [hcells]; exact List.pairwise_singleton _ _
    · rw [hL]; exact fun q => Nat.lt_irrefl _ (lowL _ q)
    · have hy : c = cc := by
        rw [hcells, List.lookup_cons] at q
        split at q
        · exact (Option.some.inj q).symm
        · cases q
      subst hy
      refine ⟨fun q' => ?_, by rw [hL]; exact Nat.ne_of_lt (lowB _ _ (X _ _ hoce))⟩
      have z := X _ _ hoce
      rw [hs.above _ q'] at z
      cases z
    · have hy : c = cc := by
        rw [hcells, List.lookup_cons] at q
        split at q
        · exact (Option.some.inj q).symm
        · cases q
      subst hy
      exact ⟨_, hk _ _ (Xs _ _ hoce)⟩
    · cases e : B.get? env.locals with
      | none => rfl
      | some o => exact absurd (lowB _ _ e) (by rw [hL]; exact Nat.lt_irrefl _)
  have hkc : env.kindOf "__class__" = some .free := ok.kindOf (i := 1) rfl
  have hks : env.kindOf "super" = some .globalImplicit := ok.kindOf (i := 2) rfl
  have hkslf : env.kindOf (Str.ofString "self") = some .local := ok.kindOf (i := 0) rfl
  have hfunc : env.func = some f := by rw [← henv]; rfl
  have hcodeE : env.code = .ref cda := by rw [← henv]; exact hcda
  have Xh : K.In h₀ := Xs.keeps hk
  have hobj₀ := hk _ _ hobj
  have hpos : ∀ few, methodCallPos few (.Call (.Name (Str.ofString "super") p0) [] [] p1) env apos cpos = pure cpos := fun few => by unfold methodCallPos; rw [hline, Bool.or_true]; rfl
  have he : eval (.Call (.Attribute (.Call (.Name (Str.ofString "super") p0) [] [] p1) (Str.ofString "__init__") apos) [] [] cpos) env = (attributeBase (.Call (.Name (Str.ofString "super") p0) [] [] p1) (Str.ofString "__init__") env (eval (.Call (.Name (Str.ofString "super") p0) [] [] p1) env) >>= fun ov => standAt apos.atName >>= fun _ => methodCall (.Call (.Name (Str.ofString "super") p0) [] [] p1) (Str.ofString "__init__") apos cpos env ov (0 + 0) (backTo cpos (starEach [] env)) (backToKw cpos (keywordEach [] env))) := rfl
  refine ks_wpAt_execs_cons (ks_wpAt_Expr_any ?_ ok.quiet)
  rw [he]
  refine PySem.wpAt_bind (ks_wpAt_super_base hks hkc rfl hfunc (Xh _ _ ef) rfl hpar hcodeE (Xh _ _ hcl) rfl hvs hfile htop ?_)
  refine ks_loadName_global ok.kind hks (loadGlobal_builtin (by rw [ok.glob]; exact (T.g.keeps hs.base).keeps hk) (mg_none_of X T.g hsuper) (by rw [ok.bi]; exact (T.b.keeps hs.base).keeps hk) ((T.builtins _ (by decide +kernel)).trans hboot) ⟨rfl, ?_⟩)
  refine wpAny_loadName_free ok.kind hkc (by rw [hcells]; rfl) ⟨_, Xh _ _ hoce, hoced⟩ ?_
  rw [hparg]
  refine wpAny_loadName_local ok.kind hkslf hns' rfl ?_
  refine ks_wpAny_isType_cls (Xh _ _ hoC) hoCd ⟨rfl, ?_⟩
  refine ks_wpAny_call_super (Xh _ _ hoC) hoCd hobj₀ rfl (fun c e => by cases e) (looks_mroIn Xh hsub) (fun h1 hso k1 => ?_)
  have Xh1 : K.In h1 := Xh.keeps k1
  have hm' : alongIn K "__init__" ((cdC.mro.dropWhile (· != .ref C)).drop 1) = some (some (.ref f2)) := by
    unfold ks_superIn at hm
    rw [hcdC] at hm
    exact hm
  refine PySem.wpAt_of_wpAny (wpAny_bind (wpAny_standAt ?_))
  unfold methodCall
  rw [show methodCallForm (0 + 0) (backTo cpos (starEach [] env)) (backToKw cpos (keywordEach [] env)) = true from few_of (args := []) rfl (by decide) cpos env]
  refine wpAny_bind (wpAny_holding ?_)
  show wpAny _ _ (getMethod (.ref _) _ _) _ _ _
  refine ks_wpAny_getMethod_super (l₀ := cdC.mro) hso (looks_opaque Xh1 hopq) (fun A Q E s k q => wpAny_bind ((looks_clsIn Xh1 hcdC) A _ E s k (wpAny_pure q))) rfl Xh1 hm' (Xh1 _ _ hof) hofc hxC rfl ?_
  generalize hb : h1.objs.size = bm
  have hbm : (h1.push { cls := .type "method", data := .fields #[.ref f2, .ref a] }).get? bm = some { cls := .type "method", dict := none, data := .fields #[.ref f2, .ref a], slots := #[] } := by rw [← hb]; exact Heap.get?_push_at rfl rfl
  have k2 : ∀ b o, h1.get? b = some o → (h1.push { cls := .type "method", data := .fields #[.ref f2, .ref a] }).get? b = some o := fun b o e => Heap.get?_push_of_some _ e
  generalize h1.push { cls := .type "method", data := .fields #[.ref f2, .ref a] } = h2 at hbm k2
  have Xh2 : K.In h2 := Xh1.keeps k2
  show wpAny _ _ (methodCallPos _ _ _ _ _ >>= _) _ _ _
  rw [hpos]
  refine wpAny_bind (wpAny_pure ?_)
  refine callWith_M0 ⟨hbm, Xh2⟩ hfn ?_
  refine wpAny_call (ks_codeAny_call_bound hbm ?_)
  have kk : ∀ b o, h₀.get? b = some o → h2.get? b = some o := fun b o e => k2 b o (k1 b o e)
  have ex2 : Ext ρ { s with heap := h₀, toks := s.toks + 1 } ρ { s with heap := h2, toks := s.toks + 1 + 1 } := .keeps (s' := { s with heap := h2, toks := s.toks + 1 + 1 }) kk rfl rfl
  have sr2 := sr.extF (s' := { s with heap := h2, toks := s.toks + 1 + 1 }) ex2 (sr.hs.keeps (s' := { s with heap := h2, toks := s.toks + 1 + 1 }) kk)
  refine h.go' ρ { s with heap := h2, toks := s.toks + 1 + 1 } [.ref a] (A.deeper env) _ sr2.hs (.cons (.ref hn) .nil) r.deeper fun v val H' ρ' s' hval hs' ex' q => ?_
  have sr3 := sr2.ext ex' hs'
  refine PySem.wpAt_of_wpAny (wpAny_mono (WS.go' q env ρ' s' sr3 (A.deeper env) _ r.deeper) (fun fl s₂ ⟨f', vals', H₂, ρ₂, b1, b2, b3, q2⟩ => ?_) fun _ _ e => e)
  have ex0 : Ext ρ s ρ' s' := (Ext.keeps (s' := { s with heap := h₀, toks := s.toks + 1 }) hk rfl rfl).trans (ex2.trans ex')
  have ex : Ext ρ s ρ₂ s₂ := by
    have hLs : ∀ b o, s.heap.get? b = some o → b ∉ ρ → s'.heap.get? b = some o := ex0.keep
    refine ⟨?_, fun b o e hb => ?_, fun b hb o e => ?_, ex0.tup.trans b3.tup, b3.gens.trans ex0.gens, b3.os.trans ex0.os⟩
    · obtain ⟨t, e, ht⟩ := ex0.pre
      obtain ⟨t', e', ht'⟩ := b3.pre
      refine ⟨t ++ t', by rw [e', e, List.append_assoc], fun b hb => ?_⟩
      rcases List.mem_append.mp hb with q | q
      · exact ht b q
      · exact fresh_back ex0.pre' ex0.keep ex0.live (ht' b q)
    · by_cases hbc : b = cc
      · subst hbc
        rw [Xs _ _ hoce] at e
        cases e
        exact b2.hs.base _ _ (X _ _ hoce)
      refine b3.keep b o (ex0.keep b o e hb) (ex0.notin e hb) ?_ ?_
      · rw [hL]; exact Nat.ne_of_lt (Heap.lt_size e)
      · intro y c hc q
        rw [hcells, List.lookup_cons] at hc
        split at hc
        · exact hbc (q.trans (Option.some.inj hc).symm)
        · cases hc
    · obtain ⟨o', e'⟩ := ex0.live b hb o e
      exact b3.live b o' e'
  cases b1 with
  | ret hv' => exact hR _ _ H₂ ρ₂ s₂ hv' b2.hs ex q2
  | next => exact hR .none .none H₂ ρ₂ s₂ .none b2.hs ex q2
  | brk => exact q2.elim
  | cont => exact q2.elim
end
noncomputable def ccOf (K : Frag) (f : Addr) : Addr := match (fdOf K f).closure with
  | [(_, c)] => c
  | _ => 0
noncomputable def cdaOf (K : Frag) (f : Addr) : Addr := match (fdOf K f).code with
  | .ref c => c
  | _ => 0
/-- a class's __init__ that begins with super().__init__() -/
structure SuperIs (prog : Program) (K : Frag) (C f f2 : Addr) (rest : List Stmt) : Prop where
  e1 : fnThere K f = true
  e2 : ∃ p0 p1 apos cpos epos : Pos, (fdOf K f).body = .stmts (.Expr (.Call (.Attribute (.Call (.Name (Str.ofString "super") p0) [] [] p1) (Str.ofString "__init__") apos) [] [] cpos) epos :: rest) ∧ (apos.endLine == cpos.line) = true
  e3 : fdSays (fdOf K f) = ([(Str.ofString "__class__", ccOf K f)], mainGlobals, builtinsNs, nmSup, .function, false, false)
  e4 : codeIn K (fdOf K f).code (fdOf K f).qualname = true
  bind : ∀ x, bindArgs (fdOf K f) ⟨[x], []⟩ = pure [(Str.ofString "self", x)]
  par : (((fdOf K f).params.posonlyargs ++ (fdOf K f).params.args).head?).map (·.arg) = some (Str.ofString "self")
  hcda : (fdOf K f).code = .ref (cdaOf K f)
  hfile : (fileIn K (cdaOf K f)).map (fun x => prog.main.file == x) = some true
  hcell : cellIn K (ccOf K f) = some (.ref C)
  hC : (clsIn K C).isSome = true
  hsub : mroIn K C (.ref C) = some true
  hsuper : nsIn K mainGlobals "super" = some none
  htop : (prog.main.scope.names.lookup ("super" : Str)).isSome = false
  hopq : nsIn K cStatics "thirdparty.any" = some none
  hm : ks_superIn K C C "__init__" = some (some (.ref f2))
  ht : typeIn K (.ref f2) = some (.type "function")
  hfn : fnIn K f2 = true
theorem boot_super : bootBuiltins "super" = some (.type "super") := by boot_by_name
theorem SuperIs.call {prog : Program} {w : World} {B : Heap} {d : Nat} {H : List O} {K : Frag} {p : Program} {loose : List Str} {mg mb : Str → Option Value} {C f f2 : Addr} {n dn : Nat} {rest : List Stmt} {Q : V → List O → Prop} (x : SuperIs prog K C f f2 rest) (X : K.In B) (T : TopRead p loose mg mb B) (h4 : H[n]? = some (.inst C dn))
    (h : CallC prog w B d f2 [.ref n] H fun _ H' => EvS prog w B nmSup d rest [some (.ref n), none, none] H' fun fl _ H' => match fl with | .ret v => Q v H' | .next => Q .none H' | _ => False) :
    CallC prog w B (d + 1) f [.ref n] H Q := by
  obtain ⟨p0, p1, apos, cpos, epos, e2, hline⟩ := x.e2
  obtain ⟨file, hf1, hf2⟩ := Option.map_eq_some_iff.mp x.hfile
  exact call_super X T x.e1 e2 x.e3 x.e4 x.bind x.par x.hcda hf1 hf2 x.hcell x.hC x.hsub x.hsuper hline x.htop boot_super x.hopq x.hm x.ht x.hfn h4 h
/-- a list of zs that the call was given -/
noncomputable def BList (B : Heap) (a : Addr) (zs : List Int) : Prop := ∃ items : List Value, B.IsList a items.toArray ∧ IntsAre items zs
theorem ints_vrs {ρ : List Addr} {h : Heap} : ∀ {items : List Value} {zs : List Int}, IntsAre items zs → VRs ρ h (zs.map .int) items
  | _, _, .nil => .nil
  | _, _, .cons n t r => .cons (.int n t) (ints_vrs r)
theorem vrs_ints {ρ : List Addr} {h : Heap} : ∀ {zs : List Int} {items : List Value}, VRs ρ h (zs.map .int) items → IntsAre items zs
  | [], _, .nil => .nil
  | n :: r, _, .cons (.int _ t) x => .cons n t (vrs_ints x)
theorem ints_len {items : List Value} {zs : List Int} (h : IntsAre items zs) : items.length = zs.length := by
  induction h with
  | nil => rfl
  | cons n t _ ih => simp [ih]
section
variable {prog : Program} {w : World} {B : Heap} {names : Names} {vals : Vals} {d : Nat} {H : List O} {Q : V → List O → Prop}
theorem list_ints {ρ : List Addr} {s : Shared} {n : Nat} {ns : List Int} {x : Value} (hs : HS w.params B ρ H s) (hx : VR ρ s.heap (.ref n) x) (hn : H[n]? = some (.list (ns.map .int))) : ∃ a items, x = .ref a ∧ s.heap.IsList a items.toArray ∧ IntsAre items ns := by
  obtain ⟨a, items, ep, e, _, g1, g2⟩ := list_at hs hx hn
  exact ⟨a, items, e, isList_of g1, vrs_ints g2⟩
theorem w_ne_ints {n m : Nat} {ns ms : List Int} (h1 : H[n]? = some (.list (ns.map .int))) (h2 : H[m]? = some (.list (ms.map .int))) (q : Q (.bool (!decide (ns = ms))) H) : W2 prog w B d (compareOp .NotEq) (.ref n) (.ref m) H Q := by
  intro ρ s x y hs hx hy A E r
  obtain ⟨a, items, rfl, g1, g2⟩ := list_ints hs hx h1
  obtain ⟨b, items', rfl, g3, g4⟩ := list_ints hs hy h2
  exact ne_intsK g1 g2 g3 g4 r.units64 (fin hs (fun _ _ e => e) (.bool _) q)
theorem ev_SliceB {value : PySem.Expr} {lower upper : Option PySem.Expr} {p pos : Pos} {a : Addr} {zs : List Int} (hb : BList B a zs) (hl : zs.length ≤ 1000000)
    (h : EvE prog w B names d value vals H fun v H₁ => v = .val (.ref a) ∧ EvP prog w B names d lower vals H₁ fun l H₂ => EvP prog w B names d upper vals H₂ fun u H₃ => ∃ lo hi, PartV l lo ∧ PartV u hi ∧ Q (.ref H₃.length) (H₃ ++ [.list (pickL (zs.map .int) lo hi)])) :
    EvE prog w B names d (.Subscript value (.Slice lower upper none p) pos) vals H Q := by
  constructor
  intro env ρ s sr A E r
  refine Subscript_ (h.go sr r fun v x H₁ ρ₁ s₁ va sr₁ e₁ ⟨hv, h₁⟩ => ?_)
  subst hv
  cases va
  refine slice_go (step := none) (Q₁ := fun l u st H₃ => st = .none ∧ ∃ lo hi, PartV l lo ∧ PartV u hi ∧ Q (.ref H₃.length) (H₃ ++ [.list (pickL (zs.map .int) lo hi)])) sr₁ r ?_ ?_
  · refine evP_mono h₁ fun l H₂ h₂ => evP_mono h₂ fun u H₃ h₃ => ⟨rfl, h₃⟩
  · rintro l u st x' y z H₃ ρ₃ s₃ vl vu vst sr₃ e₃ ⟨rfl, lo, hi, pl, pu, q⟩ sl hsl
    cases vst
    obtain ⟨items, ⟨o, ho, hc, n, hd⟩, hi'⟩ := hb
    have g1 := sr₃.hs.base _ _ ho
    have l1 := ints_len hi'
    obtain ⟨ops, hops⟩ := subscripted_ops (.Slice lower upper none p) (.ref a) (.ref sl)
    refine tail_any (T := "list") ⟨o, g1, hc⟩ slot_list_getitem.lookup ?_ hops
    refine wpAny_getItem_list_slice ⟨o, g1, hc, n, hd⟩ hsl (pl.is vl) (pu.is vu) .none (by simp) ?_ (by rw [List.size_toArray, sizeLine_eq]; walk_at "om")
    rw [kms_pick_eq]
    obtain ⟨z1, z2, z3⟩ := new_list (ep := 0) sr₃.hs ((ints_vrs (ρ := ρ₃) (h := s₃.heap) hi').pick lo hi)
    exact ⟨.ref H₃.length, _, _, .ref z3, z1, (e₁.trans e₃).trans z2, q⟩
end
section
open PySem.SeqAt PySem.Spec
variable {prog : Program} {w : World} {B : Heap} {names : Names} {vals : Vals} {d : Nat} {H : List O} {Q : V → List O → Prop}
noncomputable def isStrV (x : Str) : Value → Bool
  | .str z _ => z == x
  | _ => false
theorem strs_eqAt {A : Around} {s : Shared} {ρ : List Addr} {h : Heap} {x : Str} {t : Tok} : ∀ {xs : List Str} {items : List Value}, VRs ρ h (xs.map .str) items → (∀ y ∈ items, EqAt A s y (.str x t) (isStrV x y)) ∧ items.any (isStrV x) = xs.any (· == x)
  | [], _, .nil => ⟨(fun _ hy => nomatch hy), rfl⟩
  | z :: r, _, .cons (.str _ u) g => by
    obtain ⟨a, b⟩ := strs_eqAt (A := A) (s := s) (x := x) (t := t) g
    refine ⟨fun y hy => ?_, by rw [List.any_cons, List.any_cons, b]; rfl⟩
    rcases List.mem_cons.mp hy with rfl | hy
    · exact EqAt.str_str z u x t
    · exact a y hy
/-- in a written tuple of texts -/
theorem w_in_strs {x : Str} {xs : List Str} (q : Q (.bool (xs.any (· == x))) H) : W2 prog w B d (compareOp .In) (.str x) (.tup (xs.map .str)) H Q := by
  intro ρ s a b hs hx hy A E r
  cases hx with
  | str _ t =>
    obtain ⟨l, items, rfl, ho, hv⟩ := hy.tup_inv
    obtain ⟨e1, e2⟩ := strs_eqAt (A := A.in1) (s := s) (x := x) (t := t) hv
    refine in_tupleAt (isStrV x) ⟨_, ho, rfl, _, rfl⟩ (fun y hy => e1 y (by simpa using hy)) ?_
    rw [List.any_toArray, e2]
    exact fin hs (fun _ _ e => e) (.bool _) q
theorem readsAll_bools {ρ : List Addr} {h : Heap} : ∀ {bs : List Bool} {vs : List Value}, VRs ρ h (bs.map .bool) vs → ReadsAll h vs (bs.map PyData.bool) []
  | [], _, .nil => .nil
  | _ :: _, _, .cons (.bool b) r => by
    have := ReadsAll.cons (Reads.bool (h := h) b) (readsAll_bools r)
    simpa using this
theorem canLay_bools : ∀ bs : List Bool, PyData.canLayAll0 (bs.map PyData.bool) = true
  | [] => by simp [PyData.canLayAll0]
  | n :: r => by simp [PyData.canLayAll0, PyData.canLay0, canLay_bools r]
theorem depth_bools : ∀ bs : List Bool, PyData.depthAll (bs.map PyData.bool) ≤ 1
  | [] => by simp [PyData.depthAll]
  | n :: r => by
    have := depth_bools r
    simp only [List.map_cons, PyData.depthAll, PyData.depth]
    walk_at "om"
theorem shaped_bools (bs : List Bool) : shaped (.list (bs.map PyData.bool)) = true := by
  have h1 := depth_bools bs
  have h2 : PyData.depth (.list (bs.map PyData.bool)) ≤ 64 := by simp only [PyData.depth]; walk_at "om"
  show (PyData.canLay0 (.list (bs.map PyData.bool)) && decide (PyData.depth (.list (bs.map PyData.bool)) ≤ 64)) = true
  rw [Bool.and_eq_true]
  exact ⟨by simp only [PyData.canLay0]; exact canLay_bools bs, decide_eq_true h2⟩
theorem noMix_bools : ∀ bs cs : List Bool, noMixAll (bs.map PyData.bool) (cs.map PyData.bool) = true
  | [], [] => by simp [noMixAll]
  | [], _ :: _ => by simp [noMixAll]
  | _ :: _, [] => by simp [noMixAll]
  | _ :: r, _ :: q => by simp [noMixAll, noMix, noMix_bools r q]
theorem same_bools : ∀ bs cs : List Bool, PySem.Spec.sameAll (bs.map PyData.bool) (cs.map PyData.bool) = decide (bs = cs)
  | [], [] => by simp [PySem.Spec.sameAll]
  | [], _ :: _ => by simp [PySem.Spec.sameAll]
  | _ :: _, [] => by simp [PySem.Spec.sameAll]
  | n :: r, k :: q => by
    simp only [List.map_cons, PySem.Spec.sameAll, PySem.Spec.same, same_bools r q]
    by_cases h : n = k <;> simp [h]
theorem reads_bools {ρ : List Addr} {h : Heap} {a : Addr} {vs : List Value} {bs : List Bool} (hl : h.IsList a vs.toArray) (hi : VRs ρ h (bs.map .bool) vs) : Reads h (.ref a) (.list (bs.map PyData.bool)) [a] := by
  obtain ⟨o, ho, hc, n, hd⟩ := hl
  exact Reads.list ho hc hd (by simpa using readsAll_bools hi)
/-- lists of truths, unlike -/
theorem w_ne_bools {n m : Nat} {bs cs : List Bool} (h1 : H[n]? = some (.list (bs.map .bool))) (h2 : H[m]? = some (.list (cs.map .bool))) (q : Q (.bool (!decide (bs = cs))) H) : W2 prog w B d (compareOp .NotEq) (.ref n) (.ref m) H Q := by
  intro ρ s x y hs hx hy A E r
  obtain ⟨a, items, ep, rfl, _, g1, g2⟩ := list_at hs hx h1
  obtain ⟨b, items', ep', rfl, _, g3, g4⟩ := list_at hs hy h2
  refine ne_dataH_same (reads_bools (isList_of g1) g2) (reads_bools (isList_of g3) g4) (shaped_bools bs) (shaped_bools cs) r.units64 (by simp only [noMix]; exact noMix_bools bs cs) ?_
  simp only [PySem.Spec.same]; rw [same_bools]
  exact fin hs (fun _ _ e => e) (.bool _) q
end
section
variable {prog : Program} {w : World} {A : Around} {E : Value → Shared → Prop} {s : Shared}
theorem unpack_list {l : Addr} {items : Array Value} {targets : List (Bool × (Value → Sem Unit))} {Q : Unit → Shared → Prop} (hh : A.handled = none) (ht : s.heap.IsList l items)
    (hn : targets.length = items.size) (hstar : targets.findIdx? (·.1) = none)
    (h : ∀ h', Heap.ExtBut s.heap.objs.size s.heap h' → wpAny (model prog w) A (assignInOrder (targets.map (·.2)) items.toList) Q E { s with heap := h' }) :
    wpAny (model prog w) A (unpack (.ref l) targets) Q E s := by
  unfold unpack
  rw [hn, hstar]
  exact wpAny_bind (wpAny_holding (kun_itemsOf hh ht h))
end
section
variable {prog : Program} {w : World} {B : Heap} {names : Names} {vals : Vals} {d : Nat} {H : List O}
/-- names of a list's items -/
theorem ev1_AssignUnp {xs : List (Str × Pos)} {k : Nat} {tp pos : Pos} {value : PySem.Expr} {Q : Fl → Vals → List O → Prop} (hs : ∀ env, swapsWith value (some (.Tuple (nameExprs xs) k tp)) pos.line env = pure false)
    (hw : ∀ env, swappedStores [.Tuple (nameExprs xs) k tp] value env = pure none)
    (h : EvE prog w B names d value vals H fun v H₁ => ∃ n vs, v = .ref n ∧ H₁[n]? = some (.list vs) ∧ xs.length = vs.length ∧ ∃ vals', PutAll names vals ((xs.map (·.1)).zip vs) vals' ∧ Q .next vals' H₁) :
    Ev1 prog w B names d (.Assign [.Tuple (nameExprs xs) k tp] value pos) vals H Q := by
  constructor
  intro env ρ s sr A E r
  rw [exec_Assign_arm]
  refine wpAny_bind (wpAny_standAt ?_)
  rw [show swapsWithSole [.Tuple (nameExprs xs) k tp] value pos.line env = pure false from hs env]
  refine wpAny_bind (wpAny_pure ?_)
  rw [if_neg (by decide)]
  refine wpAny_bind (h.go sr r fun v a H₁ ρ₁ s₁ va sr₁ e₁ ⟨n, vs, hv, hn, hl, vals', p1, q⟩ => ?_)
  subst hv
  obtain ⟨t, items, ep, rfl, ht', ht, hvs⟩ := list_at sr₁.hs va hn
  have hil := hvs.length
  rw [hw env]
  refine wpAny_bind (wpAny_pure ?_)
  show wpAny _ _ (do assignAll _ [assign (.Tuple (nameExprs xs) k tp) env]; pure Flow.next) _ _ _
  refine wpAny_bind ?_
  show wpAny _ _ (assign (.Tuple (nameExprs xs) k tp) env (.ref t)) _ _ _
  rw [arm_assign_Tuple]
  refine wpAny_bind (wpAny_standAt (unpack_list r.hand (isList_of ht) (by rw [assignEach_names]; simp [hil, hl]) (star_names xs env) fun h' x' => ?_))
  obtain ⟨hs', ex'⟩ := ext_end sr₁.hs x'
  rw [assignEach_names, List.map_map]
  refine assign_all (xs := xs) (sr₁.ext ex' hs') p1 hl (ex'.vrs hvs) fun s₂ sr₂ e₂ => wpAny_pure ?_
  exact ⟨_, vals', H₁, ρ₁, .next, sr₂, (e₁.toF.trans ex'.toF).trans e₂, q⟩

/-- three items, the last first -/
theorem ev_SliceRev {value step : PySem.Expr} {p pos : Pos} {n : Nat} {u1 u2 u3 : V} {Q : V → List O → Prop}
    (h : EvE prog w B names d value vals H fun v H₁ => v = .ref n ∧ EvE prog w B names d step vals H₁ fun l H₂ => l = .int (-1) ∧ H₂[n]? = some (.list [u1, u2, u3]) ∧ Q (.ref H₂.length) (H₂ ++ [.list [u3, u2, u1]])) :
    EvE prog w B names d (.Subscript value (.Slice none none (some step) p) pos) vals H Q := by
  constructor
  intro env ρ s sr A E r
  refine Subscript_ (h.go sr r fun v x H₁ ρ₁ s₁ va sr₁ e₁ ⟨hv, h₁⟩ => ?_)
  subst hv
  refine slice_go (lower := none) (upper := none) (step := some step) (Q₁ := fun l u st H₃ => l = .none ∧ u = .none ∧ st = .int (-1) ∧ H₃[n]? = some (.list [u1, u2, u3]) ∧ Q (.ref H₃.length) (H₃ ++ [.list [u3, u2, u1]])) sr₁ r ?_ ?_
  · show EvE prog w B names d step vals H₁ _
    exact h₁.mono fun v H ⟨a, b⟩ => ⟨rfl, rfl, a, b⟩
  · rintro l u st x' y z H₃ ρ₃ s₃ vl vu vst sr₃ e₃ ⟨rfl, rfl, rfl, hn, q⟩ sl hsl
    cases vl
    cases vu
    obtain ⟨a, items, ep, ea, ha, g1, g2⟩ := list_at sr₃.hs (e₃.vr va) hn
    subst ea
    cases g2 with
    | cons a1 g2 =>
    cases g2 with
    | cons a2 g2 =>
    cases g2 with
    | cons a3 g2 =>
    cases g2
    rename_i y1 y2 y3
    cases vst
    obtain ⟨ops, ho⟩ := subscripted_ops (.Slice none none (some step) p) (.ref a) (.ref sl)
    refine tail_any (T := "list") ⟨_, g1, rfl⟩ slot_list_getitem.lookup ?_ ho
    refine wpAny_getItem_list_slice (isList_of g1) hsl .none .none (.int (-1) _) (by decide) ?_ (by rw [List.size_toArray, sizeLine_eq]; simp)
    have e1 : sliceRange (sliceBounds none none (some (-1)) 3).1 (sliceBounds none none (some (-1)) 3).2.1 (sliceBounds none none (some (-1)) 3).2.2 = [2, 1, 0] := by decide +kernel
    have e : slicePick [y1, y2, y3].toArray none none (some (-1)) = [y3, y2, y1].toArray := by
      show ((sliceRange (sliceBounds none none (some (-1)) 3).1 (sliceBounds none none (some (-1)) 3).2.1 (sliceBounds none none (some (-1)) 3).2.2).filterMap ([y1, y2, y3].toArray[·]?)).toArray = _
      rw [e1]; rfl
    rw [e]
    obtain ⟨z1, z2, z3⟩ := new_list (ep := 0) sr₃.hs (.cons a3 (.cons a2 (.cons a1 .nil)))
    exact ⟨.ref H₃.length, _, _, .ref z3, z1, (e₁.trans e₃).trans z2, q⟩
end
/-- the state of a zip of two lists -/
structure ZSt (h : Heap) (z TI TO i1 i2 l1 l2 : Addr) (f0 : Value) (i : Nat) (xs ys : List Value) : Prop where
  z : IsZip h z TI TO f0
  ti : IsPair h TI (.ref i1) (.ref i2)
  to : ∃ a b, IsPair h TO a b
  h1 : h.IsListIter i1 l1 i
  h2 : h.IsListIter i2 l2 i
  l1 : h.IsList l1 xs.toArray
  l2 : h.IsList l2 ys.toArray
theorem ZSt.keep {h h' : Heap} {z TI TO i1 i2 l1 l2 : Addr} {f0 : Value} {i : Nat} {xs ys : List Value} (x : ZSt h z TI TO i1 i2 l1 l2 f0 i xs ys) (k : ∀ b o, b ∈ [z, TI, TO, i1, i2, l1, l2] → h.get? b = some o → h'.get? b = some o) : ZSt h' z TI TO i1 i2 l1 l2 f0 i xs ys := by
  obtain ⟨a, b, ht⟩ := x.to
  exact ⟨k z _ (by simp) x.z, k TI _ (by simp) x.ti, ⟨a, b, k TO _ (by simp) ht⟩, x.h1.at fun o e => k i1 o (by simp) e, x.h2.at fun o e => k i2 o (by simp) e, x.l1.at fun o e => k l1 o (by simp) e, x.l2.at fun o e => k l2 o (by simp) e⟩
section
variable {prog : Program} {w : World} {B : Heap} {A : Around} {E : Value → Shared → Prop} {names names' : Names} {vals vals' : Vals} {env : Env} {ρ : List Addr} {H : List O} {s : Shared} {d : Nat}
theorem vrs_bools {ρ ρ' : List Addr} {h h' : Heap} : ∀ {bs : List Bool} {xs : List Value}, VRs ρ h (bs.map .bool) xs → VRs ρ' h' (bs.map .bool) xs
  | [], _, .nil => .nil
  | _ :: _, _, .cons a r => by cases a; exact .cons (.bool _) (vrs_bools r)
/-- a frame that holds nothing yet, over a heap of one list of truths: what changes beside leaves it -/
theorem sr_but {C D : Addr} {bs : List Bool} {s' : Shared} {W : List Addr} (hC : env.locals = C) (hc : env.cells = []) (hn : names.all (fun x => x.2 == .local) = true) (hv : ∀ v ∈ vals, v = none) (x : SR w.params B env names vals [D] [.list (bs.map .bool)] s)
    (k : ∀ b o, b ∉ W → s.heap.get? b = some o → s'.heap.get? b = some o) (h1 : C ∉ W) (h2 : D ∉ W) (h3 : ∀ b ∈ W, B.get? b = none) : SR w.params B env names vals [D] [.list (bs.map .bool)] s' := by
  subst hC
  obtain ⟨ok, hs, fr⟩ := x
  refine ⟨ok, ⟨⟨rfl, by simp, fun i o a hi ha => ?_⟩, fun b o e => k b o (fun q => ?_) (hs.base b o e), hs.above, hs.sysm, hs.big⟩, fr.len, ?_, fun i y kk v e1 e2 e3 => ?_, fun i y e => ?_, fr.capart, fr.sepL, fr.sepC, fun y c e => ?_, fr.above⟩
  · have hi' := List.getElem?_eq_some_iff.mp hi
    cases i with
    | succ i => simp at hi
    | zero =>
      simp at hi ha
      subst hi; subst ha
      obtain ⟨items, ep, g1, g2⟩ := hs.hr.obj 0 _ D rfl rfl
      exact ⟨items, ep, k _ _ h2 g1, vrs_bools g2⟩
  · have := h3 b q; rw [e] at this; cases this
  · obtain ⟨m, ⟨o, es, ep, ho, hd, rest⟩, _⟩ := fr.ns
    refine ⟨m, ⟨o, es, ep, k _ _ h1 ho, hd, rest⟩, fun i y v e1 e2 => ?_⟩
    cases hv _ (List.mem_of_getElem? e2)
  · cases hv _ (List.mem_of_getElem? e3)
  · have := List.all_eq_true.mp hn _ (List.mem_of_getElem? e)
    simp at this
  · rw [hc] at e; cases e
end
theorem ltN {h : Heap} {a : Nat} {o : Obj} (e : h.get? a = some o) : a < h.objs.size := Heap.lt_size e
theorem fresh_ge {h : Heap} {a : Nat} (ha : h.objs.size ≤ a) : h.get? a = none := by
  cases e : h.get? a with
  | none => rfl
  | some o => exact absurd (Heap.lt_size e) (Nat.not_lt.mpr ha)
section
variable {prog : Program} {w : World} {B : Heap} {A : Around} {E : Value → Shared → Prop} {names names' : Names} {vals vals' : Vals} {env : Env} {ρ : List Addr} {H : List O} {s : Shared} {d : Nat}
theorem relab_locals : ∀ {ns : Names}, ns.all (fun x => x.2 == .local) = true → Relab names ns ns
  | [], _ => .nil
  | (x, k) :: r, h => by
    rw [List.all_cons, Bool.and_eq_true] at h
    exact .same (.inl (by simpa using h.1)) (relab_locals h.2)
theorem compV_none : ∀ (ns : Names), CompV names vals ns (List.replicate ns.length none)
  | [] => .nil
  | _ :: r => .skip (compV_none r)
theorem vrs_ints' {ρ ρ' : List Addr} {h h' : Heap} : ∀ {zs : List Int} {xs : List Value}, VRs ρ h (zs.map .int) xs → VRs ρ' h' (zs.map .int) xs
  | [], _, .nil => .nil
  | _ :: _, _, .cons a r => by cases a; exact .cons (.int _ _) (vrs_ints' r)
theorem one_left {P : Params} {B : Heap} {ρ' : List Addr} {D : Addr} {o : O} {s : Shared} (pre : ∃ t, ρ' = [D] ++ t) (hs : HS P B ρ' [o] s) : ρ' = [D] := by
  obtain ⟨t, rfl⟩ := pre
  have := hs.hr.len
  simp at this
  subst this; rfl

theorem ev_CompZip {elt e1 e2 : PySem.Expr} {elts : List PySem.Expr} {kk : Nat} {tp zp cpos : Pos} {zn : Str} {scope : Scope} {pos : Pos} {Q : V → List O → Prop} (hkind : scope.kind = .function) (hloc : scope.names.all (fun x => x.2 == .local) = true) (hnod : (scope.names.map (·.1)).Nodup)
    (hdbg : ∀ x ∈ scope.names, (x.1 == ("__debug__" : Str)) = false ∧ (x.1 == ("__classdict__" : Str)) = false) (hz : BuiltIs B zn (.type "zip")) (lz : Has names zn .globalImplicit) (hp : [e1, e2].all plainE = true)
    (h : EvEs prog w B names d [e1, e2] vals H fun vs H₁ => ∃ (n1 n2 : Nat) (as bs : List Int), vs = [.ref n1, .ref n2] ∧ H₁[n1]? = some (.list (as.map .int)) ∧ H₁[n2]? = some (.list (bs.map .int)) ∧ as.length = bs.length ∧ as.length ≤ 1000 ∧
      (∀ (B' : Heap) (i : Nat) a b ys, as[i]? = some a → bs[i]? = some b → ∃ vals'', TgtN scope.names (.Tuple elts kk tp) (.tup [.int a, .int b]) (List.replicate scope.names.length none) vals'' ∧ EvE prog w B' scope.names d elt vals'' [.list ys] fun y H' => y = .bool (a == b) ∧ H' = [.list ys]) ∧
      Q (.ref H₁.length) (H₁ ++ [.list ((List.zipWith (fun a b => a == b) as bs).map .bool)])) :
    EvE prog w B names d (.ListComp elt [⟨.Tuple elts kk tp, .Call (.Name zn zp) [e1, e2] [] cpos, [], 0⟩] scope pos) vals H Q := by
  constructor
  intro env ρ s sr A E r
  rw [eval_ListComp]
  have rl : Relab names scope.names scope.names := relab_locals hloc
  have cv : CompV names vals scope.names (List.replicate scope.names.length none) := compV_none _
  obtain ⟨k1, k2, k3, k4, k5⟩ := rl.kinds
  have cellsThere : ∀ (x : Str), Has names x .cell → ∃ c, env.cells.lookup x = some c := fun x hx => by
    obtain ⟨j, hj⟩ := hx.get
    obtain ⟨c, _, q, _⟩ := sr.fr.cany j x hj
    exact ⟨c, q⟩
  obtain ⟨cl, hclos, hcl1, hcl⟩ := closure_for (scope := scope) cellsThere k2
  have hcl0 : cl = [] := by
    have : (scope.names.filter fun y => y.2 == .free) = [] := by
      rw [List.filter_eq_nil_iff]
      intro y hy h'
      have := List.all_eq_true.mp hloc y hy
      simp at this h'
      rw [this] at h'; cases h'
    rw [this] at hcl1
    simpa using hcl1
  refine wpAny_comprehension_free (g := ⟨.Tuple elts kk tp, .Call (.Name zn zp) [e1, e2] [] cpos, [], 0⟩) (gs := []) rfl (fun _ => rfl) hclos hkind (fun x hx hl => lookup_of_get hnod (List.mem_iff_getElem?.mp hx).choose_spec |>.trans (by rw [hl])) ?_
  refine wpAny_Call_Name_kw ((ev_built (prog := prog) (w := w) (d := d) (vals := vals) (H := H) (Q := fun v H' => v = .val (.type "zip") ∧ H' = H) lz hz ⟨rfl, rfl⟩).go sr r fun f a H₀ ρ₀ s₀ va sr₀ e₀ ⟨hf, hH⟩ => ?_)
  subst hf
  subst hH
  cases va
  refine callWith_of (P := fun h => KeepOk prog w h (.type "zip")) (by rw [nostar_of hp]; rfl) (fun h k => k) (evalArgs_of hp (evEs_spliced r hp h sr₀ fun vs as' H₁ ρ₁ s₁ vas sr₁ e₁ q => ⟨keep_type _, ?_⟩))
  obtain ⟨n1, n2, as, bs, rfl, hn1, hn2, hlen, hle, helt, q⟩ := q
  cases vas with
  | cons va1 vas =>
  cases vas with
  | cons va2 vas =>
  cases vas
  obtain ⟨l1, xs, ep1, rfl, hρ1, g1, vx⟩ := list_at sr₁.hs va1 hn1
  obtain ⟨l2, ys, ep2, rfl, hρ2, g2, vy⟩ := list_at sr₁.hs va2 hn2
  obtain ⟨l1, rfl⟩ : ∃ L : Nat, L = l1 := ⟨l1, rfl⟩
  obtain ⟨l2, rfl⟩ : ∃ L : Nat, L = l2 := ⟨l2, rfl⟩
  have xl := vx.length
  have yl := vy.length
  simp only [List.length_map] at xl yl
  refine call_zip_2 (isList_of g1) (isList_of g2) fun hz1 z1 z2 z3 z4 z5 zsz zk => ?_
  have e01 : Ext ρ s ρ₁ s₁ := e₀.trans e₁
  have ex₂ : Ext ρ₁ s₁ ρ₁ { s₁ with heap := hz1 } := .keeps zk rfl rfl
  have hs₂ : HS w.params B ρ₁ H₁ { s₁ with heap := hz1 } := sr₁.hs.keeps (s' := { s₁ with heap := hz1 }) zk
  have sr₂ := sr₁.ext ex₂ hs₂
  generalize hn : s₁.heap.objs.size = n at z1 z2 z3 z4 z5 zsz
  refine wpAny_pyIter_zip z1 ?_
  refine wpAny_newObj_type ?_
  refine wpAny_newFunctionEnv k1 (by intro y hy; simp at hy) (fun h₁ hns₁ hsb₁ => ?_) hkind
  dsimp only at hns₁ hsb₁ ⊢
  generalize hH2 : hz1.push { cls := .type "list", dict := none, data := .seq ([] : List Value).toArray } = H2 at hns₁ hsb₁ ⊢
  have hH2' : hz1.push (listObj [] 0) = H2 := hH2
  have hCsz : H2.objs.size = n + 6 := by rw [← hH2, Heap.size_push, zsz]
  rw [hCsz] at hns₁ hsb₁ ⊢
  have l1n : l1 < n := by rw [← hn]; exact ltN g1
  have l2n : l2 < n := by rw [← hn]; exact ltN g2
  have keepP : ∀ b o, hz1.get? b = some o → H2.get? b = some o := fun b o e => by rw [← hH2]; exact Heap.get?_push_of_some _ e
  have keepC : ∀ b o, H2.get? b = some o → h₁.get? b = some o := fun b o e => hsb₁.extBut b o (Nat.ne_of_lt (hCsz ▸ Heap.lt_size e)) (Heap.get?_push_of_some _ e)
  have keep2 : ∀ b o, hz1.get? b = some o → h₁.get? b = some o := fun b o e => keepC b o (keepP b o e)
  have keep1 : ∀ b o, s₁.heap.get? b = some o → h₁.get? b = some o := fun b o e => keep2 b o (zk b o e)
  have hD : h₁.get? (n + 5) = some (listObj [] 0) := keepC _ _ (by rw [← hH2', ← zsz]; exact Heap.get?_push_size _ rfl)
  have hsize : hz1.objs.size = n + 5 := zsz
  rw [hsize]
  -- the frame
  have srC : SR w.params B (compEnvC scope cl (n + 6) env) scope.names (List.replicate scope.names.length none) (ρ₁ ++ [n + 5]) (H₁ ++ [.list []]) { s₁ with heap := h₁, toks := s₁.toks + ([] : List (Str × Value)).length } := by
    have hx1 : HS w.params B (ρ₁ ++ [n + 5]) (H₁ ++ [.list []]) { s₁ with heap := h₁, toks := s₁.toks + ([] : List (Str × Value)).length } :=
      sr₁.hs.more keep1 (fresh_ge (by walk_at "om")) ⟨[], 0, hD, .nil⟩ (by walk_at "om")
    have hx2 : Ext ρ₁ s₁ (ρ₁ ++ [n + 5]) { s₁ with heap := h₁, toks := s₁.toks + ([] : List (Str × Value)).length } := .more keep1 (fresh_ge (by walk_at "om")) rfl rfl
    refine comp_sr (s := s₁) (h' := h₁) sr₁ hkind rl hnod hdbg cv hcl1 hcl hx2 hx1 (by simpa using hns₁) (fresh_ge (by walk_at "om")) ?_ ?_
    · intro hm
      rcases List.mem_append.mp hm with hm | hm
      · obtain ⟨o, ho, _⟩ := sr₁.hs.hr.own hm
        have := ltN ho
        walk_at "om"
      · simp at hm
    · cases e : B.get? (n + 6) with
      | none => rfl
      | some o => have := ltN (sr₁.hs.base _ _ e); walk_at "om"
  subst hcl0
  have hC0 : (compEnvC scope [] (n + 6) env).cells = [] := rfl
  have srL : SR w.params s₁.heap (compEnvC scope [] (n + 6) env) scope.names (List.replicate scope.names.length none) [n + 5] [.list (([] : List Bool).map .bool)] { s₁ with heap := h₁, toks := s₁.toks + ([] : List (Str × Value)).length } := by
    have sys := sr₁.hs.sysm
    obtain ⟨c, o, hc, ho⟩ := sys
    have hcn := ltN (sr₁.hs.base _ _ ho)
    have hnone : ∀ v ∈ List.replicate scope.names.length (none : Option V), v = none := fun v hv => (List.mem_replicate.mp hv).2
    refine ⟨srC.ok, ⟨⟨rfl, by simp, fun i o a hi ha => ?_⟩, keep1, fun a ha => ?_, ⟨c, o, hc, sr₁.hs.base _ _ ho⟩, fun a ha => ?_⟩, by simp, ⟨_, (by simpa using hns₁ : h₁.Ns (n + 6) fun _ => none), fun i y v e1 e2 => ?_⟩, fun i y k v e1 e2 e3 => ?_, fun i y e => ?_, ?_, ?_, fun y c e => ?_, fun y c e => ?_, fresh_ge (by show _ ≤ n + 6; walk_at "om")⟩
    · cases i with
      | succ i => simp at hi
      | zero =>
        simp at hi ha
        subst hi; subst ha
        exact ⟨[], 0, hD, .nil⟩
    · simp at ha; subst ha; exact fresh_ge (by walk_at "om")
    · simp at ha; subst ha; exact Nat.lt_of_lt_of_le (Nat.lt_trans hc hcn) (by walk_at "om")
    · cases hnone _ (List.mem_of_getElem? e2)
    · cases hnone _ (List.mem_of_getElem? e3)
    · have := List.all_eq_true.mp hloc _ (List.mem_of_getElem? e)
      simp at this
    · exact .nil
    · simp [compEnvC]
    · cases e
    · cases e
  have hst : ZSt h₁ (n + 4) (n + 2) (n + 3) n (n + 1) l1 l2 .none 0 xs ys :=
    (ZSt.mk z1 z2 ⟨_, _, z3⟩ z4 z5 (Heap.IsList.at (isList_of g1) (fun o e => zk _ o e)) (Heap.IsList.at (isList_of g2) (fun o e => zk _ o e)) : ZSt hz1 (n + 4) (n + 2) (n + 3) n (n + 1) l1 l2 .none 0 xs ys).keep fun b o _ e => keep2 b o e
  have ap : ZipApart (n + 4) (n + 2) (n + 3) n (n + 1) l1 l2 := by constructor <;> show @Ne Nat _ _ <;> walk_at "om"
  have far : ∀ b ∈ [n + 4, n + 2, n + 3, n, n + 1, l1, l2], b ≠ n + 5 ∧ b ≠ n + 6 := by
    intro b hb
    simp at hb
    rcases hb with rfl | rfl | rfl | rfl | rfl | rfl | rfl <;> walk_at "om"
  let res : List Bool := List.zipWith (fun a b => a == b) as bs
  have rlen : res.length = as.length := by simp [res, hlen]
  have loop : ∀ s₃ : Shared, s₃ = { s₁ with heap := h₁, toks := s₁.toks + ([] : List (Str × Value)).length } →
      codeAny (model prog w) A (.compLoop (.ListComp elt [⟨.Tuple elts kk tp, .Call (.Name zn zp) [e1, e2] [] cpos, [], 0⟩] scope pos) 0 (.ref (n + 4)) (.ref (n + 5)) (compEnvC scope [] (n + 6) env))
        (compPost (model prog w) A E none (fun val s' => ∃ v H' ρ', VR ρ' s'.heap v val ∧ HS w.params B ρ' H' s' ∧ Ext ρ s ρ' s' ∧ Q v H') (.ref (n + 5)) (n + 6)) s₃ := by
    rintro s₃ rfl
    refine compLoop_tests (fun m s' => ∃ i, m = as.length - i ∧ i ≤ as.length ∧ SR w.params s₁.heap (compEnvC scope [] (n + 6) env) scope.names (List.replicate scope.names.length none) [n + 5] [.list ((res.take i).map .bool)] s' ∧ ZSt s'.heap (n + 4) (n + 2) (n + 3) n (n + 1) l1 l2 .none i xs ys ∧ s'.gens = s₁.gens ∧ s'.os = s₁.os) ?_ as.length
      ⟨0, by simp, by walk_at "om", srL, hst, rfl, rfl⟩
    rintro m s' ⟨i, rfl, hi, sr', st, hg, ho⟩
    obtain ⟨ta, tb, hto⟩ := st.to
    have hnone : ∀ v ∈ List.replicate scope.names.length (none : Option V), v = none := fun v hv => (List.mem_replicate.mp hv).2
    have W0 : ∀ b ∈ [n + 4, n + 3, n, n + 1], s₁.heap.get? b = none := by
      intro b hb
      refine fresh_ge ?_
      simp at hb
      walk_at "om"
    by_cases hlt : i < as.length
    · have hx : xs[i]? = some xs[i] := List.getElem?_eq_getElem (by walk_at "om")
      have hy : ys[i]? = some ys[i] := List.getElem?_eq_getElem (by walk_at "om")
      generalize xs[i] = x at hx
      generalize ys[i] = y at hy
      have ha : as[i]? = some as[i] := List.getElem?_eq_getElem hlt
      have hb : bs[i]? = some bs[i] := List.getElem?_eq_getElem (by walk_at "om")
      generalize as[i] = av at ha
      generalize bs[i] = bv at hb
      have vax : ∀ (ρ : List Addr) (h : Heap), VR ρ h (.int av) x := fun ρ h => by
        obtain ⟨x', e1, e2⟩ := (vrs_ints' (ρ' := ρ) (h' := h) vx).get (i := i) (v := .int av) (by rw [List.getElem?_map, ha]; rfl)
        rw [hx] at e1; cases e1; exact e2
      have vby : ∀ (ρ : List Addr) (h : Heap), VR ρ h (.int bv) y := fun ρ h => by
        obtain ⟨x', e1, e2⟩ := (vrs_ints' (ρ' := ρ) (h' := h) vy).get (i := i) (v := .int bv) (by rw [List.getElem?_map, hb]; rfl)
        rw [hy] at e1; cases e1; exact e2
      refine wpAny_pyNext_zip_item ap st.z st.ti hto st.h1 st.h2 st.l1 st.l2 (by simpa using hx) (by simpa using hy) fun ha1 a1 a2 a3 a4 a5 a6 ak => ?_
      have hTz : s'.heap.objs.size ≠ n + 4 := Nat.ne_of_gt (Heap.lt_size st.z)
      refine wpAny_letOwnedTupleGo_zip a1 fun hb1 b1 bsb => ?_
      have kb : ∀ b o, b ∉ [n + 4, n + 3, n, n + 1] → s'.heap.get? b = some o → hb1.get? b = some o := fun b o hnb e => by
        simp at hnb
        exact bsb.extBut b o hnb.1 (ak b o hnb.1 hnb.2.1 hnb.2.2.1 hnb.2.2.2 e)
      have hT : hb1.get? s'.heap.objs.size = some (tupObj [x, y]) := bsb.extBut _ _ hTz a5
      have srb := sr_but (s' := { s' with heap := hb1 }) rfl hC0 hloc hnone sr' kb (by show n + 6 ∉ [n + 4, n + 3, n, n + 1]; simp) (by simp) W0
      have stb : ZSt hb1 (n + 4) (n + 2) (n + 3) n (n + 1) l1 l2 .none (i + 1) xs ys :=
        ⟨b1, kb _ _ (by simp) st.ti, ⟨_, _, bsb.extBut _ _ ap.TOz a2⟩, a3.extBut bsb.extBut ap.i1z, a4.extBut bsb.extBut ap.i2z, st.l1.at fun o e => kb _ o (by simp; walk_at "om") e, st.l2.at fun o e => kb _ o (by simp; walk_at "om") e⟩
      obtain ⟨vals'', tg, hev⟩ := helt s₁.heap i av bv ((res.take i).map .bool) ha hb
      refine assign_tgtN r.hand tg srb (.tup hT (.cons (vax _ _) (.cons (vby _ _) .nil))) fun s₄ sr₄ m₄ => ?_
      have st₄ := stb.keep (h' := s₄.heap) fun b o hm e => m₄.keep b o (far b hm).2 e
      refine wpAny_tests_nil ?_
      rw [if_pos rfl]
      refine hev.go sr₄ r fun yv xv H₆ ρ₆ s₆ vyv sr₆ e₆ ⟨hy6, hH6⟩ => ?_
      subst hy6
      subst hH6
      have hρ6 : ρ₆ = [n + 5] := one_left e₆.pre' sr₆.hs
      subst hρ6
      have st₆ := st₄.keep (h' := s₆.heap) fun b o hm e => e₆.keep b o e (by simp; exact (far b hm).1)
      obtain ⟨fv, ef, _, hc⟩ := c_append (prog := prog) (w := w) (B := s₁.heap) (d := d) (n := 0) (H := [.list ((res.take i).map .bool)]) (v := .bool (av == bv)) (Q := fun _ H => H = [.list ((res.take i).map .bool ++ [.bool (av == bv)])]) rfl (by simp; walk_at "om") rfl
      cases ef
      refine wpAny_mono (hc [n + 5] s₆ [.ref (n + 5), xv] sr₆.hs (.cons (.ref rfl) (.cons vyv .nil)) A _ r) (fun _ s₇ ⟨_, H₇, ρ₇, _, b1, b2, b3⟩ => ?_) fun _ _ e => e
      subst b3
      have hρ7 : ρ₇ = [n + 5] := one_left b2.pre' b1
      subst hρ7
      have hres : (res.take (i + 1)).map V.bool = (res.take i).map .bool ++ [.bool (av == bv)] := by
        have : res[i]? = some (av == bv) := by simp only [res, List.getElem?_zipWith, ha, hb]
        rw [List.take_add_one, this, List.map_append]; rfl
      refine ⟨as.length - (i + 1), by walk_at "om", i + 1, rfl, by walk_at "om", ?_, st₆.keep (h' := s₇.heap) fun b o hm e => b2.keep b o e (by simp; exact (far b hm).1), ?_, ?_⟩
      · rw [hres]
        exact (sr₆.ext b2 b1).less tg.less
      · exact b2.gens.trans (e₆.gens.trans (m₄.gens.trans hg))
      · exact b2.os.trans (e₆.os.trans (m₄.os.trans ho))
    · have hie : i = as.length := by walk_at "om"
      subst hie
      refine wpAny_pyNext_zip_end r.hand ap st.z st.ti hto st.h1 st.h2 st.l1 st.l2 (.inl (by simp; walk_at "om")) fun hb1 hk => ?_
      have kb : ∀ b o, b ∉ [n + 4, n + 3, n, n + 1] → s'.heap.get? b = some o → hb1.get? b = some o := fun b o hnb e => by
        simp at hnb
        exact hk b o hnb.1 hnb.2.1 hnb.2.2.1 hnb.2.2.2 e
      have srb := sr_but (s' := { s' with heap := hb1 }) rfl hC0 hloc hnone sr' kb (by show n + 6 ∉ [n + 4, n + 3, n, n + 1]; simp) (by simp) W0
      obtain ⟨mm, hmm, _⟩ := srb.fr.ns
      rw [List.take_of_length_le (by walk_at "om")] at srb
      have hhs : HS w.params B (ρ₁ ++ [n + 5]) (H₁ ++ [.list (res.map .bool)]) { s' with heap := hb1 } := by
        obtain ⟨items, ep, o1, o2⟩ := srb.hs.hr.obj 0 _ (n + 5) rfl rfl
        exact sr₁.hs.more srb.hs.base (fresh_ge (by walk_at "om")) ⟨items, ep, o1, vrs_bools o2⟩ (by walk_at "om")
      have hex : Ext ρ s (ρ₁ ++ [n + 5]) { s' with heap := hb1 } := e01.trans (.more srb.hs.base (fresh_ge (by walk_at "om")) hg ho)
      refine ⟨mm, hmm, fun h' hb => ?_⟩
      have hCρ : n + 6 ∉ ρ₁ ++ [n + 5] := by
        intro hm
        rcases List.mem_append.mp hm with hm | hm
        · obtain ⟨o, ho, _⟩ := sr₁.hs.hr.own hm
          have := ltN ho
          walk_at "om"
        · simp at hm
      have hCB : B.get? (n + 6) = none := by
        cases e : B.get? (n + 6) with
        | none => rfl
        | some o => have := ltN (sr₁.hs.base _ _ e); walk_at "om"
      have hCs : s.heap.get? (n + 6) = none := fresh_back e01.pre' e01.keep e01.live (fresh_ge (by walk_at "om"))
      obtain ⟨y1, y2, _⟩ := drop_comp hhs hex hmm hCs hCρ hCB hb
      have hD5 : (ρ₁ ++ [n + 5])[H₁.length]? = some (n + 5) := by rw [← sr₁.hs.hr.len]; simp
      exact ⟨.ref H₁.length, _, _, .ref hD5, y1, y2, q⟩
  refine codeAny_compStart_list (loop _ rfl) ?_
  have stx : ZSt ({ s₁ with heap := h₁, toks := s₁.toks + ([] : List (Str × Value)).length } : Shared).heap (n + 4) (n + 2) (n + 3) n (n + 1) l1 l2 .none 0 xs ys := hst
  exact wpAny_pyIter_zip stx.z (loop _ rfl)
end
section
variable {prog : Program} {w : World} {B : Heap} {names : Names} {vals : Vals} {d : Nat} {H : List O}
/-- a for whose bounds are known when its head is evaluated -/
theorem ev1_ForD {target iter : PySem.Expr} {body : List Stmt} {pos : Pos} {Q : Fl → Vals → List O → Prop} (hf : ∀ env x, foldedSetIterable iter env x = pure x)
    (h : EvE prog w B names d iter vals H fun v H₁ => ∃ (k : ItK) (N : Nat) (Inv : Nat → Vals → List O → Prop), IterOf v k ∧ Inv 0 vals H₁ ∧
      (∀ i vals H, Inv i vals H → Live k H ∧ i ≤ N) ∧
      (∀ i vals H, Inv i vals H → itemAt k H i = none → Q .next vals H) ∧
      (∀ i vals H v, Inv i vals H → itemAt k H i = some v → ∃ vals', TgtPut names target v vals vals' ∧ EvS prog w B names d body vals' H fun f vals'' H'' => match f with
        | .next | .cont => Inv (i + 1) vals'' H''
        | .brk => Q .next vals'' H''
        | .ret u => Q (.ret u) vals'' H'')) : Ev1 prog w B names d (.For target iter body [] pos) vals H Q := by
  constructor
  intro env ρ s sr A E r
  refine wpAny_For (h.go sr r fun v x H₁ ρ₁ s₁ va sr₁ e₁ ⟨k, N, Inv, ik, hI, lv, done, turn⟩ => ?_) (hf env)
  refine iter_of (prog := prog) sr₁.hs va ik (lv _ _ _ hI).1 fun it s₂ hs₂ kp hg ho hit hnone => ?_
  have ex₂ : Ext ρ₁ s₁ ρ₁ s₂ := .keeps kp hg ho
  have sr₂ := sr₁.ext ex₂ hs₂
  have n1 : it ∉ ρ₁ := (sr₁.hs.fresh hnone).1
  have n2 : B.get? it = none := (sr₁.hs.fresh hnone).2
  have n0 : s.heap.get? it = none := fresh_back e₁.pre' e₁.keep e₁.live hnone
  have n3 : it ≠ env.locals := fun q => by obtain ⟨o, _, _, e, _⟩ := sr.fr.there; rw [← q, n0] at e; cases e
  have n4 : ∀ (y : Str) (c : Addr), env.cells.lookup y = some c → it ≠ c := fun y c hc q => by obtain ⟨o, e⟩ := sr.fr.cthere y c hc; rw [← q, n0] at e; cases e
  refine codeAny_forLoop_any (fun n s' => ∃ i vals' H' ρ', n = N - i ∧ Inv i vals' H' ∧ SR w.params B env names vals' ρ' H' s' ∧ ExtF env ρ s ρ' s' ∧ ItAt ρ' s'.heap it k i ∧ it ∉ ρ') ?_ N ⟨0, vals, H₁, ρ₁, by simp, hI, sr₂, (e₁.trans ex₂).toF, hit, n1⟩
  rintro n s' ⟨i, vals', H', ρ', rfl, hI', sr', e', hit', n1'⟩
  refine next_it (prog := prog) r.hand sr'.hs hit' n1' n2 (lv _ _ _ hI').1 (fun v hv x s₃ vx hs₃ hit₃ m => ?_) fun hn s₃ hs₃ m => ?_
  · obtain ⟨vals₃, tp, hb⟩ := turn i vals' H' v hI' hv
    have sr₃ := sr'.moved m n1' n2 n3 n4
    have e₃ := e'.moved m n0
    refine letgo_it tp.isTgt hit₃ (assign_tgt r.hand tp sr₃ vx fun s₄ sr₄ e₄ => ?_)
    have hit₄ := hit₃.keep (ρ' := ρ') ⟨[], by simp⟩ e₄.tup fun o ho => e₄.keep _ _ ho n1' n3 n4
    have e₄' := e₃.trans e₄
    refine wpAny_mono (WS.go' hb env ρ' s₄ sr₄ A _ r) (fun fl s₅ ⟨f, v2, H2, ρ2, a2, b2, c2, q2⟩ => ?_) fun _ _ e => e
    have ee := e₄'.trans c2
    have it5 : ItAt ρ2 s₅.heap it k (i + 1) ∧ it ∉ ρ2 := by
      obtain ⟨oi, hoi, _⟩ := hit₄.there
      exact ⟨hit₄.keep c2.pre' c2.tup fun o ho => c2.keep _ _ ho n1' n3 n4, c2.notin hoi n1'⟩
    cases a2 with
    | next => exact ⟨N - (i + 1), by have := (lv _ _ _ q2).2; walk_at "om", i + 1, v2, H2, ρ2, rfl, q2, b2, ee, it5.1, it5.2⟩
    | cont => exact ⟨N - (i + 1), by have := (lv _ _ _ q2).2; walk_at "om", i + 1, v2, H2, ρ2, rfl, q2, b2, ee, it5.1, it5.2⟩
    | brk => exact ⟨_, v2, H2, ρ2, .next, b2, ee, q2⟩
    | ret hv => exact ⟨_, v2, H2, ρ2, .ret hv, b2, ee, q2⟩
  · exact wpAny_execs_nil ⟨_, vals', H', ρ', .next, sr'.moved m n1' n2 n3 n4, e'.moved m n0, done _ _ _ hI' hn⟩
/-- a for over a range whose end is known then -/
theorem ev1_ForR {target iter : PySem.Expr} {body : List Stmt} {pos : Pos} {Q : Fl → Vals → List O → Prop} (hf : ∀ env x, foldedSetIterable iter env x = pure x)
    (h : EvE prog w B names d iter vals H fun v H₁ => ∃ (n : Nat) (Inv : Nat → Vals → List O → Prop), v = .rng (n : Int) ∧ n ≤ 1000000 ∧ Inv 0 vals H₁ ∧
      (∀ vals H, Inv n vals H → Q .next vals H) ∧
      (∀ i vals H, i < n → Inv i vals H → ∃ vals', TgtPut names target (.int (i : Int)) vals vals' ∧ EvS prog w B names d body vals' H fun f vals'' H'' => match f with
        | .next | .cont => Inv (i + 1) vals'' H''
        | .brk => Q .next vals'' H''
        | .ret u => Q (.ret u) vals'' H'')) : Ev1 prog w B names d (.For target iter body [] pos) vals H Q := by
  refine ev1_ForD hf (h.mono ?_)
  rintro v H₁ ⟨n, Inv, rfl, hn, h0, done, turn⟩
  refine ⟨.rng (n : Int), n, fun i vals H => i ≤ n ∧ Inv i vals H, .rng, ⟨Nat.zero_le _, h0⟩, fun i vals H hI => ⟨rng_live n H (by walk_at "om"), hI.1⟩, fun i vals H hI hnn => ?_, fun i vals H v hI hv => ?_⟩
  · rw [rng_items, List.getElem?_eq_none_iff] at hnn
    simp at hnn
    have e : i = n := by have := hI.1; walk_at "om"
    exact done vals H (e ▸ hI.2)
  · rw [rng_items] at hv
    obtain ⟨hi, rfl⟩ := rng_at hv
    obtain ⟨vals', tp, hb⟩ := turn i vals H hi hI.2
    refine ⟨vals', tp, WS.mono hb fun f v2 H2 q => ?_⟩
    cases f with
    | next => exact ⟨hi, q⟩
    | cont => exact ⟨hi, q⟩
    | brk => exact q
    | ret u => exact q
/-- a for over an own list that stays as it is -/
theorem ev1_ForL {target iter : PySem.Expr} {body : List Stmt} {pos : Pos} {Q : Fl → Vals → List O → Prop} (hf : ∀ env x, foldedSetIterable iter env x = pure x)
    (h : EvE prog w B names d iter vals H fun v H₁ => ∃ (n : Nat) (us : List V) (Inv : Nat → Vals → List O → Prop), v = .ref n ∧ Inv 0 vals H₁ ∧ (∀ i vals H, Inv i vals H → H[n]? = some (.list us)) ∧
      (∀ vals H, Inv us.length vals H → Q .next vals H) ∧
      (∀ i vals H u, us[i]? = some u → Inv i vals H → ∃ vals', TgtPut names target u vals vals' ∧ EvS prog w B names d body vals' H fun f vals'' H'' => match f with
        | .next | .cont => Inv (i + 1) vals'' H''
        | .brk => Q .next vals'' H''
        | .ret u => Q (.ret u) vals'' H'')) : Ev1 prog w B names d (.For target iter body [] pos) vals H Q := by
  refine ev1_ForD hf (h.mono ?_)
  rintro v H₁ ⟨n, us, Inv, rfl, h0, hl, done, turn⟩
  have item : ∀ i vals H, Inv i vals H → itemAt (.list n) H i = us[i]? := fun i vals H hI => by
    show (match H[n]? with | some (.list vs) => vs[i]? | _ => none) = _
    rw [hl i vals H hI]
  refine ⟨.list n, us.length, fun i vals H => i ≤ us.length ∧ Inv i vals H, .list, ⟨Nat.zero_le _, h0⟩, fun i vals H hI => ⟨⟨_, hl i vals H hI.2⟩, hI.1⟩, fun i vals H hI hnn => ?_, fun i vals H v hI hv => ?_⟩
  · rw [item i vals H hI.2, List.getElem?_eq_none_iff] at hnn
    have e : i = us.length := by have := hI.1; walk_at "om"
    exact done vals H (e ▸ hI.2)
  · rw [item i vals H hI.2] at hv
    have hi := (List.getElem?_eq_some_iff.mp hv).1
    obtain ⟨vals', tp, hb⟩ := turn i vals H v hv hI.2
    refine ⟨vals', tp, WS.mono hb fun f v2 H2 q => ?_⟩
    cases f with
    | next => exact ⟨hi, q⟩
    | cont => exact ⟨hi, q⟩
    | brk => exact q
    | ret u => exact q
end
noncomputable abbrev prg : Program := PySem.Challenge.pw_sj0105_02
noncomputable abbrev top : List Stmt := prg.main.body
noncomputable def nthS : List Stmt → Nat → Stmt
  | s :: _, 0 => s
  | _ :: r, n + 1 => nthS r n
  | [], _ => .Pass ⟨0, 0, 0, 0⟩
noncomputable def clsBody : Stmt → List Stmt
  | .ClassDef _ _ _ b .. => b
  | _ => []
noncomputable def fnBody : Stmt → List Stmt
  | .FunctionDef _ _ b .. => b
  | _ => []
noncomputable def whileBody : Stmt → List Stmt
  | .While _ b .. => b
  | .For _ _ b .. => b
  | .If _ b .. => b
  | _ => []
noncomputable def ifElse : Stmt → List Stmt
  | .If _ _ e .. => e
  | _ => []
noncomputable abbrev nm_Bank_init : Names := [(Str.ofString "self", .local), (Str.ofString "BOOL", .globalImplicit)]
noncomputable def bd_Bank_init : List Stmt := fnBody (nthS (clsBody (nthS top 27)) 0)
noncomputable abbrev ps_Bank_init : List Str := [Str.ofString "self"]
noncomputable abbrev nm_Bank_declare_fun : Names := [(Str.ofString "self", .local), (Str.ofString "name", .local), (Str.ofString "arg_sorts", .local), (Str.ofString "result", .local), (Str.ofString "tuple", .globalImplicit), (Str.ofString "len", .globalImplicit)]
noncomputable def bd_Bank_declare_fun : List Stmt := fnBody (nthS (clsBody (nthS top 27)) 6)
noncomputable abbrev ps_Bank_declare_fun : List Str := [Str.ofString "self", Str.ofString "name", Str.ofString "arg_sorts", Str.ofString "result"]
noncomputable abbrev nm_Bank_fresh_const : Names := [(Str.ofString "self", .local), (Str.ofString "name", .local), (Str.ofString "s", .local)]
noncomputable def bd_Bank_fresh_const : List Stmt := fnBody (nthS (clsBody (nthS top 27)) 8)
noncomputable abbrev ps_Bank_fresh_const : List Str := [Str.ofString "self", Str.ofString "name", Str.ofString "s"]
noncomputable abbrev nm_Bank_op : Names := [(Str.ofString "self", .local), (Str.ofString "t", .local)]
noncomputable def bd_Bank_op : List Stmt := fnBody (nthS (clsBody (nthS top 27)) 13)
noncomputable abbrev ps_Bank_op : List Str := [Str.ofString "self", Str.ofString "t"]
noncomputable abbrev nm_Bank_args : Names := [(Str.ofString "self", .local), (Str.ofString "t", .local)]
noncomputable def bd_Bank_args : List Stmt := fnBody (nthS (clsBody (nthS top 27)) 14)
noncomputable abbrev ps_Bank_args : List Str := [Str.ofString "self", Str.ofString "t"]
noncomputable abbrev nm_Bank_data : Names := [(Str.ofString "self", .local), (Str.ofString "t", .local)]
noncomputable def bd_Bank_data : List Stmt := fnBody (nthS (clsBody (nthS top 27)) 16)
noncomputable abbrev ps_Bank_data : List Str := [Str.ofString "self", Str.ofString "t"]
noncomputable abbrev nm_Bank_width : Names := [(Str.ofString "self", .local), (Str.ofString "t", .local)]
noncomputable def bd_Bank_width : List Stmt := fnBody (nthS (clsBody (nthS top 27)) 17)
noncomputable abbrev ps_Bank_width : List Str := [Str.ofString "self", Str.ofString "t"]
noncomputable abbrev nm_Bank_make : Names := [(Str.ofString "self", .local), (Str.ofString "op", .local), (Str.ofString "args", .local), (Str.ofString "sort", .local), (Str.ofString "data", .local), (Str.ofString "key", .local), (Str.ofString "found", .local), (Str.ofString "len", .globalImplicit)]
noncomputable def bd_Bank_make : List Stmt := fnBody (nthS (clsBody (nthS top 27)) 19)
noncomputable abbrev ps_Bank_make : List Str := [Str.ofString "self", Str.ofString "op", Str.ofString "args", Str.ofString "sort", Str.ofString "data"]
noncomputable abbrev nm_Bank_want : Names := [(Str.ofString "self", .local), (Str.ofString "t", .local), (Str.ofString "s", .local), (Str.ofString "where", .local), (Str.ofString "SortFault", .globalImplicit)]
noncomputable def bd_Bank_want : List Stmt := fnBody (nthS (clsBody (nthS top 27)) 22)
noncomputable abbrev ps_Bank_want : List Str := [Str.ofString "self", Str.ofString "t", Str.ofString "s", Str.ofString "where"]
noncomputable abbrev nm_Bank_false_term : Names := [(Str.ofString "self", .local)]
noncomputable def bd_Bank_false_term : List Stmt := fnBody (nthS (clsBody (nthS top 27)) 25)
noncomputable abbrev ps_Bank_false_term : List Str := [Str.ofString "self"]
noncomputable abbrev nm_Bank_true_term : Names := [(Str.ofString "self", .local)]
noncomputable def bd_Bank_true_term : List Stmt := fnBody (nthS (clsBody (nthS top 27)) 24)
noncomputable abbrev ps_Bank_true_term : List Str := [Str.ofString "self"]
noncomputable abbrev nm_TermBank_init : Names := [(Str.ofString "self", .local), (Str.ofString "__class__", .free), (Str.ofString "super", .globalImplicit)]
noncomputable def bd_TermBank_init : List Stmt := fnBody (nthS (clsBody (nthS top 31)) 0)
noncomputable abbrev ps_TermBank_init : List Str := [Str.ofString "self"]
noncomputable abbrev nm_TermBank_bv_sort : Names := [(Str.ofString "self", .local), (Str.ofString "width", .local), (Str.ofString "SortFault", .globalImplicit), (Str.ofString "WIDEST", .globalImplicit), (Str.ofString "LimitFault", .globalImplicit), (Str.ofString "len", .globalImplicit)]
noncomputable def bd_TermBank_bv_sort : List Stmt := fnBody (nthS (clsBody (nthS top 31)) 1)
noncomputable abbrev ps_TermBank_bv_sort : List Str := [Str.ofString "self", Str.ofString "width"]
noncomputable abbrev nm_TermBank_bv_num : Names := [(Str.ofString "self", .local), (Str.ofString "value", .local), (Str.ofString "width", .local), (Str.ofString "s", .local)]
noncomputable def bd_TermBank_bv_num : List Stmt := fnBody (nthS (clsBody (nthS top 31)) 4)
noncomputable abbrev ps_TermBank_bv_num : List Str := [Str.ofString "self", Str.ofString "value", Str.ofString "width"]
noncomputable abbrev nm_BoolBank_eq : Names := [(Str.ofString "self", .local), (Str.ofString "a", .local), (Str.ofString "b", .local), (Str.ofString "min", .globalImplicit), (Str.ofString "max", .globalImplicit), (Str.ofString "BOOL", .globalImplicit)]
noncomputable def bd_BoolBank_eq : List Stmt := fnBody (nthS (clsBody (nthS top 28)) 6)
noncomputable abbrev ps_BoolBank_eq : List Str := [Str.ofString "self", Str.ofString "a", Str.ofString "b"]
noncomputable abbrev nm_BoolRewriter_init : Names := [(Str.ofString "self", .local), (Str.ofString "bank", .local)]
noncomputable def bd_BoolRewriter_init : List Stmt := fnBody (nthS (clsBody (nthS top 34)) 0)
noncomputable abbrev ps_BoolRewriter_init : List Str := [Str.ofString "self", Str.ofString "bank"]
noncomputable abbrev nm_BitsRewriter_is_bits : Names := [(Str.ofString "self", .local), (Str.ofString "t", .local)]
noncomputable def bd_BitsRewriter_is_bits : List Stmt := fnBody (nthS (clsBody (nthS top 35)) 3)
noncomputable abbrev ps_BitsRewriter_is_bits : List Str := [Str.ofString "self", Str.ofString "t"]
noncomputable abbrev nm_BitsRewriter_number : Names := [(Str.ofString "self", .local), (Str.ofString "value", .local), (Str.ofString "like", .local)]
noncomputable def bd_BitsRewriter_number : List Stmt := fnBody (nthS (clsBody (nthS top 35)) 5)
noncomputable abbrev ps_BitsRewriter_number : List Str := [Str.ofString "self", Str.ofString "value", Str.ofString "like"]
noncomputable abbrev nm_BitsRewriter_equal_number : Names := [(Str.ofString "self", .local), (Str.ofString "value", .local), (Str.ofString "b", .local), (Str.ofString "deep", .local), (Str.ofString "kind", .local), (Str.ofString "args", .local), (Str.ofString "width", .local), (Str.ofString "back", .local), (Str.ofString "seam", .local), (Str.ofString "high", .local), (Str.ofString "low", .local), (Str.ofString "both", .local), (Str.ofString "part", .local), (Str.ofString "wanted", .local), (Str.ofString "known", .local), (Str.ofString "inner", .local), (Str.ofString "is_right", .local), (Str.ofString "DEEPEST", .globalImplicit), (Str.ofString "one_value", .globalImplicit), (Str.ofString "two_value", .globalImplicit), (Str.ofString "extract_value", .globalImplicit), (Str.ofString "sign_extended", .globalImplicit)]
noncomputable def bd_BitsRewriter_equal_number : List Stmt := fnBody (nthS (clsBody (nthS top 35)) 22)
noncomputable abbrev ps_BitsRewriter_equal_number : List Str := [Str.ofString "self", Str.ofString "value", Str.ofString "b", Str.ofString "deep"]
noncomputable abbrev nm_mask_of : Names := [(Str.ofString "width", .local)]
noncomputable def bd_mask_of : List Stmt := fnBody (nthS top 12)
noncomputable abbrev ps_mask_of : List Str := [Str.ofString "width"]
noncomputable abbrev nm_one_value : Names := [(Str.ofString "op", .local), (Str.ofString "x", .local), (Str.ofString "width", .local), (Str.ofString "mask_of", .globalImplicit), (Str.ofString "ModelFault", .globalImplicit)]
noncomputable def bd_one_value : List Stmt := fnBody (nthS top 14)
noncomputable abbrev ps_one_value : List Str := [Str.ofString "op", Str.ofString "x", Str.ofString "width"]
noncomputable abbrev nm_two_value : Names := [(Str.ofString "op", .local), (Str.ofString "x", .local), (Str.ofString "y", .local), (Str.ofString "width", .local), (Str.ofString "mask_of", .globalImplicit), (Str.ofString "shifted_value", .globalImplicit), (Str.ofString "divided_value", .globalImplicit), (Str.ofString "rest_value", .globalImplicit), (Str.ofString "ModelFault", .globalImplicit)]
noncomputable def bd_two_value : List Stmt := fnBody (nthS top 18)
noncomputable abbrev ps_two_value : List Str := [Str.ofString "op", Str.ofString "x", Str.ofString "y", Str.ofString "width"]
noncomputable abbrev nm_law_draw : Names := [(Str.ofString "feed", .local), (Str.ofString "many", .local), (Str.ofString "cells", .local), (Str.ofString "spot", .local), (Str.ofString "len", .globalImplicit)]
noncomputable def bd_law_draw : List Stmt := fnBody (nthS top 37)
noncomputable abbrev ps_law_draw : List Str := [Str.ofString "feed", Str.ofString "many"]
noncomputable abbrev nm_law_turns : Names := [(Str.ofString "feed", .local), (Str.ofString "full", .local), (Str.ofString "kinds", .local), (Str.ofString "lap", .local), (Str.ofString "found", .local), (Str.ofString "kind", .local), (Str.ofString "_law_draw", .globalImplicit), (Str.ofString "range", .globalImplicit)]
noncomputable def bd_law_turns : List Stmt := fnBody (nthS top 38)
noncomputable abbrev ps_law_turns : List Str := [Str.ofString "feed", Str.ofString "full"]
noncomputable abbrev nm_law_turn : Names := [(Str.ofString "op", .local), (Str.ofString "number", .local), (Str.ofString "here", .local), (Str.ofString "full", .local)]
noncomputable def bd_law_turn : List Stmt := fnBody (nthS top 39)
noncomputable abbrev ps_law_turn : List Str := [Str.ofString "op", Str.ofString "number", Str.ofString "here", Str.ofString "full"]
noncomputable abbrev nm_law_values : Names := [(Str.ofString "turns", .local), (Str.ofString "many", .local), (Str.ofString "full", .cell), (Str.ofString "lap", .cell), (Str.ofString "found", .local), (Str.ofString "laps", .local), (Str.ofString "op", .cell), (Str.ofString "number", .cell), (Str.ofString "list", .globalImplicit), (Str.ofString "range", .globalImplicit), (Str.ofString "len", .globalImplicit)]
noncomputable def bd_law_values : List Stmt := fnBody (nthS top 40)
noncomputable abbrev ps_law_values : List Str := [Str.ofString "turns", Str.ofString "many", Str.ofString "full"]
noncomputable abbrev nm_law_joined : Names := [(Str.ofString "op", .cell), (Str.ofString "data", .local), (Str.ofString "some", .cell), (Str.ofString "full", .local), (Str.ofString "zip", .globalImplicit), (Str.ofString "range", .globalImplicit)]
noncomputable def bd_law_joined : List Stmt := fnBody (nthS top 41)
noncomputable abbrev ps_law_joined : List Str := [Str.ofString "op", Str.ofString "data", Str.ofString "some", Str.ofString "full"]
noncomputable abbrev nm_law_truths : Names := [(Str.ofString "bank", .local), (Str.ofString "turns", .local), (Str.ofString "tower", .local), (Str.ofString "full", .local), (Str.ofString "t", .local), (Str.ofString "waiting", .local), (Str.ofString "met", .local), (Str.ofString "found", .cell), (Str.ofString "part", .local), (Str.ofString "_law_values", .globalImplicit), (Str.ofString "_law_joined", .globalImplicit)]
noncomputable def bd_law_truths : List Stmt := fnBody (nthS top 42)
noncomputable abbrev ps_law_truths : List Str := [Str.ofString "bank", Str.ofString "turns", Str.ofString "tower", Str.ofString "full", Str.ofString "t"]
noncomputable abbrev nm_law : Names := [(Str.ofString "script", .local), (Str.ofString "feed", .local), (Str.ofString "bank", .cell), (Str.ofString "width", .cell), (Str.ofString "full", .local), (Str.ofString "s", .local), (Str.ofString "turns", .local), (Str.ofString "op", .local), (Str.ofString "rows", .local), (Str.ofString "t", .local), (Str.ofString "at", .local), (Str.ofString "tower", .local), (Str.ofString "storey", .local), (Str.ofString "lap", .local), (Str.ofString "ahead", .local), (Str.ofString "maker", .local), (Str.ofString "top", .local), (Str.ofString "value", .cell), (Str.ofString "told", .local), (Str.ofString "due", .local), (Str.ofString "list", .globalImplicit), (Str.ofString "TermBank", .globalImplicit), (Str.ofString "_law_draw", .globalImplicit), (Str.ofString "_law_turns", .globalImplicit), (Str.ofString "range", .globalImplicit), (Str.ofString "len", .globalImplicit), (Str.ofString "BitsRewriter", .globalImplicit), (Str.ofString "_law_values", .globalImplicit), (Str.ofString "_law_truths", .globalImplicit)]
noncomputable def bd_law : List Stmt := fnBody (nthS top 43)
noncomputable abbrev ps_law : List Str := [Str.ofString "script"]
set_option genInjectivity false
set_option genSizeOf false
structure Cx (B : Heap) where
  K : Frag
  X : K.In B
  top : ∃ (p : Program) (loose : List Str) (mg mb : Str → Option Value), TopRead p loose mg mb B
  cTB : Addr
  cBR : Addr
  f_Bank_init : Addr
  f_Bank_declare_fun : Addr
  f_Bank_fresh_const : Addr
  f_Bank_op : Addr
  f_Bank_args : Addr
  f_Bank_data : Addr
  f_Bank_width : Addr
  f_Bank_make : Addr
  f_Bank_want : Addr
  f_Bank_false_term : Addr
  f_Bank_true_term : Addr
  f_TermBank_init : Addr
  f_TermBank_bv_sort : Addr
  f_TermBank_bv_num : Addr
  f_BoolBank_eq : Addr
  f_BoolRewriter_init : Addr
  f_BitsRewriter_is_bits : Addr
  f_BitsRewriter_number : Addr
  f_BitsRewriter_equal_number : Addr
  f_mask_of : Addr
  f_one_value : Addr
  f_two_value : Addr
  f_law_draw : Addr
  f_law_turns : Addr
  f_law_turn : Addr
  f_law_values : Addr
  f_law_joined : Addr
  f_law_truths : Addr
  f_law : Addr
  F_Bank_init : FnIs B f_Bank_init ps_Bank_init [] nm_Bank_init bd_Bank_init
  F_Bank_declare_fun : FnIs B f_Bank_declare_fun ps_Bank_declare_fun [] nm_Bank_declare_fun bd_Bank_declare_fun
  F_Bank_fresh_const : FnIs B f_Bank_fresh_const ps_Bank_fresh_const [] nm_Bank_fresh_const bd_Bank_fresh_const
  F_Bank_op : FnIs B f_Bank_op ps_Bank_op [] nm_Bank_op bd_Bank_op
  F_Bank_args : FnIs B f_Bank_args ps_Bank_args [] nm_Bank_args bd_Bank_args
  F_Bank_data : FnIs B f_Bank_data ps_Bank_data [] nm_Bank_data bd_Bank_data
  F_Bank_width : FnIs B f_Bank_width ps_Bank_width [] nm_Bank_width bd_Bank_width
  F_Bank_make : FnIs B f_Bank_make ps_Bank_make [] nm_Bank_make bd_Bank_make
  F_Bank_want : FnIs B f_Bank_want ps_Bank_want [] nm_Bank_want bd_Bank_want
  F_Bank_false_term : FnIs B f_Bank_false_term ps_Bank_false_term [] nm_Bank_false_term bd_Bank_false_term
  F_Bank_true_term : FnIs B f_Bank_true_term ps_Bank_true_term [] nm_Bank_true_term bd_Bank_true_term
  F_TermBank_bv_sort : FnIs B f_TermBank_bv_sort ps_TermBank_bv_sort [] nm_TermBank_bv_sort bd_TermBank_bv_sort
  F_TermBank_bv_num : FnIs B f_TermBank_bv_num ps_TermBank_bv_num [] nm_TermBank_bv_num bd_TermBank_bv_num
  F_BoolBank_eq : FnIs B f_BoolBank_eq ps_BoolBank_eq [] nm_BoolBank_eq bd_BoolBank_eq
  F_BoolRewriter_init : FnIs B f_BoolRewriter_init ps_BoolRewriter_init [] nm_BoolRewriter_init bd_BoolRewriter_init
  F_BitsRewriter_is_bits : FnIs B f_BitsRewriter_is_bits ps_BitsRewriter_is_bits [] nm_BitsRewriter_is_bits bd_BitsRewriter_is_bits
  F_BitsRewriter_number : FnIs B f_BitsRewriter_number ps_BitsRewriter_number [] nm_BitsRewriter_number bd_BitsRewriter_number
  F_BitsRewriter_equal_number : FnIs B f_BitsRewriter_equal_number ps_BitsRewriter_equal_number [.int 0] nm_BitsRewriter_equal_number bd_BitsRewriter_equal_number
  F0_BitsRewriter_equal_number : FnIs B f_BitsRewriter_equal_number ps_BitsRewriter_equal_number [] nm_BitsRewriter_equal_number bd_BitsRewriter_equal_number
  F_mask_of : FnIs B f_mask_of ps_mask_of [] nm_mask_of bd_mask_of
  F_one_value : FnIs B f_one_value ps_one_value [] nm_one_value bd_one_value
  F_two_value : FnIs B f_two_value ps_two_value [] nm_two_value bd_two_value
  F_law_draw : FnIs B f_law_draw ps_law_draw [] nm_law_draw bd_law_draw
  F_law_turns : FnIs B f_law_turns ps_law_turns [] nm_law_turns bd_law_turns
  F_law_turn : FnIs B f_law_turn ps_law_turn [] nm_law_turn bd_law_turn
  F_law_values : FnIs B f_law_values ps_law_values [] nm_law_values bd_law_values
  F_law_joined : FnIs B f_law_joined ps_law_joined [] nm_law_joined bd_law_joined
  F_law_truths : FnIs B f_law_truths ps_law_truths [] nm_law_truths bd_law_truths
  cls_cTB : ClsIs K cTB
  sto_cTB : StoreIs K cTB
  cls_cBR : ClsIs K cBR
  sto_cBR : StoreIs K cBR
  sup : SuperIs prg K cTB f_TermBank_init f_Bank_init bd_TermBank_init.tail
  mak_cTB : MakeIs K cTB f_TermBank_init
  mak_cBR : MakeIs K cBR f_BoolRewriter_init
  M_Bank_declare_fun : MethIs K cTB (Str.ofString "declare_fun") f_Bank_declare_fun
  M_Bank_fresh_const : MethIs K cTB (Str.ofString "fresh_const") f_Bank_fresh_const
  M_Bank_op : MethIs K cTB (Str.ofString "op") f_Bank_op
  M_Bank_args : MethIs K cTB (Str.ofString "args") f_Bank_args
  M_Bank_data : MethIs K cTB (Str.ofString "data") f_Bank_data
  M_Bank_width : MethIs K cTB (Str.ofString "width") f_Bank_width
  M_Bank_make : MethIs K cTB (Str.ofString "make") f_Bank_make
  M_Bank_want : MethIs K cTB (Str.ofString "want") f_Bank_want
  M_Bank_false_term : MethIs K cTB (Str.ofString "false_term") f_Bank_false_term
  M_Bank_true_term : MethIs K cTB (Str.ofString "true_term") f_Bank_true_term
  M_TermBank_bv_sort : MethIs K cTB (Str.ofString "bv_sort") f_TermBank_bv_sort
  M_TermBank_bv_num : MethIs K cTB (Str.ofString "bv_num") f_TermBank_bv_num
  M_BoolBank_eq : MethIs K cTB (Str.ofString "eq") f_BoolBank_eq
  M_BitsRewriter_is_bits : MethIs K cBR (Str.ofString "is_bits") f_BitsRewriter_is_bits
  M_BitsRewriter_number : MethIs K cBR (Str.ofString "number") f_BitsRewriter_number
  M_BitsRewriter_equal_number : MethIs K cBR (Str.ofString "equal_number") f_BitsRewriter_equal_number
  A_sort_names : AttrIs K cTB (Str.ofString "sort_names")
  T_sort_names : TakeIs K cTB (Str.ofString "sort_names")
  A_sort_widths : AttrIs K cTB (Str.ofString "sort_widths")
  T_sort_widths : TakeIs K cTB (Str.ofString "sort_widths")
  A_fun_names : AttrIs K cTB (Str.ofString "fun_names")
  T_fun_names : TakeIs K cTB (Str.ofString "fun_names")
  A_fun_args : AttrIs K cTB (Str.ofString "fun_args")
  T_fun_args : TakeIs K cTB (Str.ofString "fun_args")
  A_fun_results : AttrIs K cTB (Str.ofString "fun_results")
  T_fun_results : TakeIs K cTB (Str.ofString "fun_results")
  A_fresh_count : AttrIs K cTB (Str.ofString "fresh_count")
  T_fresh_count : TakeIs K cTB (Str.ofString "fresh_count")
  A_term_ops : AttrIs K cTB (Str.ofString "term_ops")
  T_term_ops : TakeIs K cTB (Str.ofString "term_ops")
  A_term_args : AttrIs K cTB (Str.ofString "term_args")
  T_term_args : TakeIs K cTB (Str.ofString "term_args")
  A_term_sorts : AttrIs K cTB (Str.ofString "term_sorts")
  T_term_sorts : TakeIs K cTB (Str.ofString "term_sorts")
  A_term_datas : AttrIs K cTB (Str.ofString "term_datas")
  T_term_datas : TakeIs K cTB (Str.ofString "term_datas")
  A_numbers : AttrIs K cTB (Str.ofString "numbers")
  T_numbers : TakeIs K cTB (Str.ofString "numbers")
  A_true_number : AttrIs K cTB (Str.ofString "true_number")
  T_true_number : TakeIs K cTB (Str.ofString "true_number")
  A_false_number : AttrIs K cTB (Str.ofString "false_number")
  T_false_number : TakeIs K cTB (Str.ofString "false_number")
  A_bv_numbers : AttrIs K cTB (Str.ofString "bv_numbers")
  T_bv_numbers : TakeIs K cTB (Str.ofString "bv_numbers")
  A_bank : AttrIs K cBR (Str.ofString "bank")
  T_bank : TakeIs K cBR (Str.ofString "bank")
  A_yes : AttrIs K cBR (Str.ofString "yes")
  T_yes : TakeIs K cBR (Str.ofString "yes")
  A_no : AttrIs K cBR (Str.ofString "no")
  T_no : TakeIs K cBR (Str.ofString "no")
  A_known : AttrIs K cBR (Str.ofString "known")
  T_known : TakeIs K cBR (Str.ofString "known")
  G_TermBank : GlobIs B (Str.ofString "TermBank") (.ref cTB)
  G_BitsRewriter : GlobIs B (Str.ofString "BitsRewriter") (.ref cBR)
  G_BOOL : ∃ t, GlobIs B (Str.ofString "BOOL") (.int 0 t)
  G_WIDEST : ∃ t, GlobIs B (Str.ofString "WIDEST") (.int 4096 t)
  G_DEEPEST : ∃ t, GlobIs B (Str.ofString "DEEPEST") (.int 50 t)
  G_mask_of : GlobIs B (Str.ofString "mask_of") (.ref f_mask_of)
  G_one_value : GlobIs B (Str.ofString "one_value") (.ref f_one_value)
  G_two_value : GlobIs B (Str.ofString "two_value") (.ref f_two_value)
  G_law_draw : GlobIs B (Str.ofString "_law_draw") (.ref f_law_draw)
  G_law_turns : GlobIs B (Str.ofString "_law_turns") (.ref f_law_turns)
  G_law_turn : GlobIs B (Str.ofString "_law_turn") (.ref f_law_turn)
  G_law_values : GlobIs B (Str.ofString "_law_values") (.ref f_law_values)
  G_law_joined : GlobIs B (Str.ofString "_law_joined") (.ref f_law_joined)
  G_law_truths : GlobIs B (Str.ofString "_law_truths") (.ref f_law_truths)
  U_len : BuiltIs B (Str.ofString "len") (.builtin "len")
  U_range : BuiltIs B (Str.ofString "range") (.type "range")
  U_tuple : BuiltIs B (Str.ofString "tuple") (.type "tuple")
  U_list : BuiltIs B (Str.ofString "list") (.type "list")
  U_min : BuiltIs B (Str.ofString "min") (.builtin "min")
  U_max : BuiltIs B (Str.ofString "max") (.builtin "max")
  U_zip : BuiltIs B (Str.ofString "zip") (.type "zip")
  U_super : BuiltIs B (Str.ofString "super") (.type "super")
set_option genInjectivity true
set_option genSizeOf true
local macro_rules | `(tactic| walk_at "look") => `(tactic| first | exact Look.here | (apply Look.there; walk_at "look"))
local macro_rules | `(tactic| walk_at "put") => `(tactic| first | exact Put.here | (apply Put.there; walk_at "put"))
local macro_rules | `(tactic| walk_at "has") => `(tactic| first | exact Has.here | (apply Has.there; walk_at "has"))
local macro_rules | `(tactic| walk_at "flook") => `(tactic| first | exact FLook.here | (apply FLook.there; walk_at "flook"))
local macro_rules | `(tactic| walk_at "vals") => `(tactic| dsimp only [vals0, List.map_cons, List.map_nil, List.cons_append, List.nil_append, List.append_nil, List.length_cons, List.length_nil, List.replicate, Nat.reduceAdd, Nat.reduceSub, List.map])
/-- a local name is read -/
local macro_rules | `(tactic| walk_at "loc") => `(tactic| (refine ev_local (by with_reducible walk_at "look") (by first | exact .inl rfl | exact .inr (.inl rfl) | exact .inr (.inr rfl)) ?_))
/-- a name is bound -/
local macro_rules | `(tactic| walk_at "asg") => `(tactic| (refine ⟨_, _, by with_reducible walk_at "put", by first | exact .inl rfl | exact .inr rfl, ?_⟩))
/-- what stands in the heap -/
local macro_rules | `(tactic| walk_at "hk") => `(tactic| first | assumption | (apply set_ne <;> first | decide | walk_at "hk") | (apply set_eq; walk_at "hk"))
/-- the object of an attribute, a local name -/
local macro_rules | `(tactic| walk_at "obj") => `(tactic| (walk_at "loc"; refine ⟨rfl, rfl, ?_⟩))
/-- the names of a comprehension -/
local macro_rules | `(tactic| walk_at "rel") => `(tactic| first | exact Relab.nil | (apply Relab.same (by first | exact .inl rfl | exact .inr rfl); walk_at "rel") | (apply Relab.cell (by walk_at "has"); walk_at "rel"))
local macro_rules | `(tactic| walk_at "cv") => `(tactic| first | exact CompV.nil | (apply CompV.take (by walk_at "look"); walk_at "cv") | (apply CompV.skip; walk_at "cv"))
local macro_rules | `(tactic| walk_at "putn") => `(tactic| first | exact PutN.here | (apply PutN.there; walk_at "putn"))

/-- a term of the bank -/
structure T where
  op : Str
  args : List Int
  sort : Int
  data : KI
  deriving DecidableEq
noncomputable def T.key (x : T) : List KI := [.s x.op, .t x.args, .i x.sort, x.data]
noncomputable def numsFrom : Nat → List T → List (List KI × V)
  | _, [] => []
  | n, x :: r => (x.key, .int n) :: numsFrom (n + 1) r
structure Bk where
  names : List V
  widths : List Int
  f1 : List V
  f2 : List V
  f3 : List V
  terms : List T
  bv : List (Int × V)
structure BankAt (C : Addr) (fs : List (Str × V)) (β : Bk) (H : List O) : Prop where
  h3 : H[3]? = some (.ns fs)
  h4 : H[4]? = some (.inst C 3)
  h5 : H[5]? = some (.list β.names)
  h6 : H[6]? = some (.list (β.widths.map .int))
  h7 : H[7]? = some (.list β.f1)
  h8 : H[8]? = some (.list β.f2)
  h9 : H[9]? = some (.list β.f3)
  h10 : H[10]? = some (.list (β.terms.map fun x => .str x.op))
  h11 : H[11]? = some (.list (β.terms.map fun x => .tup (x.args.map .int)))
  h12 : H[12]? = some (.list (β.terms.map fun x => .int x.sort))
  h13 : H[13]? = some (.list (β.terms.map fun x => x.data.v))
  h14 : H[14]? = some (.kdict (numsFrom 1 β.terms.tail))
  h15 : H[15]? = some (.idict β.bv)
/-- the same, ahead of the last dict -/
structure BankPre (C : Addr) (fs : List (Str × V)) (β : Bk) (H : List O) : Prop where
  h3 : H[3]? = some (.ns fs)
  h4 : H[4]? = some (.inst C 3)
  h5 : H[5]? = some (.list β.names)
  h6 : H[6]? = some (.list (β.widths.map .int))
  h7 : H[7]? = some (.list β.f1)
  h8 : H[8]? = some (.list β.f2)
  h9 : H[9]? = some (.list β.f3)
  h10 : H[10]? = some (.list (β.terms.map fun x => .str x.op))
  h11 : H[11]? = some (.list (β.terms.map fun x => .tup (x.args.map .int)))
  h12 : H[12]? = some (.list (β.terms.map fun x => .int x.sort))
  h13 : H[13]? = some (.list (β.terms.map fun x => x.data.v))
  h14 : H[14]? = some (.kdict (numsFrom 1 β.terms.tail))
theorem BankAt.pre {C : Addr} {fs : List (Str × V)} {β : Bk} {H : List O} (b : BankAt C fs β H) : BankPre C fs β H := ⟨b.h3, b.h4, b.h5, b.h6, b.h7, b.h8, b.h9, b.h10, b.h11, b.h12, b.h13, b.h14⟩
theorem BankPre.full {C : Addr} {fs : List (Str × V)} {β : Bk} {H : List O} (b : BankPre C fs β H) (h : H[15]? = some (.idict β.bv)) : BankAt C fs β H := ⟨b.h3, b.h4, b.h5, b.h6, b.h7, b.h8, b.h9, b.h10, b.h11, b.h12, b.h13, b.h14, h⟩
structure KeepM (H H' : List O) : Prop where
  len : H'.length = H.length
  at_ : ∀ i, (i < 10 ∨ 14 < i) → ∀ o, H[i]? = some o → H'[i]? = some o
theorem KeepM.refl (H : List O) : KeepM H H := ⟨rfl, fun _ _ _ e => e⟩
theorem KeepM.trans {H H' H'' : List O} (x : KeepM H H') (y : KeepM H' H'') : KeepM H H'' := ⟨y.len.trans x.len, fun i h o e => y.at_ i h o (x.at_ i h o e)⟩
theorem KeepM.set {H : List O} {i : Nat} {x : O} (h : 10 ≤ i ∧ i ≤ 14) : KeepM H (H.set i x) := ⟨by simp, fun j hj o e => set_ne e (by walk_at "om")⟩
structure Keep (H H' : List O) : Prop where
  len : H.length ≤ H'.length
  at_ : ∀ i, (i < 5 ∨ 15 < i) → ∀ o, H[i]? = some o → H'[i]? = some o
theorem Keep.refl (H : List O) : Keep H H := ⟨Nat.le_refl _, fun _ _ _ e => e⟩
theorem Keep.trans {H H' H'' : List O} (x : Keep H H') (y : Keep H' H'') : Keep H H'' := ⟨Nat.le_trans x.len y.len, fun i h o e => y.at_ i h o (x.at_ i h o e)⟩
theorem Keep.set {H : List O} {i : Nat} {x : O} (h : 5 ≤ i ∧ i ≤ 15) : Keep H (H.set i x) := ⟨by simp, fun j hj o e => set_ne e (by walk_at "om")⟩
theorem keys_ne (x y : T) (h : x.key = y.key) : x = y := by
  cases x; cases y
  simp only [T.key, List.cons.injEq, KI.s.injEq, KI.t.injEq, KI.i.injEq, and_true] at h
  obtain ⟨rfl, rfl, rfl, rfl⟩ := h
  rfl
theorem dget_cons {K : Type} [DecidableEq K] (k k' : K) (v : V) (r : List (K × V)) : dget ((k', v) :: r) k = if k' = k then some v else dget r k := by
  unfold dget
  by_cases h : k' = k <;> simp [h]
theorem nums_get (x : T) : ∀ (l : List T) (n : Nat), (∃ i, l[i]? = some x ∧ dget (numsFrom n l) x.key = some (.int ((n + i : Nat) : Int))) ∨ (x ∉ l ∧ dget (numsFrom n l) x.key = none)
  | [], n => .inr ⟨by simp, rfl⟩
  | y :: l, n => by
    rw [numsFrom, dget_cons]
    by_cases h : y = x
    · subst h
      exact .inl ⟨0, rfl, by simp⟩
    · have hk : y.key ≠ x.key := fun e => h (keys_ne _ _ e)
      rw [if_neg hk]
      rcases nums_get x l (n + 1) with ⟨i, e1, e2⟩ | ⟨e1, e2⟩
      · exact .inl ⟨i + 1, by simpa using e1, by rw [e2]; congr 2; walk_at "om"⟩
      · exact .inr ⟨by simp [e1, Ne.symm h], e2⟩
theorem nums_snoc (x : T) : ∀ (l : List T) (n : Nat), numsFrom n (l ++ [x]) = numsFrom n l ++ [(x.key, .int ((n + l.length : Nat) : Int))]
  | [], n => by simp [numsFrom]
  | y :: l, n => by
    rw [List.cons_append, numsFrom, numsFrom, nums_snoc x l (n + 1)]
    simp; walk_at "om"
theorem nums_len : ∀ (l : List T) (n : Nat), (numsFrom n l).length = l.length
  | [], _ => rfl
  | _ :: l, n => by rw [numsFrom, List.length_cons, List.length_cons, nums_len l]
noncomputable def Bk.add (β : Bk) (x : T) : Bk := { β with terms := β.terms ++ [x] }
/-- what make gives back -/
inductive Mk (β : Bk) (x : T) : Nat → Bk → Prop
  | old {t : Nat} : 1 ≤ t → β.terms[t]? = some x → Mk β x t β
  | new : x ∉ β.terms.tail → Mk β x β.terms.length (β.add x)
structure BkOk (β : Bk) : Prop where
  pos : 1 ≤ β.terms.length
  nod : β.terms.tail.Nodup
  wl : β.widths.length = β.names.length
  bv : ∀ wd v, dget β.bv wd = some v → ∃ s : Nat, v = .int s ∧ β.widths[s]? = some wd
  bl : β.bv.length ≤ β.widths.length
theorem Mk.at {β β' : Bk} {x : T} {t : Nat} (m : Mk β x t β') : β'.terms[t]? = some x := by
  cases m with
  | old _ h => exact h
  | new _ => show (β.terms ++ [x])[β.terms.length]? = _; rw [List.getElem?_append_right (Nat.le_refl _), Nat.sub_self]; rfl
theorem tail_snoc {α : Type} {l : List α} (h : 1 ≤ l.length) (x : α) : (l ++ [x]).tail = l.tail ++ [x] := by
  cases l with
  | nil => simp at h
  | cons a r => rfl
/-- the bank grows by so many terms and sorts -/
structure Grow (β β' : Bk) (a b : Nat) : Prop where
  terms : ∃ l, β'.terms = β.terms ++ l ∧ l.length ≤ a
  widths : ∃ l, β'.widths = β.widths ++ l ∧ l.length ≤ b
  fns : β'.f1.length ≤ β.f1.length + b ∧ β'.f2.length ≤ β.f2.length + b ∧ β'.f3.length ≤ β.f3.length + b
  ok : BkOk β → BkOk β'
theorem Grow.refl (β : Bk) : Grow β β 0 0 := ⟨⟨[], by simp⟩, ⟨[], by simp⟩, by walk_at "om", id⟩
theorem Grow.trans {β β' β'' : Bk} {a b a' b' : Nat} (x : Grow β β' a b) (y : Grow β' β'' a' b') : Grow β β'' (a + a') (b + b') := by
  obtain ⟨l, e, hl⟩ := x.terms
  obtain ⟨l', e', hl'⟩ := y.terms
  obtain ⟨m, f, hm⟩ := x.widths
  obtain ⟨m', f', hm'⟩ := y.widths
  have := x.fns
  have := y.fns
  exact ⟨⟨l ++ l', by rw [e', e, List.append_assoc], by simp; walk_at "om"⟩, ⟨m ++ m', by rw [f', f, List.append_assoc], by simp; walk_at "om"⟩, by walk_at "om", fun o => y.ok (x.ok o)⟩
theorem Grow.mono {β β' : Bk} {a b a' b' : Nat} (x : Grow β β' a b) (h : a ≤ a') (h' : b ≤ b') : Grow β β' a' b' := by
  obtain ⟨l, e, hl⟩ := x.terms
  obtain ⟨m, f, hm⟩ := x.widths
  have := x.fns
  exact ⟨⟨l, e, by walk_at "om"⟩, ⟨m, f, by walk_at "om"⟩, by walk_at "om", x.ok⟩
theorem Grow.at {β β' : Bk} {a b t : Nat} {x : T} (g : Grow β β' a b) (h : β.terms[t]? = some x) : β'.terms[t]? = some x := by
  obtain ⟨l, e, _⟩ := g.terms
  rw [e, List.getElem?_append_left (List.getElem?_eq_some_iff.mp h).1]; exact h
theorem Grow.wd {β β' : Bk} {a b s : Nat} {x : Int} (g : Grow β β' a b) (h : β.widths[s]? = some x) : β'.widths[s]? = some x := by
  obtain ⟨l, e, _⟩ := g.widths
  rw [e, List.getElem?_append_left (List.getElem?_eq_some_iff.mp h).1]; exact h
theorem Grow.tl {β β' : Bk} {a b : Nat} (g : Grow β β' a b) : β'.terms.length ≤ β.terms.length + a ∧ β.terms.length ≤ β'.terms.length := by
  obtain ⟨l, e, h⟩ := g.terms
  rw [e, List.length_append]; walk_at "om"
theorem Grow.wl {β β' : Bk} {a b : Nat} (g : Grow β β' a b) : β'.widths.length ≤ β.widths.length + b ∧ β.widths.length ≤ β'.widths.length := by
  obtain ⟨l, e, h⟩ := g.widths
  rw [e, List.length_append]; walk_at "om"
theorem Mk.grow {β β' : Bk} {x : T} {t : Nat} (m : Mk β x t β') : Grow β β' 1 0 := by
  cases m with
  | old _ h => exact (Grow.refl β).mono (by walk_at "om") (by walk_at "om")
  | new h =>
    refine ⟨⟨[x], rfl, by simp⟩, ⟨[], by simp [Bk.add]⟩, by simp [Bk.add], fun o => ⟨?_, ?_, o.wl, o.bv, o.bl⟩⟩
    · show 1 ≤ (β.terms ++ [x]).length; simp
    · show (β.terms ++ [x]).tail.Nodup
      rw [tail_snoc o.pos, List.nodup_append]
      exact ⟨o.nod, by simp, fun a ha b hb => by simp at hb; subst hb; exact fun e => h (e ▸ ha)⟩
theorem Mk.pos {β β' : Bk} {x : T} {t : Nat} (m : Mk β x t β') (o : BkOk β) : 1 ≤ t := by
  cases m with
  | old h _ => exact h
  | new _ => exact o.pos
section
variable {w : World} {B : Heap} {d : Nat} {H : List O} {Q : V → List O → Prop} {fs : List (Str × V)} {β : Bk}

/-- the bank's fields that make reads -/
structure MkNs (fs : List (Str × V)) : Prop where
  numbers : FLook fs (Str.ofString "numbers") (.ref 14)
  ops : FLook fs (Str.ofString "term_ops") (.ref 10)
  args : FLook fs (Str.ofString "term_args") (.ref 11)
  sorts : FLook fs (Str.ofString "term_sorts") (.ref 12)
  datas : FLook fs (Str.ofString "term_datas") (.ref 13)

theorem make_pre (c : Cx B) (b : BankPre c.cTB fs β H) (ns : MkNs fs) (ok : BkOk β) (hl : β.terms.length ≤ 400000) (x : T) (hx : keyOk x.key = true)
    (q : ∀ t β' H', Mk β x t β' → BankPre c.cTB fs β' H' → KeepM H H' → Q (.int (t : Int)) H') :
    CallC prg w B (d + 1) c.f_Bank_make [.ref 4, .str x.op, .tup (x.args.map .int), .int x.sort, x.data.v] H Q := by
  have b' := b
  obtain ⟨h3, h4, h5, h6, h7, h8, h9, h10, h11, h12, h13, h14⟩ := b'
  refine call_def c.F_Bank_make rfl ?_
  walk_at "vals"
  -- key
  refine evS_cons (ev1_Assign (fun _ => rfl) (ev_Tuple rfl (by decide) ?_))
  walk_at "loc"; walk_at "loc"; walk_at "loc"; walk_at "loc"
  refine ⟨by simp, ?_⟩
  walk_at "asg"
  -- found
  refine evS_cons (ev1_Assign (fun _ => rfl) (ev_CallMeth rfl rfl (by decide) rfl (ev_At (n := 4) (dn := 3) c.X rfl c.cls_cTB h4 h3 c.A_numbers ns.numbers rfl ?_)))
  walk_at "obj"
  refine ⟨_, _, methV_dict PySem.F.slot_dict_get PySem.F.type_dict_get h14, ?_⟩
  walk_at "loc"
  refine ev_int (c_get_kdict (k := x.key) hx h14 ?_)
  rcases nums_get x β.terms.tail 1 with ⟨i, e1, e2⟩ | ⟨e1, e2⟩
  · rw [e2]
    walk_at "asg"
    refine evS_cons (ev1_If (evT_Cmp rfl ?_))
    walk_at "loc"
    refine ev_int (w_eq ⟨_, rfl, fun h => ?_, fun h => ?_⟩)
    · simp at h; walk_at "om"
    · refine evS_nil (evS_cons (ev1_Return ?_))
      walk_at "loc"
      refine q (1 + i) β H (.old (by walk_at "om") ?_) b (.refl _)
      rw [List.getElem?_tail] at e1
      rw [Nat.add_comm]; exact e1
  · rw [e2]
    walk_at "asg"
    refine evS_cons (ev1_If (evT_Cmp rfl ?_))
    walk_at "loc"
    refine ev_int (w_eq ⟨_, rfl, fun h => ?_, fun h => ?_⟩)
    · refine evS_cons (ev1_Assign (fun _ => rfl) (ev_CallName rfl (ev_built (by with_reducible walk_at "has") c.U_len ⟨⟨_, rfl⟩, ev_At (n := 4) (dn := 3) c.X rfl c.cls_cTB h4 h3 c.A_term_ops ns.ops rfl ?_⟩)))
      walk_at "obj"
      refine c_len_list h10 (by simp; walk_at "om") ?_
      walk_at "asg"
      -- four times append
      refine evS_cons (ev1_Expr (fun _ => rfl) (ev_LMeth (n := 10) slot_list_append type_list_append rfl rfl (by decide) rfl (by walk_at "hk") (ev_At (n := 4) (dn := 3) c.X rfl c.cls_cTB (by walk_at "hk") (by walk_at "hk") c.A_term_ops ns.ops rfl ?_)))
      walk_at "obj"
      refine ⟨rfl, rfl, ?_⟩
      walk_at "loc"
      refine c_append h10 (by simp; walk_at "om") ?_
      refine evS_cons (ev1_Expr (fun _ => rfl) (ev_LMeth (n := 11) slot_list_append type_list_append rfl rfl (by decide) rfl (by walk_at "hk") (ev_At (n := 4) (dn := 3) c.X rfl c.cls_cTB (by walk_at "hk") (by walk_at "hk") c.A_term_args ns.args rfl ?_)))
      walk_at "obj"
      refine ⟨rfl, rfl, ?_⟩
      walk_at "loc"
      refine c_append (by walk_at "hk") (by simp; walk_at "om") ?_
      refine evS_cons (ev1_Expr (fun _ => rfl) (ev_LMeth (n := 12) slot_list_append type_list_append rfl rfl (by decide) rfl (by walk_at "hk") (ev_At (n := 4) (dn := 3) c.X rfl c.cls_cTB (by walk_at "hk") (by walk_at "hk") c.A_term_sorts ns.sorts rfl ?_)))
      walk_at "obj"
      refine ⟨rfl, rfl, ?_⟩
      walk_at "loc"
      refine c_append (by walk_at "hk") (by simp; walk_at "om") ?_
      refine evS_cons (ev1_Expr (fun _ => rfl) (ev_LMeth (n := 13) slot_list_append type_list_append rfl rfl (by decide) rfl (by walk_at "hk") (ev_At (n := 4) (dn := 3) c.X rfl c.cls_cTB (by walk_at "hk") (by walk_at "hk") c.A_term_datas ns.datas rfl ?_)))
      walk_at "obj"
      refine ⟨rfl, rfl, ?_⟩
      walk_at "loc"
      refine c_append (by walk_at "hk") (by simp; walk_at "om") ?_
      -- the number
      refine evS_cons (ev1_AssignSub (fun _ => rfl) ?_)
      walk_at "loc"
      refine ev_At (n := 4) (dn := 3) c.X rfl c.cls_cTB (by walk_at "hk") (by walk_at "hk") c.A_numbers ns.numbers rfl ?_
      walk_at "obj"
      walk_at "loc"
      refine s_kdict (k := x.key) hx (by walk_at "hk") (by rw [nums_len]; simp; walk_at "om") ?_
      refine evS_nil (evS_cons (ev1_Return ?_))
      walk_at "loc"
      have ln : (List.map (fun x : T => V.str x.op) β.terms).length = β.terms.length := by simp
      rw [ln]
      have hp := ok.pos
      have ek : dput (numsFrom 1 β.terms.tail) x.key (.int (β.terms.length : Int)) = numsFrom 1 (β.terms ++ [x]).tail := by
        have et := tail_snoc hp x
        rw [et, nums_snoc, dput, if_neg]
        · congr 3; simp; walk_at "om"
        · intro ha
          obtain ⟨kv, hm, hk⟩ := List.any_eq_true.mp ha
          have : (dget (numsFrom 1 β.terms.tail) x.key).isSome = true := by
            unfold dget
            rw [Option.isSome_map, List.find?_isSome]
            exact ⟨kv, hm, hk⟩
          rw [e2] at this; cases this
      refine q _ (β.add x) _ (.new e1) ⟨by walk_at "hk", by walk_at "hk", by walk_at "hk", by walk_at "hk", by walk_at "hk", by walk_at "hk", by walk_at "hk", ?_, ?_, ?_, ?_, ?_⟩ (((((KeepM.set (by decide)).trans (.set (by decide))).trans (.set (by decide))).trans (.set (by decide))).trans (.set (by decide)))
      · rw [show (β.add x).terms = β.terms ++ [x] from rfl, List.map_append]; walk_at "hk"
      · rw [show (β.add x).terms = β.terms ++ [x] from rfl, List.map_append]; walk_at "hk"
      · rw [show (β.add x).terms = β.terms ++ [x] from rfl, List.map_append]; walk_at "hk"
      · rw [show (β.add x).terms = β.terms ++ [x] from rfl, List.map_append]; walk_at "hk"
      · rw [show (β.add x).terms = β.terms ++ [x] from rfl, ← ek]; walk_at "hk"
    · cases h
theorem make_spec (c : Cx B) (b : BankAt c.cTB fs β H) (ns : MkNs fs) (ok : BkOk β) (hl : β.terms.length ≤ 400000) (x : T) (hx : keyOk x.key = true)
    (q : ∀ t β' H', Mk β x t β' → BankAt c.cTB fs β' H' → Keep H H' → Q (.int (t : Int)) H') :
    CallC prg w B (d + 1) c.f_Bank_make [.ref 4, .str x.op, .tup (x.args.map .int), .int x.sort, x.data.v] H Q := by
  refine make_pre c b.pre ns ok hl x hx fun t β' H' m b' kp => q t β' H' m (b'.full ?_) ⟨Nat.le_of_eq kp.len.symm, fun i hi o e => kp.at_ i (by walk_at "om") o e⟩
  have e : β'.bv = β.bv := by cases m <;> rfl
  rw [e]
  exact kp.at_ _ (.inr (by decide)) _ b.h15
end

noncomputable abbrev fsB : List (Str × V) := [(Str.ofString "sort_names", .ref 5), (Str.ofString "sort_widths", .ref 6), (Str.ofString "fun_names", .ref 7), (Str.ofString "fun_args", .ref 8), (Str.ofString "fun_results", .ref 9), (Str.ofString "fresh_count", .int 0),
  (Str.ofString "term_ops", .ref 10), (Str.ofString "term_args", .ref 11), (Str.ofString "term_sorts", .ref 12), (Str.ofString "term_datas", .ref 13), (Str.ofString "numbers", .ref 14), (Str.ofString "true_number", .int 1), (Str.ofString "false_number", .int 2), (Str.ofString "bv_numbers", .ref 15)]
theorem mkNsB : MkNs fsB := by constructor <;> with_reducible walk_at "flook"
theorem na_make : Str.ofString "make" ∉ fsB.map (·.1) := by decide +kernel
theorem na_op : Str.ofString "op" ∉ fsB.map (·.1) := by decide +kernel
theorem na_args : Str.ofString "args" ∉ fsB.map (·.1) := by decide +kernel
theorem na_data : Str.ofString "data" ∉ fsB.map (·.1) := by decide +kernel
theorem na_width : Str.ofString "width" ∉ fsB.map (·.1) := by decide +kernel
theorem na_want : Str.ofString "want" ∉ fsB.map (·.1) := by decide +kernel
theorem na_bv_sort : Str.ofString "bv_sort" ∉ fsB.map (·.1) := by decide +kernel
theorem na_bv_num : Str.ofString "bv_num" ∉ fsB.map (·.1) := by decide +kernel
theorem na_declare_fun : Str.ofString "declare_fun" ∉ fsB.map (·.1) := by decide +kernel
theorem na_fresh_const : Str.ofString "fresh_const" ∉ fsB.map (·.1) := by decide +kernel
theorem na_true_term : Str.ofString "true_term" ∉ fsB.map (·.1) := by decide +kernel
theorem na_false_term : Str.ofString "false_term" ∉ fsB.map (·.1) := by decide +kernel
theorem na_eq : Str.ofString "eq" ∉ fsB.map (·.1) := by decide +kernel

theorem key_ok (x : T) (h1 : PyData.strOk x.op = true) (h2 : x.data.ok = true) : keyOk x.key = true := by simp [T.key, keyOk, KI.ok, h1] at h2 ⊢; exact h2
theorem ok_app : PyData.strOk (Str.ofString "app") = true := by decide +kernel
theorem ok_bvnum : PyData.strOk (Str.ofString "bvnum") = true := by decide +kernel
theorem ok_bvnot : PyData.strOk (Str.ofString "bvnot") = true := by decide +kernel
theorem ok_bvneg : PyData.strOk (Str.ofString "bvneg") = true := by decide +kernel
theorem ok_bvadd : PyData.strOk (Str.ofString "bvadd") = true := by decide +kernel
theorem ok_bvxor : PyData.strOk (Str.ofString "bvxor") = true := by decide +kernel
theorem ok_true : PyData.strOk (Str.ofString "true") = true := by decide +kernel
theorem ok_false : PyData.strOk (Str.ofString "false") = true := by decide +kernel
theorem ok_same : PyData.strOk (Str.ofString "=") = true := by decide +kernel
theorem tn (t : Nat) : ((t : Int).toNat) = t := Int.toNat_natCast t
theorem term_at {β : Bk} {t : Nat} {x : T} (h : β.terms[t]? = some x) {α : Type} (f : T → α) : (β.terms.map f)[((t : Int)).toNat]? = some (f x) := by rw [tn, List.getElem?_map, h]; rfl
theorem term_lt {β : Bk} {t : Nat} {x : T} (h : β.terms[t]? = some x) (hl : β.terms.length ≤ 400000) : (t : Int) < 2 ^ 63 := by
  have := (List.getElem?_eq_some_iff.mp h).1; walk_at "om"

section
variable {w : World} {B : Heap} {d : Nat} {H : List O} {Q : V → List O → Prop} {β : Bk}

theorem op_spec (c : Cx B) (b : BankAt c.cTB fsB β H) (hl : β.terms.length ≤ 400000) {t : Nat} {x : T} (ht : β.terms[t]? = some x) (q : Q (.str x.op) H) : CallC prg w B (d + 1) c.f_Bank_op [.ref 4, .int (t : Int)] H Q := by
  refine call_def c.F_Bank_op rfl ?_
  walk_at "vals"
  refine evS_cons (ev1_Return (ev_Sub (ev_At c.X rfl c.cls_cTB b.h4 b.h3 c.A_term_ops (by with_reducible walk_at "flook") rfl ?_)))
  walk_at "obj"
  walk_at "loc"
  exact i_list b.h10 (by walk_at "om") (term_lt ht hl) (term_at ht _) q
theorem args_spec (c : Cx B) (b : BankAt c.cTB fsB β H) (hl : β.terms.length ≤ 400000) {t : Nat} {x : T} (ht : β.terms[t]? = some x) (q : Q (.tup (x.args.map .int)) H) : CallC prg w B (d + 1) c.f_Bank_args [.ref 4, .int (t : Int)] H Q := by
  refine call_def c.F_Bank_args rfl ?_
  walk_at "vals"
  refine evS_cons (ev1_Return (ev_Sub (ev_At c.X rfl c.cls_cTB b.h4 b.h3 c.A_term_args (by with_reducible walk_at "flook") rfl ?_)))
  walk_at "obj"
  walk_at "loc"
  exact i_list b.h11 (by walk_at "om") (term_lt ht hl) (term_at ht _) q
theorem data_spec (c : Cx B) (b : BankAt c.cTB fsB β H) (hl : β.terms.length ≤ 400000) {t : Nat} {x : T} (ht : β.terms[t]? = some x) (q : Q x.data.v H) : CallC prg w B (d + 1) c.f_Bank_data [.ref 4, .int (t : Int)] H Q := by
  refine call_def c.F_Bank_data rfl ?_
  walk_at "vals"
  refine evS_cons (ev1_Return (ev_Sub (ev_At c.X rfl c.cls_cTB b.h4 b.h3 c.A_term_datas (by with_reducible walk_at "flook") rfl ?_)))
  walk_at "obj"
  walk_at "loc"
  exact i_list b.h13 (by walk_at "om") (term_lt ht hl) (term_at ht _) q
/-- a term's sort and its width -/
structure HasW (β : Bk) (x : T) (wd : Int) : Prop where
  ex : ∃ s : Nat, x.sort = s ∧ β.widths[s]? = some wd
theorem width_spec (c : Cx B) (b : BankAt c.cTB fsB β H) (hl : β.terms.length ≤ 400000) (hw : β.widths.length ≤ 100000) {t : Nat} {x : T} {wd : Int} (ht : β.terms[t]? = some x) (hx : HasW β x wd) (q : Q (.int wd) H) : CallC prg w B (d + 1) c.f_Bank_width [.ref 4, .int (t : Int)] H Q := by
  obtain ⟨s, e, hs⟩ := hx.ex
  refine call_def c.F_Bank_width rfl ?_
  walk_at "vals"
  refine evS_cons (ev1_Return (ev_Sub (ev_At c.X rfl c.cls_cTB b.h4 b.h3 c.A_sort_widths (by with_reducible walk_at "flook") rfl ?_)))
  walk_at "obj"
  refine ev_Sub (ev_At c.X rfl c.cls_cTB b.h4 b.h3 c.A_term_sorts (by with_reducible walk_at "flook") rfl ?_)
  walk_at "obj"
  walk_at "loc"
  refine i_list b.h12 (by omega) (term_lt ht hl) (term_at ht _) ?_
  have := (List.getElem?_eq_some_iff.mp hs).1
  rw [e]
  exact i_list b.h6 (by walk_at "om") (by walk_at "om") (by rw [tn, List.getElem?_map, hs]; rfl) q
theorem true_spec (c : Cx B) (b : BankAt c.cTB fsB β H) (q : Q (.int 1) H) : CallC prg w B (d + 1) c.f_Bank_true_term [.ref 4] H Q := by
  refine call_def c.F_Bank_true_term rfl ?_
  walk_at "vals"
  refine evS_cons (ev1_Return (ev_At c.X rfl c.cls_cTB b.h4 b.h3 c.A_true_number (by with_reducible walk_at "flook") rfl ?_))
  walk_at "obj"
  exact q
theorem false_spec (c : Cx B) (b : BankAt c.cTB fsB β H) (q : Q (.int 2) H) : CallC prg w B (d + 1) c.f_Bank_false_term [.ref 4] H Q := by
  refine call_def c.F_Bank_false_term rfl ?_
  walk_at "vals"
  refine evS_cons (ev1_Return (ev_At c.X rfl c.cls_cTB b.h4 b.h3 c.A_false_number (by with_reducible walk_at "flook") rfl ?_))
  walk_at "obj"
  exact q
/-- a term of the sort that is wanted -/
theorem want_spec (c : Cx B) (b : BankAt c.cTB fsB β H) (hl : β.terms.length ≤ 400000) {t : Nat} {x : T} {wh : Str} {s : Int} (ht : β.terms[t]? = some x) (hs : x.sort = s) (q : Q .none H) : CallC prg w B (d + 1) c.f_Bank_want [.ref 4, .int (t : Int), .int s, .str wh] H Q := by
  subst hs
  refine call_def c.F_Bank_want rfl ?_
  walk_at "vals"
  refine evS_cons (ev1_If (evT_Cmp rfl (ev_Sub (ev_At c.X rfl c.cls_cTB b.h4 b.h3 c.A_term_sorts (by with_reducible walk_at "flook") rfl ?_))))
  walk_at "obj"
  walk_at "loc"
  refine i_list b.h12 (by omega) (term_lt ht hl) (term_at ht _) ?_
  walk_at "loc"
  refine w_ne ⟨_, rfl, fun h => ?_, fun h => ?_⟩
  · simp at h
  · exact evS_nil (evS_nil q)
end

section
variable {w : World} {B : Heap} {d : Nat} {H : List O} {Q : V → List O → Prop} {β : Bk}

/-- a new function's number -/
theorem declare_spec (c : Cx B) (b : BankAt c.cTB fsB β H) (hl : β.f1.length ≤ 100000 ∧ β.f2.length ≤ 100000 ∧ β.f3.length ≤ 100000) {v1 v3 : V} {ss : List V}
    (q : ∀ β' H', Grow β β' 0 1 → β'.terms = β.terms → β'.widths = β.widths → β'.bv = β.bv → BankAt c.cTB fsB β' H' → Keep H H' → Q (.int ((β.f1.length : Nat) : Int)) H') :
    CallC prg w B (d + 1) c.f_Bank_declare_fun [.ref 4, v1, .tup ss, v3] H Q := by
  have b' := b
  obtain ⟨h3, h4, h5, h6, h7, h8, h9, h10, h11, h12, h13, h14, h15⟩ := b'
  refine call_def c.F_Bank_declare_fun rfl ?_
  walk_at "vals"
  refine evS_cons (ev1_Expr (fun _ => rfl) (ev_LMeth (n := 7) slot_list_append type_list_append rfl rfl (by decide) rfl h7 (ev_At (n := 4) (dn := 3) c.X rfl c.cls_cTB (by walk_at "hk") (by walk_at "hk") c.A_fun_names (by with_reducible walk_at "flook") rfl ?_)))
  walk_at "obj"
  refine ⟨rfl, rfl, ?_⟩
  walk_at "loc"
  refine c_append h7 (by walk_at "om") ?_
  refine evS_cons (ev1_Expr (fun _ => rfl) (ev_LMeth (n := 8) slot_list_append type_list_append rfl rfl (by decide) rfl (by walk_at "hk") (ev_At (n := 4) (dn := 3) c.X rfl c.cls_cTB (by walk_at "hk") (by walk_at "hk") c.A_fun_args (by with_reducible walk_at "flook") rfl ?_)))
  walk_at "obj"
  refine ⟨rfl, rfl, ev_Bi rfl (by with_reducible walk_at "has") c.U_tuple ?_⟩
  walk_at "loc"
  refine c_tup_tup ?_
  refine c_append (by walk_at "hk") (by walk_at "om") ?_
  refine evS_cons (ev1_Expr (fun _ => rfl) (ev_LMeth (n := 9) slot_list_append type_list_append rfl rfl (by decide) rfl (by walk_at "hk") (ev_At (n := 4) (dn := 3) c.X rfl c.cls_cTB (by walk_at "hk") (by walk_at "hk") c.A_fun_results (by with_reducible walk_at "flook") rfl ?_)))
  walk_at "obj"
  refine ⟨rfl, rfl, ?_⟩
  walk_at "loc"
  refine c_append (by walk_at "hk") (by walk_at "om") ?_
  refine evS_cons (ev1_Return (ev_BinOp (ev_Bi rfl (by with_reducible walk_at "has") c.U_len (ev_At (n := 4) (dn := 3) c.X rfl c.cls_cTB (by walk_at "hk") (by walk_at "hk") c.A_fun_names (by with_reducible walk_at "flook") rfl ?_))))
  walk_at "obj"
  refine c_len_list (n := 7) (vs := β.f1 ++ [v1]) (by walk_at "hk") (by simp; walk_at "om") ?_
  refine ev_int (w_sub ?_)
  have e : ((β.f1 ++ [v1]).length : Int) - 1 = ((β.f1.length : Nat) : Int) := by simp
  rw [e]
  refine q { β with f1 := β.f1 ++ [v1], f2 := β.f2 ++ [.tup ss], f3 := β.f3 ++ [v3] } _ ⟨⟨[], by simp⟩, ⟨[], by simp⟩, by simp, fun o => ⟨o.pos, o.nod, o.wl, o.bv, o.bl⟩⟩ rfl rfl rfl
    ⟨by walk_at "hk", by walk_at "hk", by walk_at "hk", by walk_at "hk", by walk_at "hk", by walk_at "hk", by walk_at "hk", by walk_at "hk", by walk_at "hk", by walk_at "hk", by walk_at "hk", by walk_at "hk", by walk_at "hk"⟩
    (((Keep.set (by decide)).trans (.set (by decide))).trans (.set (by decide)))

noncomputable abbrev appT (s : Int) (f : Int) : T := ⟨Str.ofString "app", [], s, .i f⟩
theorem const_spec (c : Cx B) (b : BankAt c.cTB fsB β H) (ok : BkOk β) (hl : β.terms.length ≤ 400000) (hf : β.f1.length ≤ 100000 ∧ β.f2.length ≤ 100000 ∧ β.f3.length ≤ 100000) {v1 : V} {s : Int}
    (q : ∀ (t : Nat) β₁ β' H', β₁.terms = β.terms → β₁.widths = β.widths → β₁.bv = β.bv → Grow β β₁ 0 1 → Mk β₁ (appT s β.f1.length) t β' → BankAt c.cTB fsB β' H' → Keep H H' → Q (.int ((t : Nat) : Int)) H') :
    CallC prg w B (d + 2) c.f_Bank_fresh_const [.ref 4, v1, .int s] H Q := by
  refine call_def c.F_Bank_fresh_const rfl ?_
  walk_at "vals"
  refine evS_cons (ev1_Return (ev_Do c.X rfl rfl (by decide) rfl c.cls_cTB b.h4 b.h3 c.M_Bank_make na_make c.F_Bank_make (d' := d + 1) (by walk_at "om") ?_))
  walk_at "obj"
  refine ev_str ?_
  refine ev_Tuple rfl (by decide) ?_
  refine ⟨by simp, ?_⟩
  walk_at "loc"
  refine ev_Do c.X rfl rfl (by decide) rfl c.cls_cTB b.h4 b.h3 c.M_Bank_declare_fun na_declare_fun c.F_Bank_declare_fun (d' := d + 1) (by walk_at "om") ?_
  walk_at "obj"
  walk_at "loc"
  refine ev_Tuple rfl (by decide) ?_
  refine ⟨by simp, ?_⟩
  walk_at "loc"
  refine declare_spec c b hf fun β₁ H₁ g₁ et ew eb b₁ k₁ => ?_
  refine make_spec c b₁ mkNsB (g₁.ok ok) (by rw [et]; exact hl) (appT s β.f1.length) (key_ok _ ok_app rfl) fun t β' H' m b₂ k₂ => ?_
  exact q t β₁ β' H' et ew eb g₁ m b₂ (k₁.trans k₂)

/-- the sort of so many bits -/
theorem sort_spec (c : Cx B) (b : BankAt c.cTB fsB β H) (ok : BkOk β) (hw : β.widths.length ≤ 100000) {wd : Int} (h1 : 1 ≤ wd) (h2 : wd ≤ 4096)
    (q : ∀ (s : Nat) β' H', Grow β β' 0 1 → β'.terms = β.terms → β'.widths[s]? = some wd → dget β'.bv wd = some (.int (s : Int)) → BankAt c.cTB fsB β' H' → Keep H H' → Q (.int (s : Int)) H') :
    CallC prg w B (d + 1) c.f_TermBank_bv_sort [.ref 4, .int wd] H Q := by
  have b' := b
  obtain ⟨h3, h4, h5, h6, h7, h8, h9, h10, h11, h12, h13, h14, h15⟩ := b'
  refine call_def c.F_TermBank_bv_sort rfl ?_
  walk_at "vals"
  refine evS_cons (ev1_If (evT_Cmp rfl ?_))
  walk_at "loc"
  refine ev_int (w_lt ⟨_, rfl, fun h => ?_, fun h => ?_⟩)
  · simp at h; walk_at "om"
  refine evS_nil (evS_cons (ev1_If (evT_Cmp rfl ?_)))
  walk_at "loc"
  obtain ⟨tk, gW⟩ := c.G_WIDEST
  refine ev_globInt (by with_reducible walk_at "has") gW (w_gt ⟨_, rfl, fun h => ?_, fun h => ?_⟩)
  · simp at h; walk_at "om"
  refine evS_nil (evS_cons (ev1_If (evT_Cmp rfl ?_)))
  walk_at "loc"
  refine ev_At c.X rfl c.cls_cTB h4 h3 c.A_bv_numbers (by with_reducible walk_at "flook") rfl ?_
  walk_at "obj"
  refine w_notin_idict h15 ⟨_, rfl, fun h => ?_, fun h => ?_⟩
  · have hn : dget β.bv wd = none := by
      cases e : dget β.bv wd with
      | none => rfl
      | some _ => rw [e] at h; simp at h
    refine evS_cons (ev1_Expr (fun _ => rfl) (ev_LMeth (n := 5) slot_list_append type_list_append rfl rfl (by decide) rfl h5 (ev_At (n := 4) (dn := 3) c.X rfl c.cls_cTB (by walk_at "hk") (by walk_at "hk") c.A_sort_names (by with_reducible walk_at "flook") rfl ?_)))
    walk_at "obj"
    refine ⟨rfl, rfl, ev_Joined3 (by decide +kernel) (by decide +kernel) ?_⟩
    walk_at "loc"
    refine ⟨wd, rfl, by walk_at "om", fun z => ?_⟩
    refine c_append h5 (by have := ok.wl; walk_at "om") ?_
    refine evS_cons (ev1_Expr (fun _ => rfl) (ev_LMeth (n := 6) slot_list_append type_list_append rfl rfl (by decide) rfl (by walk_at "hk") (ev_At (n := 4) (dn := 3) c.X rfl c.cls_cTB (by walk_at "hk") (by walk_at "hk") c.A_sort_widths (by with_reducible walk_at "flook") rfl ?_)))
    walk_at "obj"
    refine ⟨rfl, rfl, ?_⟩
    walk_at "loc"
    refine c_append (by walk_at "hk") (by simp; walk_at "om") ?_
    refine evS_cons (ev1_AssignSub (fun _ => rfl) (ev_BinOp (ev_Bi rfl (by with_reducible walk_at "has") c.U_len (ev_At (n := 4) (dn := 3) c.X rfl c.cls_cTB (by walk_at "hk") (by walk_at "hk") c.A_sort_names (by with_reducible walk_at "flook") rfl ?_))))
    walk_at "obj"
    refine c_len_list (n := 5) (vs := β.names ++ [.str z]) (by walk_at "hk") (by simp; have := ok.wl; walk_at "om") ?_
    refine ev_int (w_sub ?_)
    have e : ((β.names ++ [V.str z]).length : Int) - 1 = ((β.names.length : Nat) : Int) := by simp
    rw [e]
    refine ev_At (n := 4) (dn := 3) c.X rfl c.cls_cTB (by walk_at "hk") (by walk_at "hk") c.A_bv_numbers (by with_reducible walk_at "flook") rfl ?_
    walk_at "obj"
    walk_at "loc"
    have hwl := ok.wl
    have hbl := ok.bl
    refine s_idict (n := 15) (es := β.bv) (by walk_at "hk") (by walk_at "om") ?_
    refine evS_nil (evS_cons (ev1_Return (ev_Sub (ev_At (n := 4) (dn := 3) c.X rfl c.cls_cTB (by walk_at "hk") (by walk_at "hk") c.A_bv_numbers (by with_reducible walk_at "flook") rfl ?_))))
    walk_at "obj"
    walk_at "loc"
    have hput : dput β.bv wd (.int ((β.names.length : Nat) : Int)) = β.bv ++ [(wd, .int ((β.names.length : Nat) : Int))] := by
      unfold dput
      rw [if_neg]
      intro ha
      obtain ⟨kv, hm, hk⟩ := List.any_eq_true.mp ha
      have : (dget β.bv wd).isSome = true := by
        unfold dget
        rw [Option.isSome_map, List.find?_isSome]
        exact ⟨kv, hm, hk⟩
      rw [hn] at this; cases this
    have hgetp : ∀ k, dget (β.bv ++ [(wd, V.int ((β.names.length : Nat) : Int))]) k = if k = wd then some (.int ((β.names.length : Nat) : Int)) else dget β.bv k := by
      intro k
      unfold dget
      rw [List.find?_append]
      by_cases hk : k = wd
      · subst hk
        rw [if_pos rfl]
        have : β.bv.find? (fun kv => decide (kv.1 = k)) = none := by
          unfold dget at hn
          simpa using hn
        rw [this]; simp
      · rw [if_neg hk]
        cases hfd : β.bv.find? (fun kv => decide (kv.1 = k)) with
        | some _ => rfl
        | none => simp [Ne.symm hk]
    rw [hput]
    refine i_idict (n := 15) (es := β.bv ++ [(wd, .int ((β.names.length : Nat) : Int))]) (v := .int ((β.names.length : Nat) : Int)) (by walk_at "hk") (by rw [hgetp, if_pos rfl]) ?_
    refine q β.names.length { β with names := β.names ++ [.str z], widths := β.widths ++ [wd], bv := β.bv ++ [(wd, .int ((β.names.length : Nat) : Int))] } _ ⟨⟨[], by simp⟩, ⟨[wd], rfl, by simp⟩, by simp, fun o => ⟨o.pos, o.nod, by simp [o.wl], ?_, by simp; exact o.bl⟩⟩ rfl ?_ (by show dget (β.bv ++ [(wd, V.int ((β.names.length : Nat) : Int))]) wd = _; rw [hgetp, if_pos rfl])
      ⟨by walk_at "hk", by walk_at "hk", by walk_at "hk", ?_, by walk_at "hk", by walk_at "hk", by walk_at "hk", by walk_at "hk", by walk_at "hk", by walk_at "hk", by walk_at "hk", by walk_at "hk", by walk_at "hk"⟩
      (((Keep.set (by decide)).trans (.set (by decide))).trans (.set (by decide)))
    · intro k v hv
      rw [hgetp] at hv
      split at hv
      · rename_i hk
        cases hv
        exact ⟨β.names.length, rfl, by rw [hk, ← o.wl, List.getElem?_append_right (Nat.le_refl _), Nat.sub_self]; rfl⟩
      · obtain ⟨s, e1, e2⟩ := o.bv k v hv
        exact ⟨s, e1, by rw [List.getElem?_append_left (List.getElem?_eq_some_iff.mp e2).1]; exact e2⟩
    · show (β.widths ++ [wd])[β.names.length]? = _
      rw [← ok.wl, List.getElem?_append_right (Nat.le_refl _), Nat.sub_self]; rfl
    · show _ = some (O.list ((β.widths ++ [wd]).map .int))
      rw [List.map_append]; walk_at "hk"
  · have hs : (dget β.bv wd).isSome = true := by simpa using h
    obtain ⟨v, hv⟩ := Option.isSome_iff_exists.mp hs
    obtain ⟨s, rfl, e2⟩ := ok.bv wd v hv
    refine evS_nil (evS_cons (ev1_Return (ev_Sub (ev_At (n := 4) (dn := 3) c.X rfl c.cls_cTB h4 h3 c.A_bv_numbers (by with_reducible walk_at "flook") rfl ?_))))
    walk_at "obj"
    walk_at "loc"
    exact i_idict h15 hv (q s β H ((Grow.refl β).mono (by walk_at "om") (by walk_at "om")) rfl e2 hv b (.refl _))
end

section
variable {w : World} {B : Heap} {d : Nat} {H : List O} {Q : V → List O → Prop} {β : Bk}

noncomputable abbrev numT (s v : Int) : T := ⟨Str.ofString "bvnum", [], s, .i v⟩
noncomputable abbrev trueT : T := ⟨Str.ofString "true", [], 0, .i 0⟩
noncomputable abbrev falseT : T := ⟨Str.ofString "false", [], 0, .i 0⟩
structure Base (β : Bk) : Prop where
  ok : BkOk β
  tr : β.terms[1]? = some trueT
  fa : β.terms[2]? = some falseT
end

section
variable {w : World} {B : Heap} {d : Nat} {H : List O} {Q : V → List O → Prop} {β : Bk}
theorem mask_spec (c : Cx B) {wd : Int} (h0 : 0 ≤ wd) (h1 : wd ≤ 4096) (q : Q (.int (2 ^ wd.toNat - 1)) H) : CallC prg w B (d + 1) c.f_mask_of [.int wd] H Q := by
  refine call_def c.F_mask_of rfl ?_
  walk_at "vals"
  refine evS_cons (ev1_Return (ev_BinOp (ev_BinOp (ev_int ?_))))
  walk_at "loc"
  have hb1 : Builtin.Int.intBits 1 = 1 := by decide +kernel
  refine w_shl h0 (by rw [hb1]; walk_at "om") (ev_int (w_sub ?_))
  rw [Int.one_mul]
  exact q
theorem one_not_spec (c : Cx B) {x wd : Int} (h0 : 0 ≤ wd) (h1 : wd ≤ 4096) (q : Q (.int (2 ^ wd.toNat - 1 - x)) H) : CallC prg w B (d + 2) c.f_one_value [.str (Str.ofString "bvnot"), .int x, .int wd] H Q := by
  refine call_def c.F_one_value rfl ?_
  walk_at "vals"
  refine evS_cons (ev1_If (evT_Cmp rfl ?_))
  walk_at "loc"
  refine ev_str (w_eqs ⟨_, rfl, fun _ => ?_, fun h => ?_⟩)
  · refine evS_cons (ev1_Return (ev_BinOp (ev_Fn rfl (by with_reducible walk_at "has") c.G_mask_of c.F_mask_of (d' := d + 1) (by walk_at "om") ?_)))
    walk_at "loc"
    refine mask_spec c h0 h1 ?_
    walk_at "loc"
    exact w_sub q
  · simp at h
theorem one_neg_spec (c : Cx B) {x wd : Int} (h0 : 0 ≤ wd) (h1 : wd ≤ 4096) (q : Q (.int (Builtin.bitAnd (-x) (2 ^ wd.toNat - 1))) H) : CallC prg w B (d + 2) c.f_one_value [.str (Str.ofString "bvneg"), .int x, .int wd] H Q := by
  refine call_def c.F_one_value rfl ?_
  walk_at "vals"
  refine evS_cons (ev1_If (evT_Cmp rfl ?_))
  walk_at "loc"
  have e : (Str.ofString "bvneg" == Str.ofString "bvnot") = false := by decide +kernel
  refine ev_str (w_eqs ⟨_, rfl, fun h => ?_, fun _ => ?_⟩)
  · rw [e] at h; cases h
  refine evS_nil (evS_cons (ev1_If (evT_Cmp rfl ?_)))
  walk_at "loc"
  refine ev_str (w_eqs ⟨_, rfl, fun _ => ?_, fun h => ?_⟩)
  · refine evS_cons (ev1_Return (ev_BinOp (ev_Unary ?_)))
    walk_at "loc"
    refine w_neg (ev_Fn rfl (by with_reducible walk_at "has") c.G_mask_of c.F_mask_of (d' := d + 1) (by walk_at "om") ?_)
    walk_at "loc"
    exact mask_spec c h0 h1 (w_band q)
  · simp at h
theorem two_xor_spec (c : Cx B) {x y wd : Int} (q : Q (.int (Builtin.bitXor x y)) H) : CallC prg w B (d + 2) c.f_two_value [.str (Str.ofString "bvxor"), .int x, .int y, .int wd] H Q := by
  refine call_def c.F_two_value rfl ?_
  walk_at "vals"
  have e1 : (Str.ofString "bvxor" == Str.ofString "bvand") = false := by decide +kernel
  have e2 : (Str.ofString "bvxor" == Str.ofString "bvor") = false := by decide +kernel
  refine evS_cons (ev1_If (evT_Cmp rfl ?_))
  walk_at "loc"
  refine ev_str (w_eqs ⟨_, rfl, fun h => ?_, fun _ => ?_⟩)
  · rw [e1] at h; cases h
  refine evS_nil (evS_cons (ev1_If (evT_Cmp rfl ?_)))
  walk_at "loc"
  refine ev_str (w_eqs ⟨_, rfl, fun h => ?_, fun _ => ?_⟩)
  · rw [e2] at h; cases h
  refine evS_nil (evS_cons (ev1_If (evT_Cmp rfl ?_)))
  walk_at "loc"
  refine ev_str (w_eqs ⟨_, rfl, fun _ => ?_, fun h => ?_⟩)
  · refine evS_cons (ev1_Return (ev_BinOp ?_))
    walk_at "loc"
    walk_at "loc"
    exact w_bxor q
  · simp at h
theorem two_sub_spec (c : Cx B) {x y wd : Int} (h0 : 0 ≤ wd) (h1 : wd ≤ 4096) (q : Q (.int (Builtin.bitAnd (x - y) (2 ^ wd.toNat - 1))) H) : CallC prg w B (d + 2) c.f_two_value [.str (Str.ofString "bvsub"), .int x, .int y, .int wd] H Q := by
  refine call_def c.F_two_value rfl ?_
  walk_at "vals"
  have e1 : (Str.ofString "bvsub" == Str.ofString "bvand") = false := by decide +kernel
  have e2 : (Str.ofString "bvsub" == Str.ofString "bvor") = false := by decide +kernel
  have e3 : (Str.ofString "bvsub" == Str.ofString "bvxor") = false := by decide +kernel
  have e4 : (Str.ofString "bvsub" == Str.ofString "bvadd") = false := by decide +kernel
  refine evS_cons (ev1_If (evT_Cmp rfl ?_))
  walk_at "loc"
  refine ev_str (w_eqs ⟨_, rfl, fun h => ?_, fun _ => ?_⟩)
  · rw [e1] at h; cases h
  refine evS_nil (evS_cons (ev1_If (evT_Cmp rfl ?_)))
  walk_at "loc"
  refine ev_str (w_eqs ⟨_, rfl, fun h => ?_, fun _ => ?_⟩)
  · rw [e2] at h; cases h
  refine evS_nil (evS_cons (ev1_If (evT_Cmp rfl ?_)))
  walk_at "loc"
  refine ev_str (w_eqs ⟨_, rfl, fun h => ?_, fun _ => ?_⟩)
  · rw [e3] at h; cases h
  refine evS_nil (evS_cons (ev1_If (evT_Cmp rfl ?_)))
  walk_at "loc"
  refine ev_str (w_eqs ⟨_, rfl, fun h => ?_, fun _ => ?_⟩)
  · rw [e4] at h; cases h
  refine evS_nil (evS_cons (ev1_If (evT_Cmp rfl ?_)))
  walk_at "loc"
  refine ev_str (w_eqs ⟨_, rfl, fun _ => ?_, fun h => ?_⟩)
  · refine evS_cons (ev1_Return (ev_BinOp (ev_BinOp ?_)))
    walk_at "loc"
    walk_at "loc"
    refine w_sub (ev_Fn rfl (by with_reducible walk_at "has") c.G_mask_of c.F_mask_of (d' := d + 1) (by walk_at "om") ?_)
    walk_at "loc"
    exact mask_spec c h0 h1 (w_band q)
  · simp at h

noncomputable abbrev eqT (a b : Int) : T := ⟨Str.ofString "=", [a, b], 0, .i 0⟩
/-- two unlike terms of one sort are held together -/
theorem eq_spec (c : Cx B) (b : BankAt c.cTB fsB β H) (ok : BkOk β) (hl : β.terms.length ≤ 400000) {t1 t2 : Nat} {x1 x2 : T} (ht1 : β.terms[t1]? = some x1) (ht2 : β.terms[t2]? = some x2) (hs : x2.sort = x1.sort) (hne : t1 ≠ t2)
    (q : ∀ (r : Nat) β' H', Grow β β' 1 0 → β'.bv = β.bv → 1 ≤ r → β'.terms[r]? = some (eqT (if (t2 : Int) < t1 then t2 else t1) (if (t2 : Int) > t1 then t2 else t1)) → BankAt c.cTB fsB β' H' → Keep H H' → Q (.int (r : Int)) H') :
    CallC prg w B (d + 2) c.f_BoolBank_eq [.ref 4, .int (t1 : Int), .int (t2 : Int)] H Q := by
  refine call_def c.F_BoolBank_eq rfl ?_
  walk_at "vals"
  refine evS_cons (ev1_Expr (fun _ => rfl) (ev_Do c.X rfl rfl (by decide) rfl c.cls_cTB b.h4 b.h3 c.M_Bank_want na_want c.F_Bank_want (d' := d + 1) (by walk_at "om") ?_))
  walk_at "obj"
  walk_at "loc"
  refine ev_Sub (ev_At c.X rfl c.cls_cTB b.h4 b.h3 c.A_term_sorts (by with_reducible walk_at "flook") rfl ?_)
  walk_at "obj"
  walk_at "loc"
  refine i_list b.h12 (by omega) (term_lt ht1 hl) (term_at ht1 _) (ev_str ?_)
  refine want_spec c b hl ht2 hs ?_
  refine evS_cons (ev1_If (evT_Cmp rfl ?_))
  walk_at "loc"
  walk_at "loc"
  refine w_eq ⟨_, rfl, fun h => ?_, fun h => ?_⟩
  · simp at h; walk_at "om"
  refine evS_nil (evS_cons (ev1_Return (ev_Do c.X rfl rfl (by decide) rfl c.cls_cTB b.h4 b.h3 c.M_Bank_make na_make c.F_Bank_make (d' := d + 1) (by walk_at "om") ?_)))
  walk_at "obj"
  refine ev_str (ev_Tuple rfl (by decide) ?_)
  refine ev_Bi rfl (by with_reducible walk_at "has") c.U_min ?_
  walk_at "loc"
  walk_at "loc"
  refine c_min (ev_Bi rfl (by with_reducible walk_at "has") c.U_max ?_)
  walk_at "loc"
  walk_at "loc"
  obtain ⟨tk, gB⟩ := c.G_BOOL
  refine c_max ⟨by simp, ev_globInt (by with_reducible walk_at "has") gB (ev_int ?_)⟩
  refine make_spec c b mkNsB ok hl (eqT (if (t2 : Int) < t1 then t2 else t1) (if (t2 : Int) > t1 then t2 else t1)) (key_ok _ ok_same rfl) fun r β' H' m b₂ k₂ => ?_
  exact q r β' H' m.grow (by cases m <;> rfl) (m.pos ok) m.at b₂ k₂
end

noncomputable abbrev fsM (k : Nat) : List (Str × V) := [(Str.ofString "bank", .ref 4), (Str.ofString "yes", .int 1), (Str.ofString "no", .int 2), (Str.ofString "known", .ref k)]
structure MkAt (C : Addr) (m k : Nat) (H : List O) : Prop where
  big : 15 < m
  h1 : H[m]? = some (.ns (fsM k))
  h2 : H[m + 1]? = some (.inst C m)
theorem nm_names (k : Nat) : (fsM k).map (·.1) = [Str.ofString "bank", Str.ofString "yes", Str.ofString "no", Str.ofString "known"] := rfl
theorem nk_is_bits (k : Nat) : Str.ofString "is_bits" ∉ (fsM k).map (·.1) := by rw [nm_names]; decide +kernel
theorem nk_number (k : Nat) : Str.ofString "number" ∉ (fsM k).map (·.1) := by rw [nm_names]; decide +kernel
theorem nk_equal_number (k : Nat) : Str.ofString "equal_number" ∉ (fsM k).map (·.1) := by rw [nm_names]; decide +kernel
/-- the sort of wd bits -/
structure Sz (β : Bk) (s : Nat) (wd : Int) : Prop where
  bv : dget β.bv wd = some (.int (s : Int))
  at_ : β.widths[s]? = some wd
theorem Mk.bv {β β' : Bk} {x : T} {t : Nat} (m : Mk β x t β') : β'.bv = β.bv := by cases m <;> rfl
theorem Mk.widths {β β' : Bk} {x : T} {t : Nat} (m : Mk β x t β') : β'.widths = β.widths := by cases m <;> rfl
theorem Sz.of_mk {β β' : Bk} {x : T} {t s : Nat} {wd : Int} (z : Sz β s wd) (m : Mk β x t β') : Sz β' s wd := ⟨m.bv ▸ z.bv, m.widths ▸ z.at_⟩
section
variable {w : World} {B : Heap} {d : Nat} {H : List O} {Q : V → List O → Prop} {β : Bk}
theorem sort_old (c : Cx B) (b : BankAt c.cTB fsB β H) {s : Nat} {wd : Int} (z : Sz β s wd) (h1 : 1 ≤ wd) (h2 : wd ≤ 4096) (q : Q (.int (s : Int)) H) : CallC prg w B (d + 1) c.f_TermBank_bv_sort [.ref 4, .int wd] H Q := by
  refine call_def c.F_TermBank_bv_sort rfl ?_
  walk_at "vals"
  refine evS_cons (ev1_If (evT_Cmp rfl ?_))
  walk_at "loc"
  refine ev_int (w_lt ⟨_, rfl, fun h => ?_, fun h => ?_⟩)
  · simp at h; walk_at "om"
  refine evS_nil (evS_cons (ev1_If (evT_Cmp rfl ?_)))
  walk_at "loc"
  obtain ⟨tk, gW⟩ := c.G_WIDEST
  refine ev_globInt (by with_reducible walk_at "has") gW (w_gt ⟨_, rfl, fun h => ?_, fun h => ?_⟩)
  · simp at h; walk_at "om"
  refine evS_nil (evS_cons (ev1_If (evT_Cmp rfl ?_)))
  walk_at "loc"
  refine ev_At c.X rfl c.cls_cTB b.h4 b.h3 c.A_bv_numbers (by with_reducible walk_at "flook") rfl ?_
  walk_at "obj"
  refine w_notin_idict b.h15 ⟨_, rfl, fun h => ?_, fun h => ?_⟩
  · rw [z.bv] at h; cases h
  refine evS_nil (evS_cons (ev1_Return (ev_Sub (ev_At (n := 4) (dn := 3) c.X rfl c.cls_cTB b.h4 b.h3 c.A_bv_numbers (by with_reducible walk_at "flook") rfl ?_))))
  walk_at "obj"
  walk_at "loc"
  exact i_idict b.h15 z.bv q
theorem num_old (c : Cx B) (b : BankAt c.cTB fsB β H) (ok : BkOk β) (hl : β.terms.length ≤ 400000) {s : Nat} {v wd : Int} (z : Sz β s wd) (h1 : 1 ≤ wd) (h2 : wd ≤ 4096)
    (q : ∀ (t : Nat) β' H', Mk β (numT s (v.fmod (1 * 2 ^ wd.toNat))) t β' → BankAt c.cTB fsB β' H' → Keep H H' → Q (.int (t : Int)) H') :
    CallC prg w B (d + 2) c.f_TermBank_bv_num [.ref 4, .int v, .int wd] H Q := by
  refine call_def c.F_TermBank_bv_num rfl ?_
  walk_at "vals"
  refine evS_cons (ev1_Assign (fun _ => rfl) (ev_Do c.X rfl rfl (by decide) rfl c.cls_cTB b.h4 b.h3 c.M_TermBank_bv_sort na_bv_sort c.F_TermBank_bv_sort (d' := d + 1) (by walk_at "om") ?_))
  walk_at "obj"
  walk_at "loc"
  refine sort_old c b z h1 h2 ?_
  walk_at "asg"
  refine evS_cons (ev1_Return (ev_Do c.X rfl rfl (by decide) rfl c.cls_cTB b.h4 b.h3 c.M_Bank_make na_make c.F_Bank_make (d' := d + 1) (by walk_at "om") ?_))
  walk_at "obj"
  refine ev_str (ev_Tuple rfl (by decide) ⟨by simp, ?_⟩)
  walk_at "loc"
  refine ev_BinOp ?_
  walk_at "loc"
  refine ev_BinOp (ev_int ?_)
  walk_at "loc"
  have hb1 : Builtin.Int.intBits 1 = 1 := by decide +kernel
  have hp2 : (0 : Int) < 2 ^ wd.toNat := Int.pow_pos (by decide)
  refine w_shl (by walk_at "om") (by rw [hb1]; walk_at "om") ?_
  refine w_mod (by walk_at "om") ?_
  exact make_spec c b mkNsB ok hl (numT s (v.fmod (1 * 2 ^ wd.toNat))) (key_ok _ ok_bvnum rfl) fun t β' H' m b₂ k₂ => q t β' H' m b₂ k₂
theorem is_bits_spec (c : Cx B) {mk kk : Nat} (mt : MkAt c.cBR mk kk H) (b : BankAt c.cTB fsB β H) (hl : β.terms.length ≤ 400000) {t : Nat} {x : T} (ht : β.terms[t]? = some x) (q : Q (.bool (x.op == Str.ofString "bvnum")) H) :
    CallC prg w B (d + 2) c.f_BitsRewriter_is_bits [.ref (mk + 1), .int (t : Int)] H Q := by
  refine call_def c.F_BitsRewriter_is_bits rfl ?_
  walk_at "vals"
  refine evS_cons (ev1_Return (ev_Cmp rfl (ev_Do c.X rfl rfl (by decide) rfl c.cls_cTB b.h4 b.h3 c.M_Bank_op na_op c.F_Bank_op (d' := d + 1) (by walk_at "om") (ev_At c.X rfl c.cls_cBR mt.h2 mt.h1 c.A_bank (by with_reducible walk_at "flook") rfl ?_))))
  walk_at "obj"
  refine ⟨rfl, rfl, ?_⟩
  walk_at "loc"
  exact op_spec c b hl ht (ev_str (w_eqs q))
theorem number_spec (c : Cx B) {mk kk : Nat} (mt : MkAt c.cBR mk kk H) (b : BankAt c.cTB fsB β H) (ok : BkOk β) (hl : β.terms.length ≤ 400000) (hw : β.widths.length ≤ 100000) {t s : Nat} {x : T} {v wd : Int} (ht : β.terms[t]? = some x) (hx : x.sort = (s : Int)) (z : Sz β s wd) (h1 : 1 ≤ wd) (h2 : wd ≤ 4096)
    (q : ∀ (t : Nat) β' H', Mk β (numT s (v.fmod (1 * 2 ^ wd.toNat))) t β' → BankAt c.cTB fsB β' H' → Keep H H' → Q (.int (t : Int)) H') :
    CallC prg w B (d + 3) c.f_BitsRewriter_number [.ref (mk + 1), .int v, .int (t : Int)] H Q := by
  refine call_def c.F_BitsRewriter_number rfl ?_
  walk_at "vals"
  refine evS_cons (ev1_Return (ev_Do c.X rfl rfl (by decide) rfl c.cls_cTB b.h4 b.h3 c.M_TermBank_bv_num na_bv_num c.F_TermBank_bv_num (d' := d + 2) (by walk_at "om") (ev_At c.X rfl c.cls_cBR mt.h2 mt.h1 c.A_bank (by with_reducible walk_at "flook") rfl ?_)))
  walk_at "obj"
  refine ⟨rfl, rfl, ?_⟩
  walk_at "loc"
  refine ev_Do c.X rfl rfl (by decide) rfl c.cls_cTB b.h4 b.h3 c.M_Bank_width na_width c.F_Bank_width (d' := d + 1) (by walk_at "om") (ev_At c.X rfl c.cls_cBR mt.h2 mt.h1 c.A_bank (by with_reducible walk_at "flook") rfl ?_)
  walk_at "obj"
  refine ⟨rfl, rfl, ?_⟩
  walk_at "loc"
  exact width_spec c b hl hw ht ⟨s, hx, z.at_⟩ (num_old c b ok hl z h1 h2 q)
end

/-- one turn of the tower -/
inductive Tn where
  | no
  | ne
  | ad (n : Nat)
  | xo (n : Nat)
noncomputable def Tn.f (full : Nat) : Tn → Nat → Nat
  | .no, h => full - 1 - h
  | .ne, h => (full - h) % full
  | .ad n, h => (h + n) % full
  | .xo n, h => h ^^^ n
noncomputable def Tn.back (full : Nat) : Tn → Nat → Nat
  | .no, v => full - 1 - v
  | .ne, v => (full - v) % full
  | .ad n, v => (v + (full - n)) % full
  | .xo n, v => v ^^^ n
noncomputable def Tn.ok (full : Nat) : Tn → Prop
  | .no => True
  | .ne => True
  | .ad n => n < full
  | .xo n => n < full
/-- the widths of the law -/
noncomputable def IsFull (W full : Nat) : Prop := (W = 2 ∧ full = 4) ∨ (W = 3 ∧ full = 8)
theorem IsFull.pos {W full : Nat} (h : IsFull W full) : 0 < full := by rcases h with ⟨_, rfl⟩ | ⟨_, rfl⟩ <;> decide
theorem xor_back4 : ∀ h < 4, ∀ v < 4, ∀ n < 4, (h ^^^ n = v ↔ h = v ^^^ n) := by decide
theorem xor_back8 : ∀ h < 8, ∀ v < 8, ∀ n < 8, (h ^^^ n = v ↔ h = v ^^^ n) := by decide +kernel
theorem xor_lt4 : ∀ h < 4, ∀ n < 4, h ^^^ n < 4 := by decide
theorem xor_lt8 : ∀ h < 8, ∀ n < 8, h ^^^ n < 8 := by decide
theorem Tn.f_lt {W full : Nat} (F : IsFull W full) {t : Tn} (ok : t.ok full) {h : Nat} (hh : h < full) : t.f full h < full := by
  cases t with
  | no => show full - 1 - h < full; walk_at "om"
  | ne => exact Nat.mod_lt _ F.pos
  | ad n => exact Nat.mod_lt _ F.pos
  | xo n => rcases F with ⟨_, rfl⟩ | ⟨_, rfl⟩; exact xor_lt4 _ hh _ ok; exact xor_lt8 _ hh _ ok
theorem Tn.back_lt {W full : Nat} (F : IsFull W full) {t : Tn} (ok : t.ok full) {h : Nat} (hh : h < full) : t.back full h < full := by
  cases t with
  | no => show full - 1 - h < full; walk_at "om"
  | ne => exact Nat.mod_lt _ F.pos
  | ad n => exact Nat.mod_lt _ F.pos
  | xo n => rcases F with ⟨_, rfl⟩ | ⟨_, rfl⟩; exact xor_lt4 _ hh _ ok; exact xor_lt8 _ hh _ ok
theorem Tn.back_iff {W full : Nat} (F : IsFull W full) {t : Tn} (ok : t.ok full) {h v : Nat} (hh : h < full) (hv : v < full) : t.f full h = v ↔ h = t.back full v := by
  cases t with
  | no => show full - 1 - h = v ↔ h = full - 1 - v; walk_at "om"
  | ne =>
    show (full - h) % full = v ↔ h = (full - v) % full
    rcases F with ⟨_, rfl⟩ | ⟨_, rfl⟩ <;> walk_at "om"
  | ad n =>
    show (h + n) % full = v ↔ h = (v + (full - n)) % full
    have : n < full := ok
    rcases F with ⟨_, rfl⟩ | ⟨_, rfl⟩ <;> walk_at "om"
  | xo n => rcases F with ⟨_, rfl⟩ | ⟨_, rfl⟩; exact xor_back4 _ hh _ hv _ ok; exact xor_back8 _ hh _ hv _ ok
/-- what so many turns make of a value, the outermost first -/
noncomputable def den (full : Nat) : List Tn → Nat → Nat
  | [], h => h
  | t :: l, h => t.f full (den full l h)
theorem den_lt {W full : Nat} (F : IsFull W full) : ∀ {l : List Tn}, (∀ t ∈ l, t.ok full) → ∀ {h : Nat}, h < full → den full l h < full
  | [], _, _, hh => hh
  | t :: l, ok, _, hh => Tn.f_lt F (ok t (.head _)) (den_lt F (fun u hu => ok u (.tail _ hu)) hh)
theorem den_append (full : Nat) : ∀ (l m : List Tn) (h : Nat), den full (l ++ m) h = den full l (den full m h)
  | [], _, _ => rfl
  | t :: l, m, h => congrArg (t.f full) (den_append full l m h)
noncomputable abbrev notTm (s : Int) (u : Int) : T := ⟨Str.ofString "bvnot", [u], s, .i 0⟩
noncomputable abbrev negTm (s : Int) (u : Int) : T := ⟨Str.ofString "bvneg", [u], s, .i 0⟩
noncomputable abbrev addTm (s : Int) (k u : Int) : T := ⟨Str.ofString "bvadd", [k, u], s, .i 0⟩
noncomputable abbrev xorTm (s : Int) (k u : Int) : T := ⟨Str.ofString "bvxor", [k, u], s, .i 0⟩
/-- the tower above x: the storey of the turns l stands at x + l.length -/
inductive Tow (β : Bk) (s : Int) (x : Nat) : List Tn → Prop
  | nil {f : Int} : β.terms[x]? = some (appT s f) → Tow β s x []
  | no {l : List Tn} : Tow β s x l → β.terms[x + (l.length + 1)]? = some (notTm s ((x + l.length : Nat) : Int)) → Tow β s x (.no :: l)
  | ne {l : List Tn} : Tow β s x l → β.terms[x + (l.length + 1)]? = some (negTm s ((x + l.length : Nat) : Int)) → Tow β s x (.ne :: l)
  | ad {l : List Tn} {k n : Nat} : Tow β s x l → β.terms[k]? = some (numT s (n : Int)) → β.terms[x + (l.length + 1)]? = some (addTm s (k : Int) ((x + l.length : Nat) : Int)) → Tow β s x (.ad n :: l)
  | xo {l : List Tn} {k n : Nat} : Tow β s x l → β.terms[k]? = some (numT s (n : Int)) → β.terms[x + (l.length + 1)]? = some (xorTm s (k : Int) ((x + l.length : Nat) : Int)) → Tow β s x (.xo n :: l)
theorem Tow.grow {β β' : Bk} {s : Int} {x a b : Nat} {l : List Tn} (h : Tow β s x l) (g : Grow β β' a b) : Tow β' s x l := by
  induction h with
  | nil e => exact .nil (g.at e)
  | no _ e ih => exact .no ih (g.at e)
  | ne _ e ih => exact .ne ih (g.at e)
  | ad _ e1 e ih => exact .ad ih (g.at e1) (g.at e)
  | xo _ e1 e ih => exact .xo ih (g.at e1) (g.at e)
theorem Tow.top {β : Bk} {s : Int} {x : Nat} {l : List Tn} (h : Tow β s x l) : ∃ y, β.terms[x + l.length]? = some y ∧ y.sort = s ∧ (y.op == Str.ofString "bvnum") = false := by
  have e1 : (Str.ofString "app" == Str.ofString "bvnum") = false := by decide +kernel
  have e2 : (Str.ofString "bvnot" == Str.ofString "bvnum") = false := by decide +kernel
  have e3 : (Str.ofString "bvneg" == Str.ofString "bvnum") = false := by decide +kernel
  have e4 : (Str.ofString "bvadd" == Str.ofString "bvnum") = false := by decide +kernel
  have e5 : (Str.ofString "bvxor" == Str.ofString "bvnum") = false := by decide +kernel
  cases h with
  | nil e => exact ⟨_, e, rfl, e1⟩
  | no _ e => exact ⟨_, e, rfl, e2⟩
  | ne _ e => exact ⟨_, e, rfl, e3⟩
  | ad _ _ e => exact ⟨_, e, rfl, e4⟩
  | xo _ _ e => exact ⟨_, e, rfl, e5⟩

theorem IsFull.pow {W full : Nat} (h : IsFull W full) : (2 : Int) ^ ((W : Int)).toNat = (full : Int) := by rcases h with ⟨rfl, rfl⟩ | ⟨rfl, rfl⟩ <;> decide
theorem not_int {W full v : Nat} (h : IsFull W full) (hv : v < full) : (2 : Int) ^ ((W : Int)).toNat - 1 - (v : Int) = ((Tn.back full .no v : Nat) : Int) := by
  rw [h.pow]; show _ = ((full - 1 - v : Nat) : Int); walk_at "om"
theorem neg_int4 : ∀ v < 4, Builtin.bitAnd (-((v : Nat) : Int)) 3 = (((4 - v) % 4 : Nat) : Int) := by decide +kernel
theorem neg_int8 : ∀ v < 8, Builtin.bitAnd (-((v : Nat) : Int)) 7 = (((8 - v) % 8 : Nat) : Int) := by decide +kernel
theorem neg_intF {W full v : Nat} (h : IsFull W full) (hv : v < full) : Builtin.bitAnd (-(v : Int)) ((2 : Int) ^ ((W : Int)).toNat - 1) = ((Tn.back full .ne v : Nat) : Int) := by
  rw [h.pow]
  rcases h with ⟨rfl, rfl⟩ | ⟨rfl, rfl⟩
  · exact neg_int4 v hv
  · exact neg_int8 v hv
theorem sub_int4 : ∀ v < 4, ∀ n < 4, Builtin.bitAnd (((v : Nat) : Int) - ((n : Nat) : Int)) 3 = (((v + (4 - n)) % 4 : Nat) : Int) := by decide +kernel
theorem sub_int8 : ∀ v < 8, ∀ n < 8, Builtin.bitAnd (((v : Nat) : Int) - ((n : Nat) : Int)) 7 = (((v + (8 - n)) % 8 : Nat) : Int) := by decide +kernel
theorem sub_intF {W full v n : Nat} (h : IsFull W full) (hv : v < full) (hn : n < full) : Builtin.bitAnd ((v : Int) - (n : Int)) ((2 : Int) ^ ((W : Int)).toNat - 1) = ((Tn.back full (.ad n) v : Nat) : Int) := by
  rw [h.pow]
  rcases h with ⟨rfl, rfl⟩ | ⟨rfl, rfl⟩
  · exact sub_int4 v hv n hn
  · exact sub_int8 v hv n hn
theorem xor_int4 : ∀ v < 4, ∀ n < 4, Builtin.bitXor ((v : Nat) : Int) ((n : Nat) : Int) = ((v ^^^ n : Nat) : Int) := by decide +kernel
theorem xor_int8 : ∀ v < 8, ∀ n < 8, Builtin.bitXor ((v : Nat) : Int) ((n : Nat) : Int) = ((v ^^^ n : Nat) : Int) := by decide +kernel
theorem xor_intF {W full v n : Nat} (h : IsFull W full) (hv : v < full) (hn : n < full) : Builtin.bitXor (v : Int) (n : Int) = ((Tn.back full (.xo n) v : Nat) : Int) := by
  rcases h with ⟨rfl, rfl⟩ | ⟨rfl, rfl⟩
  · exact xor_int4 v hv n hn
  · exact xor_int8 v hv n hn
theorem num_intF {W full v : Nat} (h : IsFull W full) (hv : v < full) : ((v : Int)).fmod (1 * 2 ^ ((W : Int)).toNat) = (v : Int) := by
  rw [h.pow, Int.one_mul]
  rw [Int.fmod_eq_emod_of_nonneg _ (by walk_at "om")]
  exact Int.emod_eq_of_lt (by walk_at "om") (by walk_at "om")
theorem kindsE : (([Str.ofString "bvnot", Str.ofString "bvneg"].any (· == Str.ofString "app")) = false ∧ ([Str.ofString "bvnot", Str.ofString "bvneg"].any (· == Str.ofString "bvadd")) = false ∧ ([Str.ofString "bvnot", Str.ofString "bvneg"].any (· == Str.ofString "bvxor")) = false) ∧
  ([Str.ofString "bvnot", Str.ofString "bvneg"].any (· == Str.ofString "bvnot")) = true ∧ ([Str.ofString "bvnot", Str.ofString "bvneg"].any (· == Str.ofString "bvneg")) = true ∧
  ([Str.ofString "bvadd", Str.ofString "bvxor"].any (· == Str.ofString "bvadd")) = true ∧ ([Str.ofString "bvadd", Str.ofString "bvxor"].any (· == Str.ofString "bvxor")) = true ∧ ([Str.ofString "bvadd", Str.ofString "bvxor"].any (· == Str.ofString "app")) = false ∧
  (Str.ofString "app" == Str.ofString "concat") = false ∧ (Str.ofString "app" == Str.ofString "zero_extend") = false ∧ (Str.ofString "app" == Str.ofString "sign_extend") = false ∧ (Str.ofString "app" == Str.ofString "ite") = false ∧ (Str.ofString "bvxor" == Str.ofString "bvadd") = false := by decide +kernel

section
variable {w : World} {B : Heap} {d : Nat} {H : List O} {Q : V → List O → Prop} {β : Bk}
noncomputable abbrev eqTail : List Stmt := bd_BitsRewriter_equal_number.tail
/-- what a call leaves -/
noncomputable def RetOf (Q : V → List O → Prop) : Fl → Vals → List O → Prop := fun fl _ H' => match fl with | .ret v => Q v H' | .next => Q .none H' | _ => False
noncomputable abbrev eqVals (mk : Nat) (v : Int) (t : Nat) (deep : Int) (op : Str) (args : List Int) (wd : Int) : Vals := [some (.ref (mk + 1)), some (.int v), some (.int (t : Int)), some (.int deep), some (.str op), some (.tup (args.map .int)), some (.int wd), none, none, none, none, none, none, none, none, none, none, none, none, none, none, none]
/-- the body, its four names bound -/
noncomputable def EqB (w : World) (B : Heap) (d mk : Nat) (v : Int) (t : Nat) (deep : Int) (H : List O) (Q : V → List O → Prop) : Prop :=
  EvS prg w B nm_BitsRewriter_equal_number d bd_BitsRewriter_equal_number (vals0 nm_BitsRewriter_equal_number [.ref (mk + 1), .int v, .int (t : Int), .int deep]) H (RetOf Q)
theorem EqB.call (c : Cx B) {mk t : Nat} {v deep : Int} (h : EqB w B d mk v t deep H Q) : CallC prg w B (d + 1) c.f_BitsRewriter_equal_number [.ref (mk + 1), .int v, .int (t : Int), .int deep] H Q := call_def c.F0_BitsRewriter_equal_number rfl h
theorem EqB.call0 (c : Cx B) {mk t : Nat} {v : Int} (h : EqB w B d mk v t 0 H Q) : CallC prg w B (d + 1) c.f_BitsRewriter_equal_number [.ref (mk + 1), .int v, .int (t : Int)] H Q := call_def c.F_BitsRewriter_equal_number rfl h
theorem equal_head (c : Cx B) {mk kk : Nat} (mt : MkAt c.cBR mk kk H) (b : BankAt c.cTB fsB β H) (hl : β.terms.length ≤ 400000) (hw : β.widths.length ≤ 100000) {v deep wd : Int} {t : Nat} {x : T} (ht : β.terms[t]? = some x) (hx : HasW β x wd)
    (q : EvS prg w B nm_BitsRewriter_equal_number (d + 2) eqTail (eqVals mk v t deep x.op x.args wd) H (RetOf Q)) :
    EqB w B (d + 2) mk v t deep H Q := by
  unfold EqB
  walk_at "vals"
  refine evS_cons (ev1_AssignTup (xs := [(Str.ofString "kind", _), (Str.ofString "args", _), (Str.ofString "width", _)]) (fun _ => rfl) (fun _ => swapped_or rfl) (ev_Tuple rfl (by decide) (ev_Do c.X rfl rfl (by decide) rfl c.cls_cTB b.h4 b.h3 c.M_Bank_op na_op c.F_Bank_op (d' := d + 1) (by walk_at "om") (ev_At c.X rfl c.cls_cBR mt.h2 mt.h1 c.A_bank (by with_reducible walk_at "flook") rfl ?_))))
  walk_at "obj"
  refine ⟨rfl, rfl, ?_⟩
  walk_at "loc"
  refine op_spec c b hl ht (ev_Do c.X rfl rfl (by decide) rfl c.cls_cTB b.h4 b.h3 c.M_Bank_args na_args c.F_Bank_args (d' := d + 1) (by walk_at "om") (ev_At c.X rfl c.cls_cBR mt.h2 mt.h1 c.A_bank (by with_reducible walk_at "flook") rfl ?_))
  walk_at "obj"
  refine ⟨rfl, rfl, ?_⟩
  walk_at "loc"
  refine args_spec c b hl ht (ev_Do c.X rfl rfl (by decide) rfl c.cls_cTB b.h4 b.h3 c.M_Bank_width na_width c.F_Bank_width (d' := d + 1) (by walk_at "om") (ev_At c.X rfl c.cls_cBR mt.h2 mt.h1 c.A_bank (by with_reducible walk_at "flook") rfl ?_))
  walk_at "obj"
  refine ⟨rfl, rfl, ?_⟩
  walk_at "loc"
  refine width_spec c b hl hw ht hx ⟨by simp, _, rfl, rfl, _, ?_, ?_, q⟩
  · exact .cons (by with_reducible walk_at "put") (.inl rfl) (.cons (by with_reducible walk_at "put") (.inl rfl) (.cons (by with_reducible walk_at "put") (.inl rfl) .nil))
  · exact .cons (by with_reducible walk_at "put") (.inl rfl) (.cons (by with_reducible walk_at "put") (.inl rfl) (.cons (by with_reducible walk_at "put") (.inl rfl) .nil))
end

/-- what equal_number gives: a lower storey held against a number -/
structure EqR (β : Bk) (s : Int) (x full : Nat) (l : List Tn) (v r : Nat) : Prop where
  ex : ∃ (l2 : List Tn) (k v' : Nat), Tow β s x l2 ∧ (∃ l3, l = l3 ++ l2) ∧ β.terms[r]? = some (eqT (if ((x + l2.length : Nat) : Int) < (k : Int) then ((x + l2.length : Nat) : Int) else (k : Int)) (if ((x + l2.length : Nat) : Int) > (k : Int) then ((x + l2.length : Nat) : Int) else (k : Int))) ∧
    β.terms[k]? = some (numT s (v' : Int)) ∧ v' < full ∧ (∀ h, h < full → (den full l2 h = v' ↔ den full l h = v))
section
variable {w : World} {B : Heap} {d : Nat} {H : List O} {Q : V → List O → Prop} {β : Bk}
theorem tow_ne {s : Nat} {x k : Nat} {l : List Tn} {n : Int} (tw : Tow β s x l) (hk : β.terms[k]? = some (numT s n)) : k ≠ x + l.length := by
  rintro rfl
  obtain ⟨y, e, _, h⟩ := tw.top
  rw [e] at hk; cases hk
  simp at h
/-- the call that ends it: bank.eq(self.number(value, b), b) -/
theorem end_call (c : Cx B) {mk kk : Nat} (mt : MkAt c.cBR mk kk H) (b : BankAt c.cTB fsB β H) (ok : BkOk β) (hl : β.terms.length ≤ 300000) (hw : β.widths.length ≤ 90000) {W full x s v : Nat} (F : IsFull W full) (hv : v < full) (z : Sz β s W) {l : List Tn} (tw : Tow β s x l)
    (q : ∀ (r : Nat) β' H', Grow β β' 2 0 → β'.bv = β.bv → BankAt c.cTB fsB β' H' → Keep H H' → EqR β' s x full l v r → Q (.int (r : Int)) H') :
    CallC prg w B (d + 3) c.f_BitsRewriter_number [.ref (mk + 1), .int (v : Int), .int ((x + l.length : Nat) : Int)] H fun kv H₁ => CallC prg w B (d + 2) c.f_BoolBank_eq [.ref 4, kv, .int ((x + l.length : Nat) : Int)] H₁ Q := by
  obtain ⟨y, ey, ys, yn⟩ := tw.top
  have hW : (1 : Int) ≤ (W : Int) ∧ (W : Int) ≤ 4096 := by rcases F with ⟨rfl, _⟩ | ⟨rfl, _⟩ <;> decide
  refine number_spec c mt b ok (by walk_at "om") (by walk_at "om") ey ys z hW.1 hW.2 fun k β₁ H₁ m b₁ k₁ => ?_
  rw [num_intF F hv] at m
  have tw1 := tw.grow m.grow
  have hk := m.at
  have g1 := m.grow.tl
  refine eq_spec c b₁ (m.grow.ok ok) (by walk_at "om") hk (m.grow.at ey) ys (tow_ne tw1 hk) fun r β₂ H₂ g2 e2 h1 hr b₂ k₂ => ?_
  refine q r β₂ H₂ ((m.grow.trans g2).mono (by walk_at "om") (by walk_at "om")) (e2.trans m.bv) b₂ (k₁.trans k₂) ⟨l, k, v, tw1.grow g2, ⟨[], rfl⟩, hr, g2.at hk, hv, fun h _ => Iff.rfl⟩
end

section
variable {w : World} {B : Heap} {d : Nat} {H : List O} {Q : V → List O → Prop} {β : Bk}
theorem equal_deep (c : Cx B) {mk kk : Nat} (mt : MkAt c.cBR mk kk H) (b : BankAt c.cTB fsB β H) (ok : BkOk β) (hl : β.terms.length ≤ 300000) (hw : β.widths.length ≤ 90000) {W full x s v : Nat} (F : IsFull W full) (hv : v < full) (z : Sz β s W) {l : List Tn} (tw : Tow β s x l)
    (q : ∀ (r : Nat) β' H', Grow β β' 2 0 → β'.bv = β.bv → BankAt c.cTB fsB β' H' → Keep H H' → EqR β' s x full l v r → Q (.int (r : Int)) H') :
    EqB w B (d + 3) mk (v : Int) (x + l.length) 50 H Q := by
  obtain ⟨y, ey, ys, yn⟩ := tw.top
  refine equal_head c mt b (by walk_at "om") (by walk_at "om") ey ⟨s, ys, z.at_⟩ ?_
  obtain ⟨tk, gD⟩ := c.G_DEEPEST
  refine evS_cons (ev1_If (evT_Cmp rfl ?_))
  walk_at "loc"
  refine ev_globInt (by with_reducible walk_at "has") gD (w_ge ⟨_, rfl, fun h => ?_, fun h => ?_⟩)
  · refine evS_cons (ev1_Return (ev_Do c.X rfl rfl (by decide) rfl c.cls_cTB b.h4 b.h3 c.M_BoolBank_eq na_eq c.F_BoolBank_eq (d' := d + 2) (by walk_at "om") (ev_At c.X rfl c.cls_cBR mt.h2 mt.h1 c.A_bank (by with_reducible walk_at "flook") rfl ?_)))
    walk_at "obj"
    refine ⟨rfl, rfl, ?_⟩
    refine ev_Do c.X rfl rfl (by decide) rfl c.cls_cBR mt.h2 mt.h1 c.M_BitsRewriter_number (nk_number _) c.F_BitsRewriter_number (d' := d + 3) (by walk_at "om") ?_
    walk_at "obj"
    walk_at "loc"
    walk_at "loc"
    refine (end_call (d := d) c mt b ok hl hw F hv z tw q).mono (Nat.le_refl _) fun kv H₁ h => ?_
    walk_at "loc"
    exact h
  · simp at h
end

section
variable {w : World} {B : Heap} {d : Nat} {H : List O} {Q : V → List O → Prop} {β : Bk}
theorem EqR.up {β : Bk} {s : Int} {x W full v r : Nat} {l : List Tn} {t : Tn} (F : IsFull W full) (ok : ∀ u ∈ t :: l, u.ok full) (hv : v < full) (e : EqR β s x full l (t.back full v) r) : EqR β s x full (t :: l) v r := by
  obtain ⟨l2, k, v', h1, h2, h3, h4, h5, h6⟩ := e.ex
  obtain ⟨l3, h2⟩ := h2
  exact ⟨l2, k, v', h1, ⟨t :: l3, by rw [h2]; rfl⟩, h3, h4, h5, fun h hh => (h6 h hh).trans (Tn.back_iff F (ok t (.head _)) (den_lt F (fun u hu => ok u (.tail _ hu)) hh) hv).symm⟩
theorem equal_step_not (c : Cx B) {mk kk : Nat} (mt : MkAt c.cBR mk kk H) (b : BankAt c.cTB fsB β H) (hl : β.terms.length ≤ 300000) (hw : β.widths.length ≤ 90000) {W full s v t u deep : Nat} (F : IsFull W full) (hv : v < full) (z : Sz β s W) (ht : β.terms[t]? = some (notTm s (u : Int))) (hdp : deep < 50)
    (q : CallC prg w B (d + 3) c.f_BitsRewriter_equal_number [.ref (mk + 1), .int ((Tn.back full .no v : Nat) : Int), .int (u : Int), .int ((deep + 1 : Nat) : Int)] H Q) :
    EqB w B (d + 3) mk (v : Int) t (deep : Int) H Q := by
  have hW : (0 : Int) ≤ (W : Int) ∧ (W : Int) ≤ 4096 := by rcases F with ⟨rfl, _⟩ | ⟨rfl, _⟩ <;> decide
  refine equal_head c mt b (by walk_at "om") (by walk_at "om") ht ⟨s, rfl, z.at_⟩ ?_
  obtain ⟨tk, gD⟩ := c.G_DEEPEST
  refine evS_cons (ev1_If (evT_Cmp rfl ?_))
  walk_at "loc"
  refine ev_globInt (by with_reducible walk_at "has") gD (w_ge ⟨_, rfl, fun h => ?_, fun h => ?_⟩)
  · simp at h; walk_at "om"
  refine evS_nil (evS_cons (ev1_If (evT_Cmp rfl ?_)))
  walk_at "loc"
  refine ev_Tuple rfl (by decide) (ev_str (ev_str ⟨by simp, ?_⟩))
  refine w_in_strs (xs := [Str.ofString "bvnot", Str.ofString "bvneg"]) ⟨_, rfl, fun _ => ?_, fun h => ?_⟩
  · refine evS_cons (ev1_Return (ev_Do c.X rfl rfl (by decide) rfl c.cls_cBR mt.h2 mt.h1 c.M_BitsRewriter_equal_number (nk_equal_number _) c.F0_BitsRewriter_equal_number (d' := d + 3) (by walk_at "om") ?_))
    walk_at "obj"
    refine ev_Fn rfl (by with_reducible walk_at "has") c.G_one_value c.F_one_value (d' := d + 2) (by walk_at "om") ?_
    walk_at "loc"
    walk_at "loc"
    walk_at "loc"
    refine one_not_spec c hW.1 hW.2 ?_
    rw [not_int F hv]
    refine ev_Sub ?_
    walk_at "loc"
    refine ev_int (i_tup (by decide) (by decide) rfl (ev_BinOp ?_))
    walk_at "loc"
    refine ev_int (w_add ?_)
    exact q
  · rw [kindsE.2.1] at h; cases h
theorem equal_step_neg (c : Cx B) {mk kk : Nat} (mt : MkAt c.cBR mk kk H) (b : BankAt c.cTB fsB β H) (hl : β.terms.length ≤ 300000) (hw : β.widths.length ≤ 90000) {W full s v t u deep : Nat} (F : IsFull W full) (hv : v < full) (z : Sz β s W) (ht : β.terms[t]? = some (negTm s (u : Int))) (hdp : deep < 50)
    (q : CallC prg w B (d + 3) c.f_BitsRewriter_equal_number [.ref (mk + 1), .int ((Tn.back full .ne v : Nat) : Int), .int (u : Int), .int ((deep + 1 : Nat) : Int)] H Q) :
    EqB w B (d + 3) mk (v : Int) t (deep : Int) H Q := by
  have hW : (0 : Int) ≤ (W : Int) ∧ (W : Int) ≤ 4096 := by rcases F with ⟨rfl, _⟩ | ⟨rfl, _⟩ <;> decide
  refine equal_head c mt b (by walk_at "om") (by walk_at "om") ht ⟨s, rfl, z.at_⟩ ?_
  obtain ⟨tk, gD⟩ := c.G_DEEPEST
  refine evS_cons (ev1_If (evT_Cmp rfl ?_))
  walk_at "loc"
  refine ev_globInt (by with_reducible walk_at "has") gD (w_ge ⟨_, rfl, fun h => ?_, fun h => ?_⟩)
  · simp at h; walk_at "om"
  refine evS_nil (evS_cons (ev1_If (evT_Cmp rfl ?_)))
  walk_at "loc"
  refine ev_Tuple rfl (by decide) (ev_str (ev_str ⟨by simp, ?_⟩))
  refine w_in_strs (xs := [Str.ofString "bvnot", Str.ofString "bvneg"]) ⟨_, rfl, fun _ => ?_, fun h => ?_⟩
  · refine evS_cons (ev1_Return (ev_Do c.X rfl rfl (by decide) rfl c.cls_cBR mt.h2 mt.h1 c.M_BitsRewriter_equal_number (nk_equal_number _) c.F0_BitsRewriter_equal_number (d' := d + 3) (by walk_at "om") ?_))
    walk_at "obj"
    refine ev_Fn rfl (by with_reducible walk_at "has") c.G_one_value c.F_one_value (d' := d + 2) (by walk_at "om") ?_
    walk_at "loc"
    walk_at "loc"
    walk_at "loc"
    refine one_neg_spec c hW.1 hW.2 ?_
    rw [neg_intF F hv]
    refine ev_Sub ?_
    walk_at "loc"
    refine ev_int (i_tup (by decide) (by decide) rfl (ev_BinOp ?_))
    walk_at "loc"
    refine ev_int (w_add ?_)
    exact q
  · rw [kindsE.2.2.1] at h; cases h
end

section
variable {w : World} {B : Heap} {d : Nat} {H : List O} {Q : V → List O → Prop} {β : Bk}
theorem isnum : (Str.ofString "bvnum" == Str.ofString "bvnum") = true := by simp
theorem equal_step_add (c : Cx B) {mk kk : Nat} (mt : MkAt c.cBR mk kk H) (b : BankAt c.cTB fsB β H) (hl : β.terms.length ≤ 300000) (hw : β.widths.length ≤ 90000) {W full s v t u k n deep : Nat} (F : IsFull W full) (hv : v < full) (hn : n < full) (z : Sz β s W) (hk : β.terms[k]? = some (numT s (n : Int))) (ht : β.terms[t]? = some (addTm s (k : Int) (u : Int))) (hdp : deep < 50)
    (q : CallC prg w B (d + 3) c.f_BitsRewriter_equal_number [.ref (mk + 1), .int ((Tn.back full (.ad n) v : Nat) : Int), .int (u : Int), .int ((deep + 1 : Nat) : Int)] H Q) :
    EqB w B (d + 3) mk (v : Int) t (deep : Int) H Q := by
  have hW : (0 : Int) ≤ (W : Int) ∧ (W : Int) ≤ 4096 := by rcases F with ⟨rfl, _⟩ | ⟨rfl, _⟩ <;> decide
  refine equal_head c mt b (by walk_at "om") (by walk_at "om") ht ⟨s, rfl, z.at_⟩ ?_
  obtain ⟨tk, gD⟩ := c.G_DEEPEST
  refine evS_cons (ev1_If (evT_Cmp rfl ?_))
  walk_at "loc"
  refine ev_globInt (by with_reducible walk_at "has") gD (w_ge ⟨_, rfl, fun h => ?_, fun h => ?_⟩)
  · simp at h; walk_at "om"
  refine evS_nil (evS_cons (ev1_If (evT_Cmp rfl ?_)))
  walk_at "loc"
  refine ev_Tuple rfl (by decide) (ev_str (ev_str ⟨by simp, ?_⟩))
  refine w_in_strs (xs := [Str.ofString "bvnot", Str.ofString "bvneg"]) ⟨_, rfl, fun h => ?_, fun _ => ?_⟩
  · rw [kindsE.1.2.1] at h; cases h
  refine evS_nil (evS_cons (ev1_If (evT_And (evT_Cmp rfl ?_))))
  walk_at "loc"
  refine ev_Tuple rfl (by decide) (ev_str (ev_str ⟨by simp, ?_⟩))
  refine w_in_strs (xs := [Str.ofString "bvadd", Str.ofString "bvxor"]) ⟨_, rfl, fun _ => ?_, fun h => ?_⟩
  · refine evT_plain (fun _ _ => rfl) (ev_Do c.X rfl rfl (by decide) rfl c.cls_cBR mt.h2 mt.h1 c.M_BitsRewriter_is_bits (nk_is_bits _) c.F_BitsRewriter_is_bits (d' := d + 2) (by walk_at "om") ?_)
    walk_at "obj"
    refine ev_Sub ?_
    walk_at "loc"
    refine ev_int (i_tup (by decide) (by decide) rfl ?_)
    refine is_bits_spec c mt b (by walk_at "om") hk ?_
    refine wtr_bool ⟨fun _ => ⟨fun _ => ?_, fun h => nomatch h⟩, fun h => absurd (isnum.symm.trans h) Bool.noConfusion⟩
    refine evS_cons (ev1_Assign (fun _ => rfl) (ev_IfExp (evT_Cmp rfl ?_)))
    walk_at "loc"
    refine ev_str (w_eqs ⟨_, rfl, fun _ => ?_, fun h => ?_⟩)
    · refine ev_str ?_
      walk_at "asg"
      refine evS_cons (ev1_Return (ev_Do c.X rfl rfl (by decide) rfl c.cls_cBR mt.h2 mt.h1 c.M_BitsRewriter_equal_number (nk_equal_number _) c.F0_BitsRewriter_equal_number (d' := d + 3) (by walk_at "om") ?_))
      walk_at "obj"
      refine ev_Fn rfl (by with_reducible walk_at "has") c.G_two_value c.F_two_value (d' := d + 2) (by walk_at "om") ?_
      walk_at "loc"
      walk_at "loc"
      refine ev_Do c.X rfl rfl (by decide) rfl c.cls_cTB b.h4 b.h3 c.M_Bank_data na_data c.F_Bank_data (d' := d + 1) (by walk_at "om") (ev_At c.X rfl c.cls_cBR mt.h2 mt.h1 c.A_bank (by with_reducible walk_at "flook") rfl ?_)
      walk_at "obj"
      refine ⟨rfl, rfl, ev_Sub ?_⟩
      walk_at "loc"
      refine ev_int (i_tup (by decide) (by decide) rfl ?_)
      refine data_spec c b (by walk_at "om") hk ?_
      walk_at "loc"
      refine two_sub_spec c hW.1 hW.2 ?_
      rw [sub_intF F hv hn]
      refine ev_Sub ?_
      walk_at "loc"
      refine ev_int (i_tup (by decide) (by decide) rfl (ev_BinOp ?_))
      walk_at "loc"
      refine ev_int (w_add ?_)
      exact q
    · simp at h
  · rw [kindsE.2.2.2.1] at h; cases h
theorem equal_step_xor (c : Cx B) {mk kk : Nat} (mt : MkAt c.cBR mk kk H) (b : BankAt c.cTB fsB β H) (hl : β.terms.length ≤ 300000) (hw : β.widths.length ≤ 90000) {W full s v t u k n deep : Nat} (F : IsFull W full) (hv : v < full) (hn : n < full) (z : Sz β s W) (hk : β.terms[k]? = some (numT s (n : Int))) (ht : β.terms[t]? = some (xorTm s (k : Int) (u : Int))) (hdp : deep < 50)
    (q : CallC prg w B (d + 3) c.f_BitsRewriter_equal_number [.ref (mk + 1), .int ((Tn.back full (.xo n) v : Nat) : Int), .int (u : Int), .int ((deep + 1 : Nat) : Int)] H Q) :
    EqB w B (d + 3) mk (v : Int) t (deep : Int) H Q := by
  have hW : (0 : Int) ≤ (W : Int) ∧ (W : Int) ≤ 4096 := by rcases F with ⟨rfl, _⟩ | ⟨rfl, _⟩ <;> decide
  refine equal_head c mt b (by walk_at "om") (by walk_at "om") ht ⟨s, rfl, z.at_⟩ ?_
  obtain ⟨tk, gD⟩ := c.G_DEEPEST
  refine evS_cons (ev1_If (evT_Cmp rfl ?_))
  walk_at "loc"
  refine ev_globInt (by with_reducible walk_at "has") gD (w_ge ⟨_, rfl, fun h => ?_, fun h => ?_⟩)
  · simp at h; walk_at "om"
  refine evS_nil (evS_cons (ev1_If (evT_Cmp rfl ?_)))
  walk_at "loc"
  refine ev_Tuple rfl (by decide) (ev_str (ev_str ⟨by simp, ?_⟩))
  refine w_in_strs (xs := [Str.ofString "bvnot", Str.ofString "bvneg"]) ⟨_, rfl, fun h => ?_, fun _ => ?_⟩
  · rw [kindsE.1.2.2] at h; cases h
  refine evS_nil (evS_cons (ev1_If (evT_And (evT_Cmp rfl ?_))))
  walk_at "loc"
  refine ev_Tuple rfl (by decide) (ev_str (ev_str ⟨by simp, ?_⟩))
  refine w_in_strs (xs := [Str.ofString "bvadd", Str.ofString "bvxor"]) ⟨_, rfl, fun _ => ?_, fun h => ?_⟩
  · refine evT_plain (fun _ _ => rfl) (ev_Do c.X rfl rfl (by decide) rfl c.cls_cBR mt.h2 mt.h1 c.M_BitsRewriter_is_bits (nk_is_bits _) c.F_BitsRewriter_is_bits (d' := d + 2) (by walk_at "om") ?_)
    walk_at "obj"
    refine ev_Sub ?_
    walk_at "loc"
    refine ev_int (i_tup (by decide) (by decide) rfl ?_)
    refine is_bits_spec c mt b (by walk_at "om") hk ?_
    refine wtr_bool ⟨fun _ => ⟨fun _ => ?_, fun h => nomatch h⟩, fun h => absurd (isnum.symm.trans h) Bool.noConfusion⟩
    refine evS_cons (ev1_Assign (fun _ => rfl) (ev_IfExp (evT_Cmp rfl ?_)))
    walk_at "loc"
    refine ev_str (w_eqs ⟨_, rfl, fun h => ?_, fun _ => ?_⟩)
    · rw [kindsE.2.2.2.2.2.2.2.2.2.2] at h; cases h
    · refine ev_str ?_
      walk_at "asg"
      refine evS_cons (ev1_Return (ev_Do c.X rfl rfl (by decide) rfl c.cls_cBR mt.h2 mt.h1 c.M_BitsRewriter_equal_number (nk_equal_number _) c.F0_BitsRewriter_equal_number (d' := d + 3) (by walk_at "om") ?_))
      walk_at "obj"
      refine ev_Fn rfl (by with_reducible walk_at "has") c.G_two_value c.F_two_value (d' := d + 2) (by walk_at "om") ?_
      walk_at "loc"
      walk_at "loc"
      refine ev_Do c.X rfl rfl (by decide) rfl c.cls_cTB b.h4 b.h3 c.M_Bank_data na_data c.F_Bank_data (d' := d + 1) (by walk_at "om") (ev_At c.X rfl c.cls_cBR mt.h2 mt.h1 c.A_bank (by with_reducible walk_at "flook") rfl ?_)
      walk_at "obj"
      refine ⟨rfl, rfl, ev_Sub ?_⟩
      walk_at "loc"
      refine ev_int (i_tup (by decide) (by decide) rfl ?_)
      refine data_spec c b (by walk_at "om") hk ?_
      walk_at "loc"
      refine two_xor_spec c ?_
      rw [xor_intF F hv hn]
      refine ev_Sub ?_
      walk_at "loc"
      refine ev_int (i_tup (by decide) (by decide) rfl (ev_BinOp ?_))
      walk_at "loc"
      refine ev_int (w_add ?_)
      exact q
  · rw [kindsE.2.2.2.2.1] at h; cases h
end

section
variable {w : World} {B : Heap} {d : Nat} {H : List O} {Q : V → List O → Prop} {β : Bk}
theorem equal_base (c : Cx B) {mk kk : Nat} (mt : MkAt c.cBR mk kk H) (b : BankAt c.cTB fsB β H) (ok : BkOk β) (hl : β.terms.length ≤ 300000) (hw : β.widths.length ≤ 90000) {W full x s v deep : Nat} {f : Int} (F : IsFull W full) (hv : v < full) (z : Sz β s W) (hx : β.terms[x]? = some (appT s f)) (hdp : deep < 50)
    (q : ∀ (r : Nat) β' H', Grow β β' 2 0 → β'.bv = β.bv → BankAt c.cTB fsB β' H' → Keep H H' → EqR β' s x full [] v r → Q (.int (r : Int)) H') :
    EqB w B (d + 3) mk (v : Int) (x) (deep : Int) H Q := by
  obtain ⟨⟨k1, -, -⟩, -, -, -, -, k2, k3, k4, k5, k6, -⟩ := kindsE
  refine equal_head c mt b (by walk_at "om") (by walk_at "om") hx ⟨s, rfl, z.at_⟩ ?_
  obtain ⟨tk, gD⟩ := c.G_DEEPEST
  refine evS_cons (ev1_If (evT_Cmp rfl ?_))
  walk_at "loc"
  refine ev_globInt (by with_reducible walk_at "has") gD (w_ge ⟨_, rfl, fun h => ?_, fun h => ?_⟩)
  · simp at h; walk_at "om"
  refine evS_nil (evS_cons (ev1_If (evT_Cmp rfl ?_)))
  walk_at "loc"
  refine ev_Tuple rfl (by decide) (ev_str (ev_str ⟨by simp, ?_⟩))
  refine w_in_strs (xs := [Str.ofString "bvnot", Str.ofString "bvneg"]) ⟨_, rfl, fun h => ?_, fun _ => ?_⟩
  · rw [k1] at h; cases h
  refine evS_nil (evS_cons (ev1_If (evT_And (evT_Cmp rfl ?_))))
  walk_at "loc"
  refine ev_Tuple rfl (by decide) (ev_str (ev_str ⟨by simp, ?_⟩))
  refine w_in_strs (xs := [Str.ofString "bvadd", Str.ofString "bvxor"]) ⟨_, rfl, fun h => ?_, fun _ => ⟨(fun h => nomatch h), fun _ => ?_⟩⟩
  · rw [k2] at h; cases h
  refine evS_nil (evS_cons (ev1_If (evT_Cmp rfl ?_)))
  walk_at "loc"
  refine ev_str (w_eqs ⟨_, rfl, fun h => ?_, fun _ => ?_⟩)
  · rw [k3] at h; cases h
  refine evS_nil (evS_cons (ev1_If (evT_Cmp rfl ?_)))
  walk_at "loc"
  refine ev_str (w_eqs ⟨_, rfl, fun h => ?_, fun _ => ?_⟩)
  · rw [k4] at h; cases h
  refine evS_nil (evS_cons (ev1_If (evT_Cmp rfl ?_)))
  walk_at "loc"
  refine ev_str (w_eqs ⟨_, rfl, fun h => ?_, fun _ => ?_⟩)
  · rw [k5] at h; cases h
  refine evS_nil (evS_cons (ev1_If (evT_Cmp rfl ?_)))
  walk_at "loc"
  refine ev_str (w_eqs ⟨_, rfl, fun h => ?_, fun _ => ?_⟩)
  · rw [k6] at h; cases h
  refine evS_nil (evS_cons (ev1_Return (ev_Do c.X rfl rfl (by decide) rfl c.cls_cTB b.h4 b.h3 c.M_BoolBank_eq na_eq c.F_BoolBank_eq (d' := d + 2) (by walk_at "om") (ev_At c.X rfl c.cls_cBR mt.h2 mt.h1 c.A_bank (by with_reducible walk_at "flook") rfl ?_))))
  walk_at "obj"
  refine ⟨rfl, rfl, ?_⟩
  refine ev_Do c.X rfl rfl (by decide) rfl c.cls_cBR mt.h2 mt.h1 c.M_BitsRewriter_number (nk_number _) c.F_BitsRewriter_number (d' := d + 3) (by walk_at "om") ?_
  walk_at "obj"
  walk_at "loc"
  walk_at "loc"
  refine (end_call (d := d) (l := []) c mt b ok hl hw F hv z (.nil hx) q).mono (Nat.le_refl _) fun kv H₁ h => ?_
  walk_at "loc"
  exact h
/-- equal_number at a storey of the tower -/
theorem equal_spec (c : Cx B) {mk kk : Nat} (mt : MkAt c.cBR mk kk H) (b : BankAt c.cTB fsB β H) (ok : BkOk β) (hl : β.terms.length ≤ 300000) (hw : β.widths.length ≤ 90000) {W full x s : Nat} (F : IsFull W full) (z : Sz β s W) : ∀ (n deep v : Nat) (l : List Tn) (Q : V → List O → Prop), deep + n = 50 → v < full → Tow β s x l → (∀ t ∈ l, t.ok full) →
    (∀ (r : Nat) β' H', Grow β β' 2 0 → β'.bv = β.bv → BankAt c.cTB fsB β' H' → Keep H H' → EqR β' s x full l v r → Q (.int (r : Int)) H') →
    EqB w B (d + n + 3) mk (v : Int) (x + l.length) (deep : Int) H Q
  | 0, deep, v, l, Q, hd, hv, tw, _, q => by
    obtain rfl : deep = 50 := by walk_at "om"
    exact equal_deep c mt b ok hl hw F hv z tw q
  | n + 1, deep, v, l, Q, hd, hv, tw, tok, q => by
    have hdp : deep < 50 := by walk_at "om"
    cases tw with
    | nil hx => exact equal_base (d := d + n + 1) c mt b ok hl hw F hv z hx hdp q
    | no tw ht => exact equal_step_not (d := d + n + 1) c mt b hl hw F hv z ht hdp (EqB.call c (equal_spec c mt b ok hl hw F z n (deep + 1) _ _ Q (by walk_at "om") (Tn.back_lt F (tok _ (.head _)) hv) tw (fun u hu => tok u (.tail _ hu)) fun r β' H' g eb b' k e => q r β' H' g eb b' k (e.up F tok hv)))
    | ne tw ht => exact equal_step_neg (d := d + n + 1) c mt b hl hw F hv z ht hdp (EqB.call c (equal_spec c mt b ok hl hw F z n (deep + 1) _ _ Q (by walk_at "om") (Tn.back_lt F (tok _ (.head _)) hv) tw (fun u hu => tok u (.tail _ hu)) fun r β' H' g eb b' k e => q r β' H' g eb b' k (e.up F tok hv)))
    | ad tw hk ht => exact equal_step_add (d := d + n + 1) c mt b hl hw F hv (tok _ (.head _)) z hk ht hdp (EqB.call c (equal_spec c mt b ok hl hw F z n (deep + 1) _ _ Q (by walk_at "om") (Tn.back_lt F (tok _ (.head _)) hv) tw (fun u hu => tok u (.tail _ hu)) fun r β' H' g eb b' k e => q r β' H' g eb b' k (e.up F tok hv)))
    | xo tw hk ht => exact equal_step_xor (d := d + n + 1) c mt b hl hw F hv (tok _ (.head _)) z hk ht hdp (EqB.call c (equal_spec c mt b ok hl hw F z n (deep + 1) _ _ Q (by walk_at "om") (Tn.back_lt F (tok _ (.head _)) hv) tw (fun u hu => tok u (.tail _ hu)) fun r β' H' g eb b' k e => q r β' H' g eb b' k (e.up F tok hv)))
end

/-- all but the bank's own and some more stands -/
structure KB (bad : List Nat) (H H' : List O) : Prop where
  len : H.length ≤ H'.length
  at_ : ∀ i, (i < 5 ∨ 15 < i) → i ∉ bad → ∀ o, H[i]? = some o → H'[i]? = some o
theorem KB.refl (bad : List Nat) (H : List O) : KB bad H H := ⟨Nat.le_refl _, fun _ _ _ _ e => e⟩
theorem KB.trans {bad : List Nat} {H H' H'' : List O} (x : KB bad H H') (y : KB bad H' H'') : KB bad H H'' := ⟨Nat.le_trans x.len y.len, fun i h n o e => y.at_ i h n o (x.at_ i h n o e)⟩
theorem KB.mono {bad bad' : List Nat} {H H' : List O} (x : KB bad H H') (h : ∀ i ∈ bad, i ∈ bad') : KB bad' H H' := ⟨x.len, fun i hi n o e => x.at_ i hi (fun q => n (h i q)) o e⟩
theorem Keep.kb {bad : List Nat} {H H' : List O} (x : Keep H H') : KB bad H H' := ⟨x.len, fun i h _ o e => x.at_ i h o e⟩
theorem KB.app {bad : List Nat} {H l : List O} : KB bad H (H ++ l) := ⟨by simp, fun i _ _ o e => app_l e⟩
theorem Keep.app {H l : List O} : Keep H (H ++ l) := ⟨by simp, fun i _ o e => app_l e⟩
theorem KB.set {bad : List Nat} {H : List O} {i : Nat} {x : O} (h : i ∈ bad) : KB bad H (H.set i x) := ⟨by simp, fun j _ hn o e => set_ne e (fun q => hn (q ▸ h))⟩
theorem MkAt.kb {C : Addr} {m k : Nat} {bad : List Nat} {H H' : List O} (x : MkAt C m k H) (kp : KB bad H H') (h1 : m ∉ bad) (h2 : m + 1 ∉ bad) : MkAt C m k H' := ⟨x.big, kp.at_ _ (.inr x.big) h1 _ x.h1, kp.at_ _ (.inr (by have := x.big; walk_at "om")) h2 _ x.h2⟩
/-- a change elsewhere leaves the bank -/
theorem BankAt.set {C : Addr} {fs : List (Str × V)} {β : Bk} {H : List O} {i : Nat} {x : O} (b : BankAt C fs β H) (h : i < 3 ∨ 15 < i) : BankAt C fs β (H.set i x) :=
  ⟨set_ne b.h3 (by walk_at "om"), set_ne b.h4 (by walk_at "om"), set_ne b.h5 (by walk_at "om"), set_ne b.h6 (by walk_at "om"), set_ne b.h7 (by walk_at "om"), set_ne b.h8 (by walk_at "om"), set_ne b.h9 (by walk_at "om"), set_ne b.h10 (by walk_at "om"), set_ne b.h11 (by walk_at "om"), set_ne b.h12 (by walk_at "om"), set_ne b.h13 (by walk_at "om"), set_ne b.h14 (by walk_at "om"), set_ne b.h15 (by walk_at "om")⟩
theorem BankAt.app {C : Addr} {fs : List (Str × V)} {β : Bk} {H l : List O} (b : BankAt C fs β H) : BankAt C fs β (H ++ l) :=
  ⟨app_l b.h3, app_l b.h4, app_l b.h5, app_l b.h6, app_l b.h7, app_l b.h8, app_l b.h9, app_l b.h10, app_l b.h11, app_l b.h12, app_l b.h13, app_l b.h14, app_l b.h15⟩
theorem BankAt.big {C : Addr} {fs : List (Str × V)} {β : Bk} {H : List O} (b : BankAt C fs β H) : 15 < H.length := (List.getElem?_eq_some_iff.mp b.h15).1

/-- the cells and the place among them -/
structure Tin (cells : List Int) (k : Nat) (H : List O) : Prop where
  h1 : H[1]? = some (.list (cells.map .int))
  h2 : H[2]? = some (.list [.ref 1, .int (k : Int)])
  len : cells.length ≤ 1000
theorem Tin.kb {cells : List Int} {k : Nat} {bad : List Nat} {H H' : List O} (x : Tin cells k H) (kp : KB bad H H') (h1 : 1 ∉ bad) (h2 : 2 ∉ bad) : Tin cells k H' := ⟨kp.at_ _ (.inl (by decide)) h1 _ x.h1, kp.at_ _ (.inl (by decide)) h2 _ x.h2, x.len⟩
theorem Tin.keep {cells : List Int} {k : Nat} {H H' : List O} (x : Tin cells k H) (kp : Keep H H') : Tin cells k H' := ⟨kp.at_ _ (.inl (by decide)) _ x.h1, kp.at_ _ (.inl (by decide)) _ x.h2, x.len⟩
theorem bits_small {x : Int} (h : x.natAbs < 2 ^ 62) : Builtin.Int.intBits x ≤ 64 := by
  unfold Builtin.Int.intBits
  split
  · walk_at "om"
  · rename_i h0
    have hx : x.natAbs ≠ 0 := by simp at h0; walk_at "om"
    have := (Nat.log2_lt hx).mpr h
    walk_at "om"

section
variable {w : World} {B : Heap} {d : Nat} {H : List O} {Q : V → List O → Prop} {β : Bk}

theorem draw_spec (c : Cx B) {cells : List Int} {k : Nat} {many : Int} (t : Tin cells k H) (hk : k ≤ 10000) (hm : 1 ≤ many)
    (q : ∀ (r : Nat) H', (r : Int) < many → Tin cells (k + 1) H' → (∃ o, H' = H.set 2 o) → Q (.int (r : Int)) H') : CallC prg w B (d + 1) c.f_law_draw [.ref 2, .int many] H Q := by
  refine call_def c.F_law_draw rfl ?_
  walk_at "vals"
  refine evS_cons (ev1_AssignUnp (xs := [(Str.ofString "cells", _), (Str.ofString "spot", _)]) (fun _ => rfl) (fun _ => rfl) ?_)
  walk_at "loc"
  refine ⟨2, _, rfl, t.h2, rfl, [some (.ref 2), some (.int many), some (.ref 1), some (.int (k : Int)), none], ?_, ?_⟩
  · exact .cons (by with_reducible walk_at "put") (.inl rfl) (.cons (by with_reducible walk_at "put") (.inl rfl) .nil)
  refine evS_cons (ev1_AssignSub (fun _ => rfl) (ev_BinOp ?_))
  walk_at "loc"
  refine ev_int (w_add ?_)
  walk_at "loc"
  refine ev_int (s_list t.h2 (by decide) (by simp) (by simp) ?_)
  have e2 : ([V.ref 1, V.int (k : Int)].set (Int.toNat 1) (.int ((k : Int) + 1))) = [.ref 1, .int ((k + 1 : Nat) : Int)] := rfl
  rw [e2]
  have t2 : Tin cells (k + 1) (H.set 2 (.list [.ref 1, .int ((k + 1 : Nat) : Int)])) := ⟨set_ne t.h1 (by decide), set_eq t.h2, t.len⟩
  have fin : ∀ x : Int, Q (.int (x.fmod many)) (H.set 2 (.list [.ref 1, .int ((k + 1 : Nat) : Int)])) := fun x => by
    have h0 := Int.fmod_nonneg_of_pos x (by walk_at "om" : 0 < many)
    have h1 := Int.fmod_lt_of_pos x (by walk_at "om" : 0 < many)
    obtain ⟨r, hr⟩ := Int.eq_ofNat_of_zero_le h0
    rw [hr]
    exact q r _ (by walk_at "om") t2 ⟨_, rfl⟩
  refine evS_cons (ev1_Return (ev_BinOp (ev_IfExp (evT_Cmp rfl ?_))))
  walk_at "loc"
  refine ev_Bi rfl (by with_reducible walk_at "has") c.U_len ?_
  walk_at "loc"
  refine c_len_list t2.h1 (by simp; have := t.len; walk_at "om") (w_lt ⟨_, rfl, fun h => ?_, fun h => ?_⟩)
  · have hl := t.len
    have hlt : k < cells.length := by simp at h; walk_at "om"
    refine ev_Sub ?_
    walk_at "loc"
    walk_at "loc"
    refine i_list t2.h1 (by omega) (by omega) (by rw [tn, List.getElem?_map, List.getElem?_eq_getElem hlt]; rfl) ?_
    walk_at "loc"
    exact w_mod (by walk_at "om") (fin _)
  · refine ev_BinOp (ev_BinOp (ev_BinOp (ev_BinOp (ev_int ?_))))
    walk_at "loc"
    refine w_mul (IntMulOk.of_left (bits_small (by decide))) ?_
    walk_at "loc"
    refine w_mul (IntMulOk.of_left (bits_small (by walk_at "om"))) (ev_BinOp (ev_int ?_))
    walk_at "loc"
    refine w_mul (IntMulOk.of_left (bits_small (by decide))) (w_add (ev_int (w_add ?_)))
    walk_at "loc"
    exact w_mod (by walk_at "om") (fin _)
end

/-- all but some stands -/
structure KX (bad : List Nat) (H H' : List O) : Prop where
  len : H.length ≤ H'.length
  at_ : ∀ i, i ∉ bad → ∀ o, H[i]? = some o → H'[i]? = some o
theorem KX.refl (bad : List Nat) (H : List O) : KX bad H H := ⟨Nat.le_refl _, fun _ _ _ e => e⟩
theorem KX.trans {bad : List Nat} {H H' H'' : List O} (x : KX bad H H') (y : KX bad H' H'') : KX bad H H'' := ⟨Nat.le_trans x.len y.len, fun i n o e => y.at_ i n o (x.at_ i n o e)⟩
theorem KX.mono {bad bad' : List Nat} {H H' : List O} (x : KX bad H H') (h : ∀ i ∈ bad, i ∈ bad') : KX bad' H H' := ⟨x.len, fun i n o e => x.at_ i (fun q => n (h i q)) o e⟩
theorem KX.app {bad : List Nat} {H l : List O} : KX bad H (H ++ l) := ⟨by simp, fun i _ o e => app_l e⟩
theorem KX.set {bad : List Nat} {H : List O} {i : Nat} {x : O} (h : i ∈ bad) : KX bad H (H.set i x) := ⟨by simp, fun j hn o e => set_ne e (fun q => hn (q ▸ h))⟩
theorem KX.drop {bad : List Nat} {L : Nat} {H H' : List O} (x : KX (L :: bad) H H') (h : H.length ≤ L) : KX bad H H' :=
  ⟨x.len, fun i hi o e => x.at_ i (fun q => by
    rcases List.mem_cons.mp q with q | q
    · have := (List.getElem?_eq_some_iff.mp e).1; walk_at "om"
    · exact hi q) o e⟩
theorem KX.kb {bad : List Nat} {H H' : List O} (x : KX bad H H') : KB bad H H' := ⟨x.len, fun i _ n o e => x.at_ i n o e⟩
theorem Tin.kx {cells : List Int} {k : Nat} {bad : List Nat} {H H' : List O} (x : Tin cells k H) (kp : KX bad H H') (h1 : 1 ∉ bad) (h2 : 2 ∉ bad) : Tin cells k H' := ⟨kp.at_ _ h1 _ x.h1, kp.at_ _ h2 _ x.h2, x.len⟩
theorem BankAt.kx {C : Addr} {fs : List (Str × V)} {β : Bk} {bad : List Nat} {H H' : List O} (b : BankAt C fs β H) (kp : KX bad H H') (h : ∀ i ∈ bad, i < 3 ∨ 15 < i) : BankAt C fs β H' := by
  have n : ∀ i, 3 ≤ i → i ≤ 15 → i ∉ bad := fun i a c q => by have := h i q; walk_at "om"
  exact ⟨kp.at_ _ (n _ (by decide) (by decide)) _ b.h3, kp.at_ _ (n _ (by decide) (by decide)) _ b.h4, kp.at_ _ (n _ (by decide) (by decide)) _ b.h5, kp.at_ _ (n _ (by decide) (by decide)) _ b.h6, kp.at_ _ (n _ (by decide) (by decide)) _ b.h7, kp.at_ _ (n _ (by decide) (by decide)) _ b.h8, kp.at_ _ (n _ (by decide) (by decide)) _ b.h9, kp.at_ _ (n _ (by decide) (by decide)) _ b.h10, kp.at_ _ (n _ (by decide) (by decide)) _ b.h11, kp.at_ _ (n _ (by decide) (by decide)) _ b.h12, kp.at_ _ (n _ (by decide) (by decide)) _ b.h13, kp.at_ _ (n _ (by decide) (by decide)) _ b.h14, kp.at_ _ (n _ (by decide) (by decide)) _ b.h15⟩
noncomputable abbrev natsV (bs : List Nat) : List V := bs.map fun b : Nat => V.int (b : Int)
/-- the first two are unlike -/
noncomputable def Alt (ks : List Nat) : Prop := ks[0]? ≠ ks[1]?
noncomputable abbrev turnsV (full Lk : Nat) (v1 v2 v3 : Option V) : Vals := [some (.ref 2), some (.int (full : Int)), some (.ref Lk), v1, v2, v3, none, none]
theorem nats_get {l : List Nat} {i x : Nat} (h : l[i]? = some x) : (natsV l)[i]? = some (.int (x : Int)) := by rw [List.getElem?_map, h]; rfl
theorem tin_big {cells : List Int} {k : Nat} {H : List O} (t : Tin cells k H) : 2 < H.length := (List.getElem?_eq_some_iff.mp t.h2).1
section
variable {w : World} {B : Heap} {d : Nat} {H : List O} {Q : V → List O → Prop} {β : Bk}
theorem kinds_spec (c : Cx B) {cells : List Int} {k full : Nat} (t : Tin cells k H) (hk : k ≤ 5000)
    (q : ∀ (ks : List Nat) H' k' v1, 2 ≤ ks.length → ks.length ≤ 5 → (∀ x ∈ ks, x < 4) → Tin cells k' H' → k' ≤ k + 6 → KX [2] H H' → H'[H.length]? = some (.list (natsV ks)) →
      EvS prg w B nm_law_turns (d + 1) (bd_law_turns.drop 3) (turnsV full H.length v1 none none) H' (RetOf Q)) :
    CallC prg w B (d + 2) c.f_law_turns [.ref 2, .int (full : Int)] H Q := by
  have big := tin_big t
  refine call_def c.F_law_turns rfl ?_
  walk_at "vals"
  refine evS_cons (ev1_Assign (fun _ => rfl) (ev_List rfl (ev_Fn rfl (by with_reducible walk_at "has") c.G_law_draw c.F_law_draw (d' := d + 1) (by walk_at "om") ?_)))
  walk_at "loc"
  refine ev_int (draw_spec c t (by walk_at "om") (by decide) fun r0 H1 hr0 t1 ⟨o1, e1⟩ => ⟨by simp, ?_⟩)
  have l1 : H1.length = H.length := by rw [e1]; simp
  have k1 : KX [2] H H1 := e1 ▸ KX.set (by simp)
  rw [l1]
  walk_at "asg"
  have hK0 : (H1 ++ [O.list [V.int (r0 : Int)]])[H.length]? = some (.list (natsV [r0])) := by rw [← l1]; exact app_r
  have t1' := t1.kx (.app (bad := []) (l := [O.list [V.int (r0 : Int)]])) (by simp) (by simp)
  have k1' : KX [2] H (H1 ++ [O.list [V.int (r0 : Int)]]) := k1.trans .app
  generalize H1 ++ [O.list [V.int (r0 : Int)]] = H1 at hK0 t1' k1'
  -- more of them
  refine evS_cons (ev1_ForR (fun _ _ => rfl) ?_)
  refine ev_Bi rfl (by with_reducible walk_at "has") c.U_range (ev_BinOp (ev_int (ev_Fn rfl (by with_reducible walk_at "has") c.G_law_draw c.F_law_draw (d' := d + 1) (by walk_at "om") ?_)))
  walk_at "loc"
  refine ev_int (draw_spec c t1' (by walk_at "om") (by decide) fun r H2 hr t2 ⟨o2, e2⟩ => w_add (c_range ?_))
  have k2 : KX [2] H1 H2 := e2 ▸ KX.set (by simp)
  have hK2 : H2[H.length]? = some (.list (natsV [r0])) := e2 ▸ set_ne hK0 (by walk_at "om")
  have kk2 := k1'.trans k2
  refine ⟨1 + r, fun i vals H' => ∃ (ks : List Nat) (v1 : Option V), vals = turnsV full H.length v1 none none ∧ ks.length = i + 1 ∧ (∀ x ∈ ks, x < 4) ∧ (i ≠ 0 → Alt ks) ∧ Tin cells (k + 1 + 1 + i) H' ∧ KX [H.length, 2] H H' ∧ H'[H.length]? = some (.list (natsV ks)), by congr 1, by walk_at "om", ⟨[r0], none, rfl, rfl, ?_, fun h => absurd rfl h, t2, kk2.mono (by simp), hK2⟩, ?_, ?_⟩
  · intro x hx; simp at hx; walk_at "om"
  · rintro vals H' ⟨ks, v1, rfl, hkl, hk4, alt, t', kx, hK⟩
    -- the while
    replace alt := alt (by walk_at "om")
    have hkl2 : 2 ≤ ks.length ∧ ks.length ≤ 5 := by walk_at "om"
    have hk' : k + 1 + 1 + (1 + r) ≤ k + 6 := by walk_at "om"
    refine evS_cons (ev1_While (fun n vals H' => ∃ ks : List Nat, n = ks.length ∧ vals = turnsV full H.length v1 none none ∧ 2 ≤ ks.length ∧ ks.length ≤ 5 ∧ (∀ x ∈ ks, x < 4) ∧ Alt ks ∧ Tin cells (k + 1 + 1 + (1 + r)) H' ∧ KX [H.length, 2] H H' ∧ H'[H.length]? = some (.list (natsV ks))) ?_ ks.length ⟨ks, rfl, rfl, hkl2.1, hkl2.2, hk4, alt, t', kx, hK⟩)
    clear hkl hk4 alt t' kx hK hkl2 ks
    rintro n vals H' ⟨ks, rfl, rfl, hl2, hl5, hk4, alt, t', kx, hK⟩
    have hlast : ks[ks.length - 1]? = some ks[ks.length - 1] := List.getElem?_eq_getElem (by walk_at "om")
    generalize ks[ks.length - 1] = la at hlast
    have h0 : ks[0]? = some ks[0] := List.getElem?_eq_getElem (by walk_at "om")
    generalize ks[0] = a0 at h0
    refine evT_Cmp rfl (ev_Sub ?_)
    walk_at "loc"
    refine ev_Unary (ev_int (w_neg (i_list_neg hK (by decide) (by simp; walk_at "om") (by decide) (v := .int (la : Int)) ?_ ?_)))
    · have e : (-1 + ((natsV ks).length : Int)).toNat = ks.length - 1 := by simp; walk_at "om"
      rw [e]; exact nats_get hlast
    refine ev_Sub ?_
    walk_at "loc"
    refine ev_int (i_list hK (by decide) (by decide) (v := .int (a0 : Int)) (nats_get h0) (w_eq ⟨_, rfl, fun h => ?_, fun h => ?_⟩))
    · exact q ks H' _ v1 hl2 hl5 hk4 t' hk' (kx.drop (Nat.le_refl _)) hK
    · have hla : la = a0 := by
        have : (la : Int) = a0 := by simpa using h
        walk_at "om"
      have h3 : 3 ≤ ks.length := by
        have : ks.length ≠ 2 := fun h2 => by
          rw [h2] at hlast
          unfold Alt at alt
          rw [h0, hlast, hla] at alt
          exact alt rfl
        walk_at "om"
      refine evS_cons (ev1_Expr (fun _ => rfl) (ev_LMeth (n := H.length) PySem.F.slot_list_pop PySem.F.type_list_pop rfl rfl (by decide) rfl hK ?_))
      walk_at "obj"
      refine c_pop (v := .int (la : Int)) hK ?_ (by simp; walk_at "om") (evS_nil ⟨ks.length - 1, by walk_at "om", ks.dropLast, by simp, rfl, by simp; walk_at "om", by simp; walk_at "om", fun x hx => hk4 x (List.mem_of_mem_take (by rw [List.dropLast_eq_take] at hx; exact hx)), ?_, t'.kx (bad := [H.length]) (KX.set (by simp)) (by simp; walk_at "om") (by simp; walk_at "om"), kx.trans (KX.set (by simp)), ?_⟩)
      · rw [List.getLast?_eq_getElem?, List.length_map]; exact nats_get hlast
      · unfold Alt
        rw [List.dropLast_eq_take, List.getElem?_take_of_lt (by walk_at "om"), List.getElem?_take_of_lt (by walk_at "om")]
        exact alt
      · have : natsV ks.dropLast = (natsV ks).dropLast := by simp [natsV, List.map_dropLast]
        rw [this]; exact set_eq hK
  · rintro i vals H' hi ⟨ks, v1, rfl, hkl, hk4, alt, t', kx, hK⟩
    refine ⟨_, .name (by with_reducible walk_at "put") (.inl rfl), ?_⟩
    have hlast : ks[i]? = some ks[i] := List.getElem?_eq_getElem (by walk_at "om")
    generalize ks[i] = la at hlast
    refine evS_cons (ev1_Expr (fun _ => rfl) (ev_LMeth (n := H.length) slot_list_append type_list_append rfl rfl (by decide) rfl hK ?_))
    walk_at "obj"
    refine ev_BinOp (ev_BinOp (ev_BinOp (ev_Sub ?_)))
    walk_at "loc"
    refine ev_Unary (ev_int (w_neg (i_list_neg hK (by decide) (by simp; walk_at "om") (by decide) (v := .int (la : Int)) ?_ ?_)))
    · have e : (-1 + ((natsV ks).length : Int)).toNat = i := by simp; walk_at "om"
      rw [e]; exact nats_get hlast
    refine ev_int (w_add (ev_Fn rfl (by with_reducible walk_at "has") c.G_law_draw c.F_law_draw (d' := d + 1) (by walk_at "om") ?_))
    walk_at "loc"
    refine ev_int (draw_spec c t' (by walk_at "om") (by decide) fun r3 H3 hr3 t3 ⟨o3, e3⟩ => w_add (ev_int (w_mod (by decide) ?_)))
    have hla : la < 4 := hk4 _ (List.mem_of_getElem? hlast)
    have em : ((la : Int) + 1 + (r3 : Int)).fmod 4 = (((la + 1 + r3) % 4 : Nat) : Int) := by rw [Int.fmod_eq_emod_of_nonneg _ (by decide)]; walk_at "om"
    rw [em]
    have hK3 : H3[H.length]? = some (.list (natsV ks)) := e3 ▸ set_ne hK (by walk_at "om")
    refine c_append hK3 (by simp; walk_at "om") (evS_nil ⟨ks ++ [(la + 1 + r3) % 4], _, rfl, by simp [hkl], ?_, fun _ => ?_, t3.kx (bad := [H.length]) (KX.set (by simp)) (by simp; walk_at "om") (by simp; walk_at "om"), (kx.trans (e3 ▸ KX.set (by simp))).trans (KX.set (by simp)), ?_⟩)
    · intro x hx
      rcases List.mem_append.mp hx with hx | hx
      · exact hk4 x hx
      · simp at hx; walk_at "om"
    · unfold Alt
      by_cases h0 : i = 0
      · subst h0
        rw [List.getElem?_append_left (by walk_at "om"), List.getElem?_append_right (by walk_at "om"), hlast, hkl]
        simp; walk_at "om"
      · have := alt h0
        unfold Alt at this
        rw [List.getElem?_append_left (by walk_at "om"), List.getElem?_append_left (by walk_at "om")]
        exact this
    · have : natsV (ks ++ [(la + 1 + r3) % 4]) = natsV ks ++ [V.int (((la + 1 + r3) % 4 : Nat) : Int)] := by simp [natsV]
      rw [this]; exact set_eq hK3
end

noncomputable def Tn.v : Tn → V
  | .no => .tup [.str (Str.ofString "bvnot"), .none]
  | .ne => .tup [.str (Str.ofString "bvneg"), .none]
  | .ad n => .tup [.str (Str.ofString "bvadd"), .int (n : Int)]
  | .xo n => .tup [.str (Str.ofString "bvxor"), .int (n : Int)]
noncomputable abbrev tnsV (ts : List Tn) : List V := ts.map Tn.v
section
variable {w : World} {B : Heap} {d : Nat} {H : List O} {Q : V → List O → Prop} {β : Bk}
theorem turns_spec (c : Cx B) {cells : List Int} {k W full : Nat} (F : IsFull W full) (t : Tin cells k H) (hk : k ≤ 4000)
    (q : ∀ (ts : List Tn) (L : Nat) H' k', 2 ≤ ts.length → ts.length ≤ 5 → (∀ t ∈ ts, t.ok full) → Tin cells k' H' → k' ≤ k + 11 → KX [2] H H' → H.length ≤ L → H'[L]? = some (.list (tnsV ts)) → Q (.ref L) H') :
    CallC prg w B (d + 2) c.f_law_turns [.ref 2, .int (full : Int)] H Q := by
  have big := tin_big t
  have f4 : 4 ≤ full ∧ full ≤ 8 := by rcases F with ⟨_, rfl⟩ | ⟨_, rfl⟩ <;> decide
  refine kinds_spec c t (by walk_at "om") fun ks H1 k1 v1 hl2 hl5 hk4 t1 hk1 kx1 hK => ?_
  have hKl := (List.getElem?_eq_some_iff.mp hK).1
  have l1 := kx1.len
  refine evS_cons (ev1_Assign (fun _ => rfl) (ev_List rfl ⟨by simp, ?_⟩))
  walk_at "asg"
  refine evS_cons (ev1_ForL (fun _ _ => rfl) ?_)
  walk_at "loc"
  have done : ∀ (ts : List Tn) (x : Tn) (H2 : List O), H2[H1.length]? = some (.list (tnsV ts)) → (H2.set H1.length (.list (tnsV ts ++ [x.v])))[H1.length]? = some (.list (tnsV (ts ++ [x]))) := fun ts x H2 h => by
    rw [show tnsV (ts ++ [x]) = tnsV ts ++ [x.v] by simp]; exact set_eq h
  refine ⟨H.length, natsV ks, fun i vals H' => ∃ (ts : List Tn) (v2 : Option V) (k' : Nat), vals = turnsV full H.length v1 (some (.ref H1.length)) v2 ∧ ts.length = i ∧ (∀ t ∈ ts, t.ok full) ∧ k' ≤ k1 + i ∧ Tin cells k' H' ∧ KX [H1.length, 2] H1 H' ∧ H'[H1.length]? = some (.list (tnsV ts)), rfl, ⟨[], none, k1, rfl, rfl, by simp, by walk_at "om", t1.kx (.app (bad := [])) (by simp) (by simp), .app, app_r⟩, ?_, ?_, ?_⟩
  · rintro i vals H' ⟨ts, v2, k', rfl, _, _, _, _, kx, _⟩
    exact kx.at_ _ (by simp; walk_at "om") _ hK
  · rintro vals H' ⟨ts, v2, k', rfl, hl, tok, hk', t', kx, hL⟩
    refine evS_cons (ev1_Return ?_)
    walk_at "loc"
    rw [show (natsV ks).length = ks.length by simp] at hl hk'
    exact q ts H1.length H' k' (by walk_at "om") (by walk_at "om") tok t' (by walk_at "om") (kx1.trans (kx.drop (Nat.le_refl _))) l1 hL
  · rintro i vals H' u hu ⟨ts, v2, k', rfl, hl, tok, hk', t', kx, hL⟩
    rw [List.getElem?_map] at hu
    obtain ⟨a, ha, rfl⟩ := Option.map_eq_some_iff.mp hu
    have hi := (List.getElem?_eq_some_iff.mp ha).1
    have kxL : ∀ o, KX [H1.length, 2] H1 (H'.set H1.length o) := fun o => kx.trans (KX.set (by simp))
    refine ⟨_, .name (by with_reducible walk_at "put") (.inl rfl), ?_⟩
    refine evS_cons (ev1_If (evT_Cmp rfl ?_))
    walk_at "loc"
    refine ev_int (w_eq ⟨_, rfl, fun h => ?_, fun h => ?_⟩)
    · refine evS_cons (ev1_Expr (fun _ => rfl) (ev_LMeth (n := H1.length) slot_list_append type_list_append rfl rfl (by decide) rfl hL ?_))
      walk_at "obj"
      refine ev_Tuple rfl (by decide) (ev_str (ev_BinOp (ev_int (ev_Fn rfl (by with_reducible walk_at "has") c.G_law_draw c.F_law_draw (d' := d + 1) (by walk_at "om") ?_))))
      walk_at "loc"
      refine ev_BinOp ?_
      walk_at "loc"
      refine ev_int (w_sub (draw_spec c t' (by walk_at "om") (by walk_at "om") fun r H2 hr t2 ⟨o2, e2⟩ => w_add ⟨by simp, ?_⟩))
      have hL2 : H2[H1.length]? = some (.list (tnsV ts)) := e2 ▸ set_ne hL (by walk_at "om")
      have er : (1 : Int) + (r : Int) = ((1 + r : Nat) : Int) := by walk_at "om"
      rw [er]
      refine c_append hL2 (by simp; walk_at "om") (evS_nil (evS_nil ⟨ts ++ [Tn.ad (1 + r)], _, k' + 1, rfl, by simp [hl], ?_, by walk_at "om", t2.kx (bad := [H1.length]) (KX.set (by simp)) (by simp; walk_at "om") (by simp; walk_at "om"), (kx.trans (e2 ▸ KX.set (by simp))).trans (KX.set (by simp)), done ts (.ad (1 + r)) H2 hL2⟩))
      intro y hy
      rcases List.mem_append.mp hy with hy | hy
      · exact tok y hy
      · simp at hy; subst hy; show 1 + r < full; walk_at "om"
    refine evS_cons (ev1_If (evT_Cmp rfl ?_))
    walk_at "loc"
    refine ev_int (w_eq ⟨_, rfl, fun h => ?_, fun h => ?_⟩)
    · refine evS_cons (ev1_Expr (fun _ => rfl) (ev_LMeth (n := H1.length) slot_list_append type_list_append rfl rfl (by decide) rfl hL ?_))
      walk_at "obj"
      refine ev_Tuple rfl (by decide) (ev_str (ev_BinOp (ev_int (ev_Fn rfl (by with_reducible walk_at "has") c.G_law_draw c.F_law_draw (d' := d + 1) (by walk_at "om") ?_))))
      walk_at "loc"
      refine ev_BinOp ?_
      walk_at "loc"
      refine ev_int (w_sub (draw_spec c t' (by walk_at "om") (by walk_at "om") fun r H2 hr t2 ⟨o2, e2⟩ => w_add ⟨by simp, ?_⟩))
      have hL2 : H2[H1.length]? = some (.list (tnsV ts)) := e2 ▸ set_ne hL (by walk_at "om")
      have er : (1 : Int) + (r : Int) = ((1 + r : Nat) : Int) := by walk_at "om"
      rw [er]
      refine c_append hL2 (by simp; walk_at "om") (evS_nil (evS_nil (evS_nil ⟨ts ++ [Tn.xo (1 + r)], _, k' + 1, rfl, by simp [hl], ?_, by walk_at "om", t2.kx (bad := [H1.length]) (KX.set (by simp)) (by simp; walk_at "om") (by simp; walk_at "om"), (kx.trans (e2 ▸ KX.set (by simp))).trans (KX.set (by simp)), done ts (.xo (1 + r)) H2 hL2⟩)))
      intro y hy
      rcases List.mem_append.mp hy with hy | hy
      · exact tok y hy
      · simp at hy; subst hy; show 1 + r < full; walk_at "om"
    refine evS_cons (ev1_Expr (fun _ => rfl) (ev_LMeth (n := H1.length) slot_list_append type_list_append rfl rfl (by decide) rfl hL ?_))
    walk_at "obj"
    refine ev_Tuple rfl (by decide) (ev_IfExp (evT_Cmp rfl ?_))
    walk_at "loc"
    refine ev_int (w_eq ⟨_, rfl, fun h => ?_, fun h => ?_⟩)
    · refine ev_str (ev_none ⟨by simp, ?_⟩)
      refine c_append hL (by simp; walk_at "om") (evS_nil (evS_nil (evS_nil ⟨ts ++ [Tn.no], _, k', rfl, by simp [hl], ?_, by walk_at "om", t'.kx (bad := [H1.length]) (KX.set (by simp)) (by simp; walk_at "om") (by simp; walk_at "om"), kxL _, done ts .no H' hL⟩)))
      intro y hy
      rcases List.mem_append.mp hy with hy | hy
      · exact tok y hy
      · simp at hy; subst hy; trivial
    · refine ev_str (ev_none ⟨by simp, ?_⟩)
      refine c_append hL (by simp; walk_at "om") (evS_nil (evS_nil (evS_nil ⟨ts ++ [Tn.ne], _, k', rfl, by simp [hl], ?_, by walk_at "om", t'.kx (bad := [H1.length]) (KX.set (by simp)) (by simp; walk_at "om") (by simp; walk_at "om"), kxL _, done ts .ne H' hL⟩)))
      intro y hy
      rcases List.mem_append.mp hy with hy | hy
      · exact tok y hy
      · simp at hy; subst hy; trivial
end

/-- so many turns of a row said again and again, the outermost first -/
noncomputable def stl (ts : List Tn) : Nat → List Tn
  | 0 => []
  | m + 1 => (ts[m % ts.length]?).toList ++ stl ts m
theorem stl_succ {ts : List Tn} {m : Nat} (h : 0 < ts.length) : ∃ t, ts[m % ts.length]? = some t ∧ stl ts (m + 1) = t :: stl ts m := by
  have e : ts[m % ts.length]? = some (ts[m % ts.length]'(Nat.mod_lt _ h)) := List.getElem?_eq_getElem (Nat.mod_lt _ h)
  exact ⟨_, e, by rw [stl, e]; rfl⟩
theorem stl_len {ts : List Tn} (h : 0 < ts.length) : ∀ m, (stl ts m).length = m
  | 0 => rfl
  | m + 1 => by obtain ⟨t, _, e⟩ := stl_succ (m := m) h; rw [e, List.length_cons, stl_len h m]
theorem stl_mem {ts : List Tn} : ∀ {m : Nat} {t : Tn}, t ∈ stl ts m → t ∈ ts
  | 0, _, h => nomatch h
  | m + 1, t, h => by
    rw [stl] at h
    rcases List.mem_append.mp h with h | h
    · exact List.mem_of_getElem? (Option.mem_toList.mp h)
    · exact stl_mem h
theorem stl_part {ts : List Tn} (n : Nat) : ∀ i, i ≤ ts.length → stl ts (n * ts.length + i) = (ts.take i).reverse ++ stl ts (n * ts.length)
  | 0, _ => by simp
  | i + 1, hi => by
    have ih := stl_part (ts := ts) n i (by walk_at "om")
    rw [← Nat.add_assoc, stl, ih, Nat.add_comm, Nat.add_mul_mod_self_right, Nat.mod_eq_of_lt (show i < ts.length by walk_at "om")]
    have e : ts[i]? = some ts[i] := List.getElem?_eq_getElem (by walk_at "om")
    rw [List.take_add_one, e, List.reverse_append]
    rfl
theorem stl_suffix {ts : List Tn} (h : 0 < ts.length) : ∀ (m : Nat) (l3 l2 : List Tn), stl ts m = l3 ++ l2 → l2 = stl ts l2.length ∧ l2.length ≤ m
  | m, [], l2, e => by
    have e' : stl ts m = l2 := e
    have hl := stl_len h m
    rw [← e', hl]; exact ⟨rfl, Nat.le_refl _⟩
  | 0, t :: l3, l2, e => nomatch e
  | m + 1, t :: l3, l2, e => by
    obtain ⟨u, _, e1⟩ := stl_succ (m := m) h
    rw [e1] at e
    obtain ⟨a, b⟩ := stl_suffix h m l3 l2 (List.cons.inj e).2
    exact ⟨a, Nat.le_succ_of_le b⟩
noncomputable def itr (g : Nat → Nat) : Nat → Nat → Nat
  | 0, h => h
  | n + 1, h => g (itr g n h)
theorem itr_add (g : Nat → Nat) : ∀ (a b h : Nat), itr g (a + b) h = itr g a (itr g b h)
  | 0, b, h => by rw [Nat.zero_add]; rfl
  | a + 1, b, h => by rw [Nat.add_right_comm]; exact congrArg g (itr_add g a b h)
theorem den_stl_laps (full : Nat) (ts : List Tn) (h : Nat) : ∀ n, den full (stl ts (n * ts.length)) h = itr (den full ts.reverse) n h
  | 0 => by rw [Nat.zero_mul]; rfl
  | n + 1 => by
    rw [Nat.succ_mul, stl_part n ts.length (Nat.le_refl _), List.take_length, den_append, den_stl_laps full ts h n]; rfl
theorem den_stl (full : Nat) {ts : List Tn} (m h : Nat) (h0 : 0 < ts.length) : den full (stl ts m) h = den full (ts.take (m % ts.length)).reverse (itr (den full ts.reverse) (m / ts.length) h) := by
  have e : m = m / ts.length * ts.length + m % ts.length := by rw [Nat.mul_comm]; exact (Nat.div_add_mod m _).symm
  have hm := Nat.mod_lt m h0
  rw [← den_stl_laps, ← den_append, ← stl_part _ _ (by walk_at "om"), ← e]
noncomputable def Tn.op : Tn → Str
  | .no => Str.ofString "bvnot"
  | .ne => Str.ofString "bvneg"
  | .ad _ => Str.ofString "bvadd"
  | .xo _ => Str.ofString "bvxor"
noncomputable def Tn.num : Tn → V
  | .no => .none
  | .ne => .none
  | .ad n => .int (n : Int)
  | .xo n => .int (n : Int)
theorem Tn.v_eq (t : Tn) : t.v = .tup [.str t.op, t.num] := by cases t <;> rfl
theorem xor_sum4 : ∀ h < 4, ∀ n < 4, ((h : Nat) : Int) + ((n : Nat) : Int) - 2 * Builtin.bitAnd ((h : Nat) : Int) ((n : Nat) : Int) = ((h ^^^ n : Nat) : Int) := by decide +kernel
theorem xor_sum8 : ∀ h < 8, ∀ n < 8, ((h : Nat) : Int) + ((n : Nat) : Int) - 2 * Builtin.bitAnd ((h : Nat) : Int) ((n : Nat) : Int) = ((h ^^^ n : Nat) : Int) := by decide +kernel
theorem xor_sum {W full h n : Nat} (F : IsFull W full) (hh : h < full) (hn : n < full) : (h : Int) + (n : Int) - 2 * Builtin.bitAnd (h : Int) (n : Int) = ((h ^^^ n : Nat) : Int) := by
  rcases F with ⟨_, rfl⟩ | ⟨_, rfl⟩
  · exact xor_sum4 h hh n hn
  · exact xor_sum8 h hh n hn
theorem turn_ne : (Str.ofString "bvneg" == Str.ofString "bvnot") = false ∧ (Str.ofString "bvadd" == Str.ofString "bvnot") = false ∧ (Str.ofString "bvadd" == Str.ofString "bvneg") = false ∧ (Str.ofString "bvxor" == Str.ofString "bvnot") = false ∧ (Str.ofString "bvxor" == Str.ofString "bvneg") = false ∧ (Str.ofString "bvxor" == Str.ofString "bvadd") = false := by decide +kernel
section
variable {w : World} {B : Heap} {d : Nat} {H : List O} {Q : V → List O → Prop} {β : Bk}
theorem turn_spec (c : Cx B) {W full h : Nat} (F : IsFull W full) (t : Tn) (tok : t.ok full) (hh : h < full) (q : Q (.int ((t.f full h : Nat) : Int)) H) :
    CallC prg w B (d + 1) c.f_law_turn [.str t.op, t.num, .int (h : Int), .int (full : Int)] H Q := by
  obtain ⟨n1, n2, n3, n4, n5, n6⟩ := turn_ne
  have fp := F.pos
  refine call_def c.F_law_turn rfl ?_
  walk_at "vals"
  refine evS_cons (ev1_If (evT_Cmp rfl ?_))
  walk_at "loc"
  refine ev_str (w_eqs ⟨_, rfl, fun e => ?_, fun e => ?_⟩)
  · cases t with
    | no =>
      refine evS_cons (ev1_Return (ev_BinOp (ev_BinOp ?_)))
      walk_at "loc"
      refine ev_int (w_sub ?_)
      walk_at "loc"
      refine w_sub ?_
      have : (full : Int) - 1 - (h : Int) = ((full - 1 - h : Nat) : Int) := by walk_at "om"
      rw [this]; exact q
    | ne => rw [show Tn.op .ne = Str.ofString "bvneg" from rfl, n1] at e; cases e
    | ad n => rw [show (Tn.ad n).op = Str.ofString "bvadd" from rfl, n2] at e; cases e
    | xo n => rw [show (Tn.xo n).op = Str.ofString "bvxor" from rfl, n4] at e; cases e
  refine evS_nil (evS_cons (ev1_If (evT_Cmp rfl ?_)))
  walk_at "loc"
  refine ev_str (w_eqs ⟨_, rfl, fun e' => ?_, fun e' => ?_⟩)
  · cases t with
    | no => simp [Tn.op] at e
    | ne =>
      refine evS_cons (ev1_Return (ev_BinOp (ev_BinOp ?_)))
      walk_at "loc"
      walk_at "loc"
      refine w_sub ?_
      walk_at "loc"
      refine w_mod (by walk_at "om") ?_
      have : ((full : Int) - (h : Int)).fmod (full : Int) = (((full - h) % full : Nat) : Int) := by
        rw [Int.fmod_eq_emod_of_nonneg _ (by walk_at "om"), show (full : Int) - (h : Int) = ((full - h : Nat) : Int) by walk_at "om"]; rfl
      rw [this]; exact q
    | ad n => rw [show (Tn.ad n).op = Str.ofString "bvadd" from rfl, n3] at e'; cases e'
    | xo n => rw [show (Tn.xo n).op = Str.ofString "bvxor" from rfl, n5] at e'; cases e'
  refine evS_nil (evS_cons (ev1_If (evT_Cmp rfl ?_)))
  walk_at "loc"
  refine ev_str (w_eqs ⟨_, rfl, fun e'' => ?_, fun e'' => ?_⟩)
  · cases t with
    | no => simp [Tn.op] at e
    | ne => simp [Tn.op] at e'
    | ad n =>
      refine evS_cons (ev1_Return (ev_BinOp (ev_BinOp ?_)))
      walk_at "loc"
      walk_at "loc"
      refine w_add (b := (n : Int)) ?_
      walk_at "loc"
      refine w_mod (by walk_at "om") ?_
      have : ((h : Int) + (n : Int)).fmod (full : Int) = (((h + n) % full : Nat) : Int) := by
        rw [Int.fmod_eq_emod_of_nonneg _ (by walk_at "om")]; rfl
      rw [this]; exact q
    | xo n => rw [show (Tn.xo n).op = Str.ofString "bvxor" from rfl, n6] at e''; cases e''
  cases t with
  | no => simp [Tn.op] at e
  | ne => simp [Tn.op] at e'
  | ad n => simp [Tn.op] at e''
  | xo n =>
    have hn : n < full := tok
    refine evS_nil (evS_cons (ev1_Return (ev_BinOp (ev_BinOp ?_))))
    walk_at "loc"
    walk_at "loc"
    refine w_add (b := (n : Int)) (ev_BinOp (ev_int (ev_BinOp ?_)))
    walk_at "loc"
    walk_at "loc"
    refine w_band (b := (n : Int)) (w_mul (IntMulOk.of_left (bits_small (by decide))) (w_sub ?_))
    rw [xor_sum F hh hn]; exact q
end

section
variable {prog : Program} {w : World} {B : Heap} {names names' : Names} {vals vals' : Vals} {d : Nat} {H : List O}
theorem range_getD {α : Type} (l : List Nat) (g : Nat → α) : (List.range (natsV l).length).map (fun i => g (l.getD i 0)) = l.map g := by
  apply List.ext_getElem?
  intro i
  rw [List.getElem?_map, List.getElem?_map, List.length_map]
  by_cases h : i < l.length
  · rw [List.getElem?_range h, List.getElem?_eq_getElem h]
    show some (g (l.getD i 0)) = some (g l[i])
    rw [List.getD_eq_getElem?_getD, List.getElem?_eq_getElem h]; rfl
  · rw [List.getElem?_eq_none (by simp; walk_at "om"), List.getElem?_eq_none (by walk_at "om")]; rfl
theorem nats_at {l : List Nat} {i : Nat} {u : V} (h : (natsV l)[i]? = some u) : u = .int ((l.getD i 0 : Nat) : Int) ∧ l.getD i 0 ∈ l := by
  rw [List.getElem?_map] at h
  obtain ⟨x, e1, e2⟩ := Option.map_eq_some_iff.mp h
  have : l.getD i 0 = x := by rw [List.getD_eq_getElem?_getD, e1]; rfl
  rw [this]
  exact ⟨e2.symm, List.mem_of_getElem? e1⟩
theorem item_list {n : Nat} {us : List V} {ys : List V} (h : H[n]? = some (.list us)) (i : Nat) : itemAt (.list n) (H ++ [.list ys]) i = us[i]? := by
  show (match (H ++ [O.list ys])[n]? with | some (.list vs) => vs[i]? | _ => none) = _
  rw [app_l h]
/-- a comprehension over a list of numbers -/
theorem ev_CompN {elt target iter : PySem.Expr} {scope : Scope} {pos : Pos} {Q : V → List O → Prop} (n : Nat) (l : List Nat) (g : Nat → V) (hn : H[n]? = some (.list (natsV l))) (hl : l.length ≤ 1000) (hf : ∀ env x, foldedSetIterable iter env x = pure x) (hkind : scope.kind = .function)
    (rl : Relab names scope.names names') (hnod : (scope.names.map (·.1)).Nodup) (hdbg : ∀ x ∈ names', (x.1 == ("__debug__" : Str)) = false ∧ (x.1 == ("__classdict__" : Str)) = false) (cv : CompV names vals names' vals')
    (h : EvE prog w B names d iter vals H fun v H₁ => v = .ref n ∧ H₁ = H)
    (turn : ∀ (x : Nat) ys, x ∈ l → ∃ vals'', TgtN names' target (.int (x : Int)) vals' vals'' ∧ EvE prog w B names' d elt vals'' (H ++ [.list ys]) fun y H'' => y = g x ∧ H'' = H ++ [.list ys])
    (q : Q (.ref H.length) (H ++ [.list (l.map g)])) : EvE prog w B names d (.ListComp elt [⟨target, iter, [], 0⟩] scope pos) vals H Q := by
  refine ev_CompP (.list n) (natsV l) H (fun i => g (l.getD i 0)) hf hkind rl hnod hdbg cv (h.mono ?_) (fun ys i => item_list hn i) (fun ys => ⟨_, app_l hn⟩) ⟨_, hn⟩ (by simp; walk_at "om") (fun i u ys hu => ?_) (by rw [range_getD]; exact q)
  · rintro v H₁ ⟨rfl, rfl⟩
    exact ⟨rfl, .list⟩
  · obtain ⟨rfl, hm⟩ := nats_at hu
    exact turn _ ys hm
theorem ev1_AssignCompN {y : Str} {py spos : Pos} {elt target iter : PySem.Expr} {scope : Scope} {pos : Pos} {Q : Fl → Vals → List O → Prop} (n : Nat) (l : List Nat) (g : Nat → V) (hn : H[n]? = some (.list (natsV l))) (hl : l.length ≤ 1000) (hf : ∀ env x, foldedSetIterable iter env x = pure x) (hkind : scope.kind = .function)
    (rl : Relab names scope.names names') (hnod : (scope.names.map (·.1)).Nodup) (hdbg : ∀ x ∈ names', (x.1 == ("__debug__" : Str)) = false ∧ (x.1 == ("__classdict__" : Str)) = false) (cv : CompV names vals names' vals')
    (hy : Has names y .local) (hline : (py.line == pos.line) = true) (hno : (scope.names.any fun (n, k) => n == y && (k == .local || k == .cell)) = false)
    (h : EvE prog w B names d iter vals H fun v H₁ => v = .ref n ∧ H₁ = H)
    (turn : ∀ (x : Nat) ys, x ∈ l → ∃ vals'', TgtN names' target (.int (x : Int)) vals' vals'' ∧ EvE prog w B names' d elt vals'' (H ++ [.list ys]) fun y H'' => y = g x ∧ H'' = H ++ [.list ys])
    (q : ∃ vals2, Put names vals y .local (.ref H.length) vals2 ∧ Q .next vals2 (H ++ [.list (l.map g)])) :
    Ev1 prog w B names d (.Assign [.Name y py] (.ListComp elt [⟨target, iter, [], 0⟩] scope pos) spos) vals H Q := by
  refine ev1_AssignCompP (.list n) (natsV l) H (fun i => g (l.getD i 0)) hf hkind rl hnod hdbg cv hy hline hno (h.mono ?_) (fun ys i => item_list hn i) (fun ys => ⟨_, app_l hn⟩) ⟨_, hn⟩ (by simp; walk_at "om") (fun i u ys hu => ?_) (by rw [range_getD]; exact q)
  · rintro v H₁ ⟨rfl, rfl⟩
    exact ⟨rfl, .list⟩
  · obtain ⟨rfl, hm⟩ := nats_at hu
    exact turn _ ys hm
end
theorem take_snoc {α : Type} {l : List α} {i : Nat} {x : α} (h : l[i]? = some x) : l.take (i + 1) = l.take i ++ [x] := by rw [List.take_add_one, h]; rfl
/-- what a function makes of each value -/
noncomputable abbrev tabV (full : Nat) (g : Nat → Nat) : List V := natsV ((List.range full).map g)
theorem tab_at {full : Nat} {g : Nat → Nat} {x : Nat} (h : x < full) : (tabV full g)[((x : Nat) : Int).toNat]? = some (.int ((g x : Nat) : Int)) := by
  rw [tn, List.getElem?_map, List.getElem?_map, List.getElem?_range h]; rfl
theorem tab_mem {full : Nat} {g : Nat → Nat} (hg : ∀ h, h < full → g h < full) {x : Nat} (h : x ∈ (List.range full).map g) : x < full := by
  obtain ⟨y, hy, rfl⟩ := List.mem_map.mp h
  exact hg y (List.mem_range.mp hy)
theorem tab_comp (full : Nat) (g f : Nat → Nat) : ((List.range full).map g).map (fun x => V.int ((f x : Nat) : Int)) = tabV full (fun h => f (g h)) := by
  simp [Function.comp_def]
noncomputable abbrev valsV (T m full lp fi laps : Nat) (v1 v2 : Option V) : Vals := [some (.ref T), some (.int (m : Int)), some (.int (full : Int)), some (.ref lp), some (.ref fi), some (.int (laps : Int)), v1, v2, none, none, none]
section
variable {w : World} {B : Heap} {d : Nat} {H : List O} {Q : V → List O → Prop} {β : Bk}
/-- the head and the loop over one lap -/
theorem values_head (c : Cx B) {W full T m : Nat} {ts : List Tn} (F : IsFull W full) (hT : H[T]? = some (.list (tnsV ts))) (h0 : 0 < ts.length) (hl : ts.length ≤ 5) (tok : ∀ t ∈ ts, t.ok full) (hm : m ≤ 100000)
    (q : ∀ (lp fi : Nat) H' v1 v2, KX [] H H' → H.length ≤ fi → H'[lp]? = some (.list (tabV full (den full ts.reverse))) → H'[fi]? = some (.list (tabV full fun h => h)) →
      EvS prg w B nm_law_values (d + 1) (bd_law_values.drop 2) (valsV T m full lp fi (m / ts.length) v1 v2) H' (RetOf Q)) :
    CallC prg w B (d + 2) c.f_law_values [.ref T, .int (m : Int), .int (full : Int)] H Q := by
  have f8 : full ≤ 8 := by rcases F with ⟨_, rfl⟩ | ⟨_, rfl⟩ <;> decide
  refine call_def c.F_law_values rfl ?_
  walk_at "vals"
  refine evS_cons (ev1_AssignTup (xs := [(Str.ofString "lap", _), (Str.ofString "found", _), (Str.ofString "laps", _)]) (fun _ => rfl) (fun _ => swapped_or rfl) (ev_Tuple rfl (by decide) (ev_Bi rfl (by with_reducible walk_at "has") c.U_list (ev_Bi rfl (by with_reducible walk_at "has") c.U_range ?_))))
  walk_at "loc"
  refine c_range (c_list_rng (by walk_at "om") (ev_Bi rfl (by with_reducible walk_at "has") c.U_list (ev_Bi rfl (by with_reducible walk_at "has") c.U_range ?_)))
  walk_at "loc"
  refine c_range (c_list_rng (by walk_at "om") (ev_BinOp ?_))
  walk_at "loc"
  refine ev_Bi rfl (by with_reducible walk_at "has") c.U_len ?_
  walk_at "loc"
  refine c_len_list (app_l (app_l hT)) (by simp; walk_at "om") (w_div (by rw [List.length_map]; walk_at "om") (PyProof.noPylong_small (by rw [List.length_map]; walk_at "om")) ⟨by simp, _, rfl, rfl, valsV T m full H.length (H.length + 1) (m / ts.length) none none, ?_, ?_, ?_⟩)
  · have e : (m : Int).fdiv ((tnsV ts).length : Int) = ((m / ts.length : Nat) : Int) := by rw [List.length_map, Int.fdiv_eq_ediv_of_nonneg _ (by walk_at "om")]; rfl
    rw [e, List.length_append, List.length_singleton]
    exact .cons (by with_reducible walk_at "put") (.inr rfl) (.cons (by with_reducible walk_at "put") (.inl rfl) (.cons (by with_reducible walk_at "put") (.inl rfl) .nil))
  · have e : (m : Int).fdiv ((tnsV ts).length : Int) = ((m / ts.length : Nat) : Int) := by rw [List.length_map, Int.fdiv_eq_ediv_of_nonneg _ (by walk_at "om")]; rfl
    rw [e, List.length_append, List.length_singleton]
    exact .cons (by with_reducible walk_at "put") (.inl rfl) (.cons (by with_reducible walk_at "put") (.inl rfl) (.cons (by with_reducible walk_at "put") (.inr rfl) .nil))
  have hid : ((List.range full).map fun j : Nat => V.int (j : Int)) = tabV full fun h => h := by simp
  rw [hid]
  have hl0 : (H ++ [O.list (tabV full fun h => h)] ++ [O.list (tabV full fun h => h)])[H.length]? = some (.list (tabV full fun h => h)) := app_l app_r
  have hf0 : (H ++ [O.list (tabV full fun h => h)] ++ [O.list (tabV full fun h => h)])[H.length + 1]? = some (.list (tabV full fun h => h)) := by
    rw [show H.length + 1 = (H ++ [O.list (tabV full fun h => h)]).length by simp]; exact app_r
  have kx0 : KX [] H (H ++ [O.list (tabV full fun h => h)] ++ [O.list (tabV full fun h => h)]) := KX.app.trans .app
  generalize H ++ [O.list (tabV full fun h => h)] ++ [O.list (tabV full fun h => h)] = H1 at hl0 hf0 kx0
  -- one lap
  refine evS_cons (ev1_ForL (fun _ _ => rfl) ?_)
  walk_at "loc"
  refine ⟨T, tnsV ts, fun i vals H' => ∃ (lp : Nat) (v1 v2 : Option V), vals = valsV T m full lp (H.length + 1) (m / ts.length) v1 v2 ∧ KX [] H H' ∧ H'[lp]? = some (.list (tabV full (den full (ts.take i).reverse))) ∧ H'[H.length + 1]? = some (.list (tabV full fun h => h)), rfl, ⟨H.length, none, none, rfl, kx0, hl0, hf0⟩, ?_, ?_, ?_⟩
  · rintro i vals H' ⟨lp, v1, v2, rfl, kx, _, _⟩
    exact kx.at_ _ (by simp) _ hT
  · rintro vals H' ⟨lp, v1, v2, rfl, kx, hlp, hfi⟩
    rw [List.length_map, List.take_length] at hlp
    exact q lp (H.length + 1) H' v1 v2 kx (by walk_at "om") hlp hfi
  · rintro i vals H' u hu ⟨lp, v1, v2, rfl, kx, hlp, hfi⟩
    rw [List.getElem?_map] at hu
    obtain ⟨t, ht, rfl⟩ := Option.map_eq_some_iff.mp hu
    have tk := tok t (List.mem_of_getElem? ht)
    rw [Tn.v_eq]
    have gl : ∀ h, h < full → den full (ts.take i).reverse h < full := fun h hh => den_lt F (fun u hu => tok u (List.mem_of_mem_take (List.mem_reverse.mp hu))) hh
    refine ⟨valsV T m full lp (H.length + 1) (m / ts.length) (some (.str t.op)) (some t.num), .tup (xs := [(Str.ofString "op", _), (Str.ofString "number", _)]) rfl (.cons (by with_reducible walk_at "put") (.inr rfl) (.cons (by with_reducible walk_at "put") (.inr rfl) .nil)), ?_⟩
    refine evS_cons (ev1_Assign' (fun env ok => swaps_cell (by with_reducible walk_at "has") ok) ?_)
    refine ev_CompN lp _ (fun x => .int ((t.f full x : Nat) : Int)) hlp (by simp; walk_at "om") (fun _ _ => rfl) rfl (by with_reducible walk_at "rel") (by decide +kernel) (by decide +kernel) (by with_reducible walk_at "cv") ?_ (fun x ys hx => ?_) ?_
    · walk_at "loc"
      exact ⟨rfl, rfl⟩
    · refine ⟨_, .name (by with_reducible walk_at "putn"), ev_Fn rfl (by with_reducible walk_at "has") c.G_law_turn c.F_law_turn (d' := d + 1) (by walk_at "om") ?_⟩
      walk_at "loc"
      walk_at "loc"
      walk_at "loc"
      walk_at "loc"
      exact turn_spec c F t tk (tab_mem gl hx) ⟨rfl, rfl⟩
    · walk_at "asg"
      rw [tab_comp]
      refine evS_nil ⟨H'.length, _, _, rfl, kx.trans .app, ?_, app_l hfi⟩
      rw [take_snoc ht, List.reverse_append]
      exact app_r
end

section
variable {w : World} {B : Heap} {d : Nat} {H : List O} {Q : V → List O → Prop} {β : Bk}
/-- the last turns, short of a lap -/
theorem values_tail (c : Cx B) {W full T m lp fi n : Nat} {ts : List Tn} {g : Nat → Nat} {v1 v2 : Option V} (F : IsFull W full) (hT : H[T]? = some (.list (tnsV ts))) (h0 : 0 < ts.length) (hl : ts.length ≤ 5) (tok : ∀ t ∈ ts, t.ok full) (hm : m ≤ 100000) (hg : ∀ h, h < full → g h < full) (hfi : H[fi]? = some (.list (tabV full g)))
    (q : ∀ L H', KX [] H H' → (L = fi ∨ H.length ≤ L) → H'[L]? = some (.list (tabV full fun h => den full (ts.take (m % ts.length)).reverse (g h))) → Q (.ref L) H') :
    EvS prg w B nm_law_values (d + 1) (bd_law_values.drop 3) (valsV T m full lp fi n v1 v2) H (RetOf Q) := by
  have f8 : full ≤ 8 := by rcases F with ⟨_, rfl⟩ | ⟨_, rfl⟩ <;> decide
  refine evS_cons (ev1_ForL (fun _ _ => rfl) (ev_Slice (n := T) (vs := tnsV ts) ?_))
  walk_at "loc"
  refine ⟨rfl, ?_⟩
  show EvE _ _ _ _ _ _ _ _ _
  refine ev_BinOp ?_
  walk_at "loc"
  refine ev_Bi rfl (by with_reducible walk_at "has") c.U_len ?_
  walk_at "loc"
  refine c_len_list hT (by simp; walk_at "om") (w_mod (by rw [List.length_map]; walk_at "om") ?_)
  have e : (m : Int).fmod ((tnsV ts).length : Int) = ((m % ts.length : Nat) : Int) := by rw [List.length_map, Int.fmod_eq_emod_of_nonneg _ (by walk_at "om")]; rfl
  rw [e]
  refine ⟨none, some ((m % ts.length : Nat) : Int), .none, .int, hT, by simp; walk_at "om", ?_⟩
  rw [pick_upto, ← List.map_take]
  generalize hr : ts.take (m % ts.length) = us at q
  have uok : ∀ t ∈ us, t.ok full := fun t ht => tok t (List.mem_of_mem_take (hr ▸ ht))
  have ul : us.length ≤ 5 := by rw [← hr, List.length_take]; walk_at "om"
  refine ⟨H.length, tnsV us, fun i vals H' => ∃ (fi' : Nat) (v1 v2 : Option V), vals = valsV T m full lp fi' n v1 v2 ∧ KX [] (H ++ [.list (tnsV us)]) H' ∧ (fi' = fi ∨ H.length ≤ fi') ∧ H'[fi']? = some (.list (tabV full fun h => den full (us.take i).reverse (g h))), rfl, ⟨fi, v1, v2, rfl, .refl _ _, .inl rfl, app_l hfi⟩, ?_, ?_, ?_⟩
  · rintro i vals H' ⟨fi', v1, v2, rfl, kx, _, _⟩
    exact kx.at_ _ (by simp) _ app_r
  · rintro vals H' ⟨fi', v1, v2, rfl, kx, hor, hfi'⟩
    rw [List.length_map, List.take_length] at hfi'
    refine evS_cons (ev1_Return ?_)
    walk_at "loc"
    exact q fi' H' (KX.app.trans kx) hor hfi'
  · rintro i vals H' u hu ⟨fi', v1, v2, rfl, kx, hor, hfi'⟩
    rw [List.getElem?_map] at hu
    obtain ⟨t, ht, rfl⟩ := Option.map_eq_some_iff.mp hu
    have tk := uok t (List.mem_of_getElem? ht)
    rw [Tn.v_eq]
    have gl : ∀ h, h < full → den full (us.take i).reverse (g h) < full := fun h hh => den_lt F (fun u hu => uok u (List.mem_of_mem_take (List.mem_reverse.mp hu))) (hg h hh)
    refine ⟨valsV T m full lp fi' n (some (.str t.op)) (some t.num), .tup (xs := [(Str.ofString "op", _), (Str.ofString "number", _)]) rfl (.cons (by with_reducible walk_at "put") (.inr rfl) (.cons (by with_reducible walk_at "put") (.inr rfl) .nil)), ?_⟩
    refine evS_cons (ev1_AssignCompN fi' _ (fun x => .int ((t.f full x : Nat) : Int)) hfi' (by simp; walk_at "om") (fun _ _ => rfl) rfl (by with_reducible walk_at "rel") (by decide +kernel) (by decide +kernel) (by with_reducible walk_at "cv") (by with_reducible walk_at "has") rfl rfl ?_ (fun x ys hx => ?_) ?_)
    · walk_at "loc"
      exact ⟨rfl, rfl⟩
    · refine ⟨_, .name (by with_reducible walk_at "putn"), ev_Fn rfl (by with_reducible walk_at "has") c.G_law_turn c.F_law_turn (d' := d + 1) (by walk_at "om") ?_⟩
      walk_at "loc"
      walk_at "loc"
      walk_at "loc"
      walk_at "loc"
      exact turn_spec c F t tk (tab_mem gl hx) ⟨rfl, rfl⟩
    · refine ⟨_, by with_reducible walk_at "put", ?_⟩
      rw [tab_comp]
      have kl := kx.len
      refine evS_nil ⟨H'.length, _, _, rfl, kx.trans .app, .inr (by simp at kl; walk_at "om"), ?_⟩
      rw [take_snoc ht, List.reverse_append]
      exact app_r
/-- the values of a storey -/
theorem values_spec (c : Cx B) {W full T m : Nat} {ts : List Tn} (F : IsFull W full) (hT : H[T]? = some (.list (tnsV ts))) (h0 : 0 < ts.length) (hl : ts.length ≤ 5) (tok : ∀ t ∈ ts, t.ok full) (hm : m ≤ 100000)
    (q : ∀ L H', KX [] H H' → H.length ≤ L → H'[L]? = some (.list (tabV full (den full (stl ts m)))) → Q (.ref L) H') :
    CallC prg w B (d + 2) c.f_law_values [.ref T, .int (m : Int), .int (full : Int)] H Q := by
  have f8 : full ≤ 8 := by rcases F with ⟨_, rfl⟩ | ⟨_, rfl⟩ <;> decide
  refine values_head c F hT h0 hl tok hm fun lp fi H1 v1 v2 kx1 hfl hlp hfi => ?_
  generalize hgd : den full ts.reverse = g at hlp
  have gok : ∀ h, h < full → g h < full := fun h hh => hgd ▸ den_lt F (fun u hu => tok u (List.mem_reverse.mp hu)) hh
  have iok : ∀ n h, h < full → itr g n h < full := fun n => by
    induction n with
    | zero => exact fun h hh => hh
    | succ n ih => exact fun h hh => gok _ (ih h hh)
  have l1 := kx1.len
  refine evS_cons (ev1_While (fun n vals H' => ∃ (lp fi a b : Nat), vals = valsV T m full lp fi n v1 v2 ∧ KX [] H1 H' ∧ H.length ≤ fi ∧ H'[lp]? = some (.list (tabV full (itr g b))) ∧ H'[fi]? = some (.list (tabV full (itr g a))) ∧ a + b * n = m / ts.length) ?_ (m / ts.length) ⟨lp, fi, 0, 1, rfl, .refl _ _, hfl, hlp, hfi, by walk_at "om"⟩)
  clear hlp hfi hfl lp fi
  rintro n vals H' ⟨lp, fi, a, b, rfl, kx, hfl, hlp, hfi, hab⟩
  refine evT_Cmp rfl ?_
  walk_at "loc"
  refine ev_int (w_gt ⟨_, rfl, fun h => ?_, fun h => ?_⟩)
  · have hn : n = 0 := by simp at h; walk_at "om"
    subst hn
    have ha : a = m / ts.length := by simp at hab; walk_at "om"
    have kl := kx.len
    refine values_tail c F (kx.at_ _ (by simp) _ (kx1.at_ _ (by simp) _ hT)) h0 hl tok hm (iok a) hfi fun L H2 kx2 hL h2 => ?_
    refine q L H2 ((kx1.trans kx).trans kx2) (by walk_at "om") ?_
    rw [h2, ha]
    have : (fun h => den full (ts.take (m % ts.length)).reverse (itr g (m / ts.length) h)) = den full (stl ts m) := funext fun h => by rw [den_stl full m h h0, hgd]
    rw [this]
  · have hn : 0 < n := by simp at h; walk_at "om"
    refine evS_cons (ev1_If (evT_Cmp rfl (ev_BinOp ?_)))
    walk_at "loc"
    refine ev_int (w_mod (by decide) (ev_int (w_eq ?_)))
    have em : (n : Int).fmod 2 = ((n % 2 : Nat) : Int) := by rw [Int.fmod_eq_emod_of_nonneg _ (by decide)]; walk_at "om"
    rw [em]
    have ed : (n : Int).fdiv 2 = ((n / 2 : Nat) : Int) := by rw [Int.fdiv_eq_ediv_of_nonneg _ (by decide)]; walk_at "om"
    have rest : ∀ (fi' a' : Nat) (H2 : List O), KX [] H' H2 → H.length ≤ fi' → H2[fi']? = some (.list (tabV full (itr g a'))) → a' + 2 * b * (n / 2) = m / ts.length →
        EvS prg w B nm_law_values (d + 1) ((whileBody (nthS bd_law_values 2)).tail) (valsV T m full lp fi' n v1 v2) H2 fun f vals' H' => match f with
          | .next | .cont => ∃ k, k < n ∧ ∃ (lp fi a b : Nat), vals' = valsV T m full lp fi k v1 v2 ∧ KX [] H1 H' ∧ H.length ≤ fi ∧ H'[lp]? = some (.list (tabV full (itr g b))) ∧ H'[fi]? = some (.list (tabV full (itr g a))) ∧ a + b * k = m / ts.length
          | .brk => thenS prg w B nm_law_values (d + 1) (bd_law_values.drop 3) (RetOf Q) .next vals' H'
          | .ret v => thenS prg w B nm_law_values (d + 1) (bd_law_values.drop 3) (RetOf Q) (.ret v) vals' H' := by
      intro fi' a' H2 kx2 hfl' hfi' hab'
      have hlp2 := kx2.at_ _ (by simp) _ hlp
      refine evS_cons (ev1_Assign' (fun env ok => swaps_cell (by with_reducible walk_at "has") ok) ?_)
      refine ev_CompN lp _ (fun x => .int ((itr g b x : Nat) : Int)) hlp2 (by simp; walk_at "om") (fun _ _ => rfl) rfl (by with_reducible walk_at "rel") (by decide +kernel) (by decide +kernel) (by with_reducible walk_at "cv") ?_ (fun x ys hx => ?_) ?_
      · walk_at "loc"
        exact ⟨rfl, rfl⟩
      · refine ⟨_, .name (by with_reducible walk_at "putn"), ev_Sub ?_⟩
        walk_at "loc"
        walk_at "loc"
        have hx' := tab_mem (iok b) hx
        exact i_list (app_l hlp2) (by walk_at "om") (by walk_at "om") (tab_at hx') ⟨rfl, rfl⟩
      · walk_at "asg"
        rw [tab_comp]
        have eb : (fun h => itr g b (itr g b h)) = itr g (b + b) := funext fun h => (itr_add g b b h).symm
        rw [eb]
        refine evS_cons (ev1_Assign (fun _ => rfl) (ev_BinOp ?_))
        walk_at "loc"
        refine ev_int (w_div (by decide) (PyProof.noPylong_small (by decide)) ?_)
        rw [ed]
        walk_at "asg"
        refine evS_nil ⟨n / 2, by walk_at "om", H2.length, fi', a', b + b, rfl, (kx.trans kx2).trans .app, hfl', app_r, app_l hfi', ?_⟩
        rw [← hab']; congr 2; walk_at "om"
    have hkl := kx.len
    refine ⟨_, rfl, fun h => ?_, fun h => ?_⟩
    · have hodd : n % 2 = 1 := by simp at h; walk_at "om"
      refine evS_cons (ev1_AssignCompN fi _ (fun x => .int ((itr g b x : Nat) : Int)) hfi (by simp; walk_at "om") (fun _ _ => rfl) rfl (by with_reducible walk_at "rel") (by decide +kernel) (by decide +kernel) (by with_reducible walk_at "cv") (by with_reducible walk_at "has") rfl rfl ?_ (fun x ys hx => ?_) ?_)
      · walk_at "loc"
        exact ⟨rfl, rfl⟩
      · refine ⟨_, .name (by with_reducible walk_at "putn"), ev_Sub ?_⟩
        walk_at "loc"
        walk_at "loc"
        have hx' := tab_mem (iok a) hx
        exact i_list (app_l hlp) (by walk_at "om") (by walk_at "om") (tab_at hx') ⟨rfl, rfl⟩
      · refine ⟨_, by with_reducible walk_at "put", ?_⟩
        rw [tab_comp]
        have eb : (fun h => itr g b (itr g a h)) = itr g (b + a) := funext fun h => (itr_add g b a h).symm
        rw [eb]
        refine evS_nil (rest H'.length (b + a) _ .app (by walk_at "om") app_r ?_)
        rw [← hab]
        have : n = 2 * (n / 2) + 1 := by walk_at "om"
        generalize n / 2 = z at this
        subst this
        rw [Nat.mul_add, Nat.mul_one, ← Nat.mul_assoc, Nat.mul_comm b 2]; walk_at "om"
    · have heven : n % 2 = 0 := by simp at h; walk_at "om"
      refine evS_nil (rest fi a H' (.refl _ _) hfl hfi ?_)
      rw [← hab]
      have : n = 2 * (n / 2) := by walk_at "om"
      generalize n / 2 = z at this
      subst this
      rw [← Nat.mul_assoc, Nat.mul_comm b 2]
end

theorem natsV_ints (l : List Nat) : natsV l = (l.map fun b : Nat => (b : Int)).map V.int := by simp [natsV]
theorem joined_ne : (Str.ofString "=" == Str.ofString "bvnum") = false ∧ (Str.ofString "=" == Str.ofString "true") = false ∧ (Str.ofString "=" == Str.ofString "false") = false ∧ (Str.ofString "=" == Str.ofString "not") = false := by decide +kernel
section
variable {w : World} {B : Heap} {d : Nat} {H : List O} {Q : V → List O → Prop} {β : Bk}
theorem joined_num (c : Cx B) {W full n : Nat} (F : IsFull W full) (X : V) (q : ∀ L H', KX [] H H' → H.length ≤ L → H'[L]? = some (.list (tabV full fun _ => n)) → Q (.ref L) H') :
    CallC prg w B (d + 1) c.f_law_joined [.str (Str.ofString "bvnum"), .int (n : Int), X, .int (full : Int)] H Q := by
  have f8 : full ≤ 8 := by rcases F with ⟨_, rfl⟩ | ⟨_, rfl⟩ <;> decide
  refine call_def c.F_law_joined rfl ?_
  walk_at "vals"
  refine evS_cons (ev1_If (evT_Cmp rfl ?_))
  walk_at "loc"
  refine ev_str (w_eqs ⟨_, rfl, fun _ => ?_, fun h => ?_⟩)
  · refine evS_cons (ev1_Return (ev_BinOp (ev_List rfl ?_)))
    walk_at "loc"
    refine ⟨by simp, ?_⟩
    walk_at "loc"
    refine w_list_mul app_r (by walk_at "om") (by walk_at "om") ?_
    have e : List.replicate ((full : Int)).toNat (V.int (n : Int)) = tabV full fun _ => n := by
      rw [tn]
      apply List.ext_getElem?
      intro i
      rw [List.getElem?_replicate, List.getElem?_map, List.getElem?_map]
      by_cases h : i < full
      · rw [if_pos h, List.getElem?_range h]; rfl
      · rw [if_neg h, List.getElem?_eq_none (by simp; walk_at "om")]; rfl
    rw [e]
    exact q _ _ (KX.app.trans .app) (by simp) app_r
  · simp at h
theorem joined_eq (c : Cx B) {full S a b : Nat} {l1 l2 : List Nat} (X : V) (hS : H[S]? = some (.list [.ref a, .ref b])) (ha : H[a]? = some (.list (natsV l1))) (hb : H[b]? = some (.list (natsV l2))) (hl : l1.length = l2.length) (hle : l1.length ≤ 1000)
    (q : Q (.ref H.length) (H ++ [.list ((List.zipWith (fun a b => a == b) l1 l2).map .bool)])) :
    CallC prg w B (d + 1) c.f_law_joined [.str (Str.ofString "="), X, .ref S, .int (full : Int)] H Q := by
  obtain ⟨n1, n2, n3, n4⟩ := joined_ne
  refine call_def c.F_law_joined rfl ?_
  walk_at "vals"
  refine evS_cons (ev1_If (evT_Cmp rfl ?_))
  walk_at "loc"
  refine ev_str (w_eqs ⟨_, rfl, fun h => ?_, fun _ => ?_⟩)
  · rw [n1] at h; cases h
  refine evS_nil (evS_cons (ev1_If (evT_Or (evT_Cmp rfl ?_))))
  walk_at "loc"
  refine ev_str (w_eqs ⟨_, rfl, fun h => ?_, fun _ => evT_Cmp rfl ?_⟩)
  · rw [n2] at h; cases h
  walk_at "loc"
  refine ev_str (w_eqs ⟨_, rfl, fun h => ?_, fun _ => ⟨(fun h => nomatch h), fun _ => ?_⟩⟩)
  · rw [n3] at h; cases h
  refine evS_nil (evS_cons (ev1_If (evT_Cmp rfl ?_)))
  walk_at "loc"
  refine ev_str (w_eqs ⟨_, rfl, fun h => ?_, fun _ => ?_⟩)
  · rw [n4] at h; cases h
  refine evS_nil (evS_cons (ev1_If (evT_Cmp rfl ?_)))
  walk_at "loc"
  refine ev_str (w_eqs ⟨_, rfl, fun _ => ?_, fun h => ?_⟩)
  · refine evS_cons (ev1_Return ?_)
    refine ev_CompZip rfl rfl (by decide +kernel) (by decide +kernel) c.U_zip (by with_reducible walk_at "has") rfl (ev_Sub ?_)
    walk_at "loc"
    refine ev_int (i_list hS (by decide) (by decide) rfl (ev_Sub ?_))
    walk_at "loc"
    refine ev_int (i_list hS (by decide) (by decide) rfl ?_)
    refine ⟨a, b, l1.map fun b : Nat => (b : Int), l2.map fun b : Nat => (b : Int), rfl, by rw [ha, natsV_ints], by rw [hb, natsV_ints], by simp [hl], by simp; walk_at "om", fun B' i x y ys hx hy => ?_, ?_⟩
    · show ∃ vals'', TgtN [(Str.ofString ".0", .local), (Str.ofString "here", .local), (Str.ofString "there", .local)] _ _ [none, none, none] vals'' ∧ EvE _ _ _ [(Str.ofString ".0", .local), (Str.ofString "here", .local), (Str.ofString "there", .local)] _ _ _ _ _
      refine ⟨_, .tup (xs := [(Str.ofString "here", _), (Str.ofString "there", _)]) rfl (.cons (by with_reducible walk_at "putn") (.cons (by with_reducible walk_at "putn") .nil)), ev_Cmp rfl ?_⟩
      walk_at "loc"
      walk_at "loc"
      exact w_eq ⟨rfl, rfl⟩
    · have e : List.zipWith (fun a b : Int => a == b) (l1.map fun b : Nat => (b : Int)) (l2.map fun b : Nat => (b : Int)) = List.zipWith (fun a b => a == b) l1 l2 := by
        rw [List.zipWith_map]
        congr 1
        funext x y
        rw [Bool.eq_iff_iff]; simp; walk_at "om"
      rw [e]; exact q
  · simp at h
end

/-- the tower's numbers, from x on -/
structure TwD (es : List (Int × V)) (x N : Nat) : Prop where
  at_ : ∀ j, j ≤ N → dget es ((x + j : Nat) : Int) = some (.int (j : Int))
  no : ∀ z : Nat, (z < x ∨ x + N < z) → dget es (z : Int) = none
noncomputable abbrev truthV (T TW full t Lw Lm Lf : Nat) (v : Option V) : Vals := [some (.ref 4), some (.ref T), some (.ref TW), some (.int (full : Int)), some (.int (t : Int)), some (.ref Lw), some (.ref Lm), some (.ref Lf), v, none, none]
section
variable {w : World} {B : Heap} {d : Nat} {H : List O} {Q : V → List O → Prop} {β : Bk}
/-- one part is met -/
theorem met_turn (c : Cx B) {T TW full t Lw Lm Lf p : Nat} {es : List (Int × V)} {ws ms ext : List Nat} {v : Option V} (b : BankAt c.cTB fsB β H) (hl : β.terms.length ≤ 300000) (hTW : H[TW]? = some (.idict es)) (hw : H[Lw]? = some (.list (natsV (ws ++ [p])))) (hm : H[Lm]? = some (.list (natsV ms))) (hw15 : 15 < Lw) (hm15 : 15 < Lm)
    (n1 : Lw ≠ Lm) (n2 : TW ≠ Lw) (n3 : TW ≠ Lm) (wl : ws.length ≤ 1000) (ml : ms.length ≤ 1000) (hp : (∃ j, dget es (p : Int) = some j) ∧ ext = [] ∨ dget es (p : Int) = none ∧ ∃ y : Mine.T, β.terms[p]? = some y ∧ y.args = (ext.map fun b : Nat => (b : Int)) ∧ ext.length ≤ 100)
    {Q : Fl → Vals → List O → Prop} (q : ∀ H', KX [Lw, Lm] H H' → H'[Lw]? = some (.list (natsV (ws ++ ext))) → H'[Lm]? = some (.list (natsV (ms ++ [p]))) → Q .next (truthV T TW full t Lw Lm Lf (some (.int (p : Int)))) H') :
    EvS prg w B nm_law_truths (d + 1) (whileBody (nthS bd_law_truths 1)) (truthV T TW full t Lw Lm Lf v) H Q := by
  refine evS_cons (ev1_Assign (fun _ => rfl) (ev_LMeth (n := Lw) PySem.F.slot_list_pop PySem.F.type_list_pop rfl rfl (by decide) rfl hw ?_))
  walk_at "obj"
  refine c_pop (v := .int (p : Int)) hw ?_ (by simp; walk_at "om") ?_
  · rw [List.getLast?_eq_getElem?, List.length_map]; exact nats_get (by simp)
  have e1 : (natsV (ws ++ [p])).dropLast = natsV ws := by rw [← List.map_dropLast, List.dropLast_concat]
  rw [e1]
  walk_at "asg"
  have hm1 : (H.set Lw (.list (natsV ws)))[Lm]? = some (.list (natsV ms)) := set_ne hm n1
  have hw1 : (H.set Lw (.list (natsV ws)))[Lw]? = some (.list (natsV ws)) := set_eq hw
  have hT1 : (H.set Lw (.list (natsV ws)))[TW]? = some (.idict es) := set_ne hTW (Ne.symm n2)
  have b1 : BankAt c.cTB fsB β (H.set Lw (.list (natsV ws))) := b.set (.inr hw15)
  have k1 : KX [Lw, Lm] H (H.set Lw (.list (natsV ws))) := KX.set (by simp)
  generalize H.set Lw (.list (natsV ws)) = H1 at hm1 hw1 hT1 b1 k1
  refine evS_cons (ev1_Expr (fun _ => rfl) (ev_LMeth (n := Lm) slot_list_append type_list_append rfl rfl (by decide) rfl hm1 ?_))
  walk_at "obj"
  walk_at "loc"
  refine c_append hm1 (by simp; walk_at "om") ?_
  have e2 : natsV ms ++ [V.int (p : Int)] = natsV (ms ++ [p]) := by simp [natsV]
  rw [e2]
  have hm2 : (H1.set Lm (.list (natsV (ms ++ [p]))))[Lm]? = some (.list (natsV (ms ++ [p]))) := set_eq hm1
  have hw2 : (H1.set Lm (.list (natsV (ms ++ [p]))))[Lw]? = some (.list (natsV ws)) := set_ne hw1 (Ne.symm n1)
  have hT2 : (H1.set Lm (.list (natsV (ms ++ [p]))))[TW]? = some (.idict es) := set_ne hT1 (Ne.symm n3)
  have b2 : BankAt c.cTB fsB β (H1.set Lm (.list (natsV (ms ++ [p])))) := b1.set (.inr hm15)
  have k2 : KX [Lw, Lm] H (H1.set Lm (.list (natsV (ms ++ [p])))) := k1.trans (KX.set (by simp))
  generalize H1.set Lm (.list (natsV (ms ++ [p]))) = H2 at hm2 hw2 hT2 b2 k2
  refine evS_cons (ev1_If (evT_Cmp rfl ?_))
  walk_at "loc"
  walk_at "loc"
  refine w_notin_idict hT2 ⟨_, rfl, fun h => ?_, fun h => ?_⟩
  · rcases hp with ⟨⟨j, hj⟩, _⟩ | ⟨_, y, hy, ya, hx⟩
    · rw [hj] at h; cases h
    refine evS_cons (ev1_Expr (fun _ => rfl) (ev_LMeth (n := Lw) PySem.F.slot_list_extend PySem.F.type_list_extend rfl rfl (by decide) rfl hw2 ?_))
    walk_at "obj"
    refine ev_Do c.X rfl rfl (by decide) rfl c.cls_cTB b2.h4 b2.h3 c.M_Bank_args na_args c.F_Bank_args (d' := d + 1) (by walk_at "om") ?_
    walk_at "obj"
    walk_at "loc"
    refine args_spec c b2 (by walk_at "om") hy ?_
    rw [ya]
    refine c_extend_tup hw2 (by simp; walk_at "om") (evS_nil (evS_nil (q _ (k2.trans (KX.set (by simp))) ?_ (set_ne hm2 n1))))
    have e3 : natsV ws ++ (ext.map fun b : Nat => (b : Int)).map V.int = natsV (ws ++ ext) := by simp [natsV]
    rw [e3]; exact set_eq hw2
  · rcases hp with ⟨_, rfl⟩ | ⟨hn, _⟩
    · rw [List.append_nil] at q
      exact evS_nil (evS_nil (q _ k2 hw2 hm2))
    · rw [hn] at h; simp at h
end

/-- a part of an answer and its values -/
inductive Part (β : Bk) (es : List (Int × V)) (ts : List Tn) (full p : Nat) : (Nat → Nat) → Prop
  | storey {j : Nat} : j ≤ 100000 → dget es (p : Int) = some (.int (j : Int)) → Part β es ts full p (den full (stl ts j))
  | number {s : Int} {n : Nat} : dget es (p : Int) = none → β.terms[p]? = some (numT s (n : Int)) → Part β es ts full p (fun _ => n)
section
variable {w : World} {B : Heap} {d : Nat} {H : List O} {Q : V → List O → Prop} {β : Bk}
theorem part_turn (c : Cx B) {TT TW W full t Lw Lm Lf p : Nat} {es fo : List (Int × V)} {ts : List Tn} {g : Nat → Nat} (F : IsFull W full) (b : BankAt c.cTB fsB β H) (hl : β.terms.length ≤ 300000) (hT : H[TT]? = some (.list (tnsV ts))) (h0 : 0 < ts.length) (h5 : ts.length ≤ 5) (tok : ∀ t ∈ ts, t.ok full)
    (hTW : H[TW]? = some (.idict es)) (hf : H[Lf]? = some (.idict fo)) (fl : fo.length ≤ 1000) (hp : Part β es ts full p g)
    {Q : Fl → Vals → List O → Prop} (q : ∀ L H', KX [Lf] H H' → H.length ≤ L → H'[L]? = some (.list (tabV full g)) → H'[Lf]? = some (.idict (dput fo (p : Int) (.ref L))) → Q .next (truthV TT TW full t Lw Lm Lf (some (.int (p : Int)))) H') :
    EvS prg w B nm_law_truths (d + 2) (whileBody (nthS bd_law_truths 2)) (truthV TT TW full t Lw Lm Lf (some (.int (p : Int)))) H Q := by
  have hfl := (List.getElem?_eq_some_iff.mp hf).1
  have fin : ∀ L H', KX [] H H' → H.length ≤ L → H'[L]? = some (.list (tabV full g)) → Q .next (truthV TT TW full t Lw Lm Lf (some (.int (p : Int)))) (H'.set Lf (.idict (dput fo (p : Int) (.ref L)))) := fun L H' kx hL h =>
    q L _ ((kx.mono (by simp)).trans (KX.set (by simp))) hL (set_ne h (by walk_at "om")) (set_eq (kx.at_ _ (by simp) _ hf))
  refine evS_cons (ev1_If (evT_Cmp rfl ?_))
  walk_at "loc"
  walk_at "loc"
  refine w_in_idict hTW ⟨_, rfl, fun h => ?_, fun h => ?_⟩
  · cases hp with
    | number hn _ => rw [hn] at h; cases h
    | storey hj hd =>
      refine evS_cons (ev1_AssignSub (fun _ => rfl) (ev_Fn rfl (by with_reducible walk_at "has") c.G_law_values c.F_law_values (d' := d + 2) (by walk_at "om") ?_))
      walk_at "loc"
      refine ev_Sub ?_
      walk_at "loc"
      walk_at "loc"
      refine i_idict hTW hd ?_
      walk_at "loc"
      refine values_spec c F hT h0 h5 tok hj fun L H1 k1 l1 h1 => ?_
      walk_at "loc"
      walk_at "loc"
      exact s_idict (k1.at_ _ (by simp) _ hf) (by walk_at "om") (evS_nil (evS_nil (fin L H1 k1 l1 h1)))
  · cases hp with
    | storey _ hd => rw [hd] at h; cases h
    | number hn ht =>
      refine evS_cons (ev1_AssignSub (fun _ => rfl) (ev_Fn rfl (by with_reducible walk_at "has") c.G_law_joined c.F_law_joined (d' := d + 1) (by walk_at "om") (ev_Do c.X rfl rfl (by decide) rfl c.cls_cTB b.h4 b.h3 c.M_Bank_op na_op c.F_Bank_op (d' := d + 1) (by walk_at "om") ?_)))
      walk_at "obj"
      walk_at "loc"
      refine op_spec c b (by walk_at "om") ht (ev_Do c.X rfl rfl (by decide) rfl c.cls_cTB b.h4 b.h3 c.M_Bank_data na_data c.F_Bank_data (d' := d + 1) (by walk_at "om") ?_)
      walk_at "obj"
      walk_at "loc"
      refine data_spec c b (by walk_at "om") ht ?_
      refine ev_CompP (.tup []) [] H (fun _ => .none) (fun _ _ => rfl) rfl (by with_reducible walk_at "rel") (by decide +kernel) (by decide +kernel) (by with_reducible walk_at "cv") ?_ (fun _ _ => rfl) (fun _ => trivial) trivial (by simp) (fun i u ys hu => nomatch hu) ?_
      · refine ev_Do c.X rfl rfl (by decide) rfl c.cls_cTB b.h4 b.h3 c.M_Bank_args na_args c.F_Bank_args (d' := d + 1) (by walk_at "om") ?_
        walk_at "obj"
        walk_at "loc"
        exact args_spec c b (by walk_at "om") ht ⟨rfl, .tup⟩
      walk_at "loc"
      refine joined_num c F _ fun L H1 k1 l1 h1 => ?_
      have k1' := (KX.app (bad := [])).trans k1
      walk_at "loc"
      walk_at "loc"
      exact s_idict (k1'.at_ _ (by simp) _ hf) (by walk_at "om") (evS_nil (evS_nil (fin L H1 k1' (by simp at l1; walk_at "om") h1)))
/-- the answer itself -/
theorem last_turn (c : Cx B) {TT TW full t Lw Lm Lf r x y La Lb : Nat} {es fo : List (Int × V)} {l1 l2 : List Nat} (b : BankAt c.cTB fsB β H) (hl : β.terms.length ≤ 300000)
    (hTW : H[TW]? = some (.idict es)) (hf : H[Lf]? = some (.idict fo)) (fl : fo.length ≤ 1000) (hr : dget es (r : Int) = none) (ht : β.terms[r]? = some (eqT (x : Int) (y : Int))) (hx : dget fo (x : Int) = some (.ref La)) (hy : dget fo (y : Int) = some (.ref Lb)) (ha : H[La]? = some (.list (natsV l1))) (hb : H[Lb]? = some (.list (natsV l2))) (hll : l1.length = l2.length) (hle : l1.length ≤ 1000)
    {Q : Fl → Vals → List O → Prop} (q : ∀ L H', KX [Lf] H H' → H.length ≤ L → H'[L]? = some (.list ((List.zipWith (fun a b => a == b) l1 l2).map .bool)) → H'[Lf]? = some (.idict (dput fo (r : Int) (.ref L))) → Q .next (truthV TT TW full t Lw Lm Lf (some (.int (r : Int)))) H') :
    EvS prg w B nm_law_truths (d + 2) (whileBody (nthS bd_law_truths 2)) (truthV TT TW full t Lw Lm Lf (some (.int (r : Int)))) H Q := by
  have hfl := (List.getElem?_eq_some_iff.mp hf).1
  refine evS_cons (ev1_If (evT_Cmp rfl ?_))
  walk_at "loc"
  walk_at "loc"
  refine w_in_idict hTW ⟨_, rfl, fun h => ?_, fun h => ?_⟩
  · rw [hr] at h; cases h
  refine evS_cons (ev1_AssignSub (fun _ => rfl) (ev_Fn rfl (by with_reducible walk_at "has") c.G_law_joined c.F_law_joined (d' := d + 1) (by walk_at "om") (ev_Do c.X rfl rfl (by decide) rfl c.cls_cTB b.h4 b.h3 c.M_Bank_op na_op c.F_Bank_op (d' := d + 1) (by walk_at "om") ?_)))
  walk_at "obj"
  walk_at "loc"
  refine op_spec c b (by walk_at "om") ht (ev_Do c.X rfl rfl (by decide) rfl c.cls_cTB b.h4 b.h3 c.M_Bank_data na_data c.F_Bank_data (d' := d + 1) (by walk_at "om") ?_)
  walk_at "obj"
  walk_at "loc"
  refine data_spec c b (by walk_at "om") ht ?_
  refine ev_CompP (.tup [.int (x : Int), .int (y : Int)]) [.int (x : Int), .int (y : Int)] H (fun i => if i = 0 then .ref La else .ref Lb) (fun _ _ => rfl) rfl (by with_reducible walk_at "rel") (by decide +kernel) (by decide +kernel) (by with_reducible walk_at "cv") ?_ (fun _ _ => rfl) (fun _ => trivial) trivial (by simp) (fun i u ys hu => ?_) ?_
  · refine ev_Do c.X rfl rfl (by decide) rfl c.cls_cTB b.h4 b.h3 c.M_Bank_args na_args c.F_Bank_args (d' := d + 1) (by walk_at "om") ?_
    walk_at "obj"
    walk_at "loc"
    exact args_spec c b (by walk_at "om") ht ⟨rfl, .tup⟩
  · match i, hu with
    | 0, hu =>
      simp at hu; subst hu
      refine ⟨_, .name (by with_reducible walk_at "putn"), ev_Sub ?_⟩
      walk_at "loc"
      walk_at "loc"
      exact i_idict (app_l hf) hx ⟨rfl, rfl⟩
    | 1, hu =>
      simp at hu; subst hu
      refine ⟨_, .name (by with_reducible walk_at "putn"), ev_Sub ?_⟩
      walk_at "loc"
      walk_at "loc"
      exact i_idict (app_l hf) hy ⟨rfl, rfl⟩
    | i + 2, hu => simp at hu
  walk_at "loc"
  have e2 : (List.range [V.int (x : Int), V.int (y : Int)].length).map (fun i => if i = 0 then V.ref La else V.ref Lb) = [.ref La, .ref Lb] := rfl
  rw [e2]
  refine joined_eq c _ app_r (app_l ha) (app_l hb) hll hle ?_
  walk_at "loc"
  walk_at "loc"
  have kx : KX [] H (H ++ [O.list [V.ref La, V.ref Lb]] ++ [O.list ((List.zipWith (fun a b => a == b) l1 l2).map .bool)]) := KX.app.trans .app
  refine s_idict (kx.at_ _ (by simp) _ hf) (by walk_at "om") (evS_nil (evS_nil (q _ _ ((kx.mono (by simp)).trans (KX.set (by simp))) (by simp) (set_ne app_r (by simp; walk_at "om")) (set_eq (kx.at_ _ (by simp) _ hf)))))
end

theorem Part.met {β : Bk} {es : List (Int × V)} {ts : List Tn} {full p : Nat} {g : Nat → Nat} (x : Part β es ts full p g) : (∃ j, dget es (p : Int) = some j) ∧ ([] : List Nat) = [] ∨ dget es (p : Int) = none ∧ ∃ y : Mine.T, β.terms[p]? = some y ∧ y.args = (([] : List Nat).map fun b : Nat => (b : Int)) ∧ ([] : List Nat).length ≤ 100 := by
  cases x with
  | storey _ h => exact .inl ⟨⟨_, h⟩, rfl⟩
  | number h1 h2 => exact .inr ⟨h1, _, h2, rfl, by decide⟩
theorem zip_tab (full : Nat) (f g : Nat → Nat) : List.zipWith (fun a b => a == b) ((List.range full).map f) ((List.range full).map g) = (List.range full).map fun h => f h == g h := by
  rw [List.zipWith_map]
  apply List.ext_getElem?
  intro i
  rw [List.getElem?_zipWith, List.getElem?_map]
  cases (List.range full)[i]? <;> rfl
theorem dput_one {k k' : Int} {v v' : V} (h : k ≠ k') : dput [(k, v)] k' v' = [(k, v), (k', v')] := by simp [dput, h]
theorem dput_two {k k' k'' : Int} {v v' v'' : V} (h : k ≠ k'') (h' : k' ≠ k'') : dput [(k, v), (k', v')] k'' v'' = [(k, v), (k', v'), (k'', v'')] := by simp [dput, h, h']
section
variable {w : World} {B : Heap} {d : Nat} {H : List O} {Q : V → List O → Prop} {β : Bk}
theorem truths_spec (c : Cx B) {TT TW W full r x y : Nat} {es : List (Int × V)} {ts : List Tn} {gx gy : Nat → Nat} (F : IsFull W full) (b : BankAt c.cTB fsB β H) (hl : β.terms.length ≤ 300000) (hT : H[TT]? = some (.list (tnsV ts))) (h0 : 0 < ts.length) (h5 : ts.length ≤ 5) (tok : ∀ t ∈ ts, t.ok full)
    (hTW : H[TW]? = some (.idict es)) (hr : dget es (r : Int) = none) (ht : β.terms[r]? = some (eqT (x : Int) (y : Int))) (px : Part β es ts full x gx) (py : Part β es ts full y gy) (nxy : x ≠ y) (nxr : x ≠ r) (nyr : y ≠ r)
    (q : ∀ L H', KX [] H H' → H.length ≤ L → H'[L]? = some (.list (((List.range full).map fun h => gx h == gy h).map .bool)) → Q (.ref L) H') :
    CallC prg w B (d + 3) c.f_law_truths [.ref 4, .ref TT, .ref TW, .int (full : Int), .int (r : Int)] H Q := by
  have f8 : full ≤ 8 := by rcases F with ⟨_, rfl⟩ | ⟨_, rfl⟩ <;> decide
  have big := b.big
  have lTW := (List.getElem?_eq_some_iff.mp hTW).1
  have lTT := (List.getElem?_eq_some_iff.mp hT).1
  refine call_def c.F_law_truths rfl ?_
  walk_at "vals"
  refine evS_cons (ev1_AssignTup (xs := [(Str.ofString "waiting", _), (Str.ofString "met", _), (Str.ofString "found", _)]) (fun _ => rfl) (fun _ => swapped_or rfl) (ev_Tuple rfl (by decide) (ev_List rfl ?_)))
  walk_at "loc"
  refine ⟨by simp, ev_List rfl ⟨by simp, ev_Dict0 (.idict []) new_idict ⟨by simp, _, rfl, rfl, truthV TT TW full r H.length (H.length + 1) (H.length + 2) none, ?_, ?_, ?_⟩⟩⟩
  · rw [show (H ++ [O.list [V.int (r : Int)]]).length = H.length + 1 by simp, show (H ++ [O.list [V.int (r : Int)]] ++ [O.list []]).length = H.length + 2 by simp]
    exact .cons (by with_reducible walk_at "put") (.inl rfl) (.cons (by with_reducible walk_at "put") (.inl rfl) (.cons (by with_reducible walk_at "put") (.inr rfl) .nil))
  · rw [show (H ++ [O.list [V.int (r : Int)]]).length = H.length + 1 by simp, show (H ++ [O.list [V.int (r : Int)]] ++ [O.list []]).length = H.length + 2 by simp]
    exact .cons (by with_reducible walk_at "put") (.inr rfl) (.cons (by with_reducible walk_at "put") (.inl rfl) (.cons (by with_reducible walk_at "put") (.inl rfl) .nil))
  have hw1 : (H ++ [O.list [V.int (r : Int)]] ++ [O.list []] ++ [O.idict []])[H.length]? = some (.list (natsV [r])) := app_l (app_l app_r)
  have hm1 : (H ++ [O.list [V.int (r : Int)]] ++ [O.list []] ++ [O.idict []])[H.length + 1]? = some (.list (natsV [])) := by
    rw [show H.length + 1 = (H ++ [O.list [V.int (r : Int)]]).length by simp]; exact app_l app_r
  have hf1 : (H ++ [O.list [V.int (r : Int)]] ++ [O.list []] ++ [O.idict []])[H.length + 2]? = some (.idict []) := by
    rw [show H.length + 2 = (H ++ [O.list [V.int (r : Int)]] ++ [O.list []]).length by simp]; exact app_r
  have kx1 : KX [] H (H ++ [O.list [V.int (r : Int)]] ++ [O.list []] ++ [O.idict []]) := (KX.app.trans .app).trans .app
  generalize H ++ [O.list [V.int (r : Int)]] ++ [O.list []] ++ [O.idict []] = H1 at hw1 hm1 hf1 kx1
  -- the three parts are met
  refine evS_cons (ev1_While (fun n vals H' => ∃ (ws ms : List Nat) (v : Option V), vals = truthV TT TW full r H.length (H.length + 1) (H.length + 2) v ∧ KX [H.length, H.length + 1] H1 H' ∧ H'[H.length]? = some (.list (natsV ws)) ∧ H'[H.length + 1]? = some (.list (natsV ms)) ∧
      ((n = 3 ∧ ws = [] ++ [r] ∧ ms = []) ∨ (n = 2 ∧ ws = [x] ++ [y] ∧ ms = [r]) ∨ (n = 1 ∧ ws = [] ++ [x] ∧ ms = [r, y]) ∨ (n = 0 ∧ ws = [] ∧ ms = [r, y, x]))) ?_ 3 ⟨[r], [], none, rfl, .refl _ _, hw1, hm1, .inl ⟨rfl, rfl, rfl⟩⟩)
  rintro n vals H2 ⟨ws, ms, v, rfl, kx2, hw2, hm2, hcase⟩
  have kx12 : KX [H.length, H.length + 1] H H2 := (kx1.mono (by simp)).trans kx2
  refine evT_Cmp rfl ?_
  walk_at "loc"
  refine ev_List rfl ⟨by simp, w_ne_ints (ns := ws.map fun b : Nat => (b : Int)) (ms := []) (app_l (by rw [hw2, natsV_ints])) app_r ⟨_, rfl, fun h => ?_, fun h => ?_⟩⟩
  · -- none is left
    obtain ⟨rfl, rfl, rfl⟩ : n = 0 ∧ ws = [] ∧ ms = [r, y, x] := by
      rcases hcase with ⟨_, rfl, _⟩ | ⟨_, rfl, _⟩ | ⟨_, rfl, _⟩ | h'
      · simp at h
      · simp at h
      · simp at h
      · exact h'
    have kk3 : KX [H.length, H.length + 1] H (H2 ++ [O.list []]) := kx12.trans .app
    have hm3 : (H2 ++ [O.list []])[H.length + 1]? = some (.list (natsV [r, y, x])) := app_l hm2
    have hf3 : (H2 ++ [O.list []])[H.length + 2]? = some (.idict []) := app_l (kx2.at_ _ (by simp) _ hf1)
    generalize H2 ++ [O.list []] = H3 at kk3 hm3 hf3
    -- and reckoned, the last first
    refine evS_cons (ev1_ForL (fun _ _ => rfl) (ev_SliceRev (n := H.length + 1) (u1 := .int (r : Int)) (u2 := .int (y : Int)) (u3 := .int (x : Int)) ?_))
    walk_at "loc"
    refine ⟨rfl, ev_Unary (ev_int (w_neg ⟨rfl, hm3, ?_⟩))⟩
    have kk4 : KX [H.length + 2, H.length, H.length + 1] H (H3 ++ [O.list [.int (x : Int), .int (y : Int), .int (r : Int)]]) := (kk3.mono (by simp)).trans .app
    have hl3 : H.length ≤ H3.length := kk3.len
    have hf4 : (H3 ++ [O.list [.int (x : Int), .int (y : Int), .int (r : Int)]])[H.length + 2]? = some (.idict []) := app_l hf3
    have hL4 : (H3 ++ [O.list [.int (x : Int), .int (y : Int), .int (r : Int)]])[H3.length]? = some (.list [.int (x : Int), .int (y : Int), .int (r : Int)]) := app_r
    have hfl := (List.getElem?_eq_some_iff.mp hf3).1
    have nxy' : (x : Int) ≠ (y : Int) := by walk_at "om"
    have nxr' : (x : Int) ≠ (r : Int) := by walk_at "om"
    have nyr' : (y : Int) ≠ (r : Int) := by walk_at "om"
    have nk : ∀ i, i < H.length → i ∉ [H.length + 2, H.length, H.length + 1] := fun i hi => by simp; walk_at "om"
    have nb : ∀ i ∈ [H.length + 2, H.length, H.length + 1], i < 3 ∨ 15 < i := fun i hi => by simp at hi; walk_at "om"
    refine ⟨H3.length, [.int (x : Int), .int (y : Int), .int (r : Int)], fun i vals H' => ∃ v : Option V, vals = truthV TT TW full r H.length (H.length + 1) (H.length + 2) v ∧ KX [H.length + 2, H.length, H.length + 1] H H' ∧ H'[H3.length]? = some (.list [.int (x : Int), .int (y : Int), .int (r : Int)]) ∧ H3.length < H'.length ∧
      ((i = 0 ∧ H'[H.length + 2]? = some (.idict [])) ∨ (i = 1 ∧ ∃ La, H'[H.length + 2]? = some (.idict [((x : Int), .ref La)]) ∧ H'[La]? = some (.list (tabV full gx)) ∧ La ≠ H.length + 2) ∨
       (i = 2 ∧ ∃ La Lb, H'[H.length + 2]? = some (.idict [((x : Int), .ref La), ((y : Int), .ref Lb)]) ∧ H'[La]? = some (.list (tabV full gx)) ∧ H'[Lb]? = some (.list (tabV full gy)) ∧ La ≠ H.length + 2 ∧ Lb ≠ H.length + 2) ∨
       (i = 3 ∧ ∃ La Lb L, H'[H.length + 2]? = some (.idict [((x : Int), .ref La), ((y : Int), .ref Lb), ((r : Int), .ref L)]) ∧ H.length ≤ L ∧ H'[L]? = some (.list (((List.range full).map fun h => gx h == gy h).map .bool)))), rfl, ⟨_, rfl, kk4, hL4, by simp, .inl ⟨rfl, hf4⟩⟩, ?_, ?_, ?_⟩
    · rintro i vals H' ⟨v, _, _, hL, _⟩
      exact hL
    · rintro vals H' ⟨v, rfl, kx, hL, hlt, ⟨h, _⟩ | ⟨h, _⟩ | ⟨h, _⟩ | ⟨_, La, Lb, L, hf, hLl, hLr⟩⟩
      · simp at h
      · simp at h
      · simp at h
      refine evS_cons (ev1_Return (ev_Sub ?_))
      walk_at "loc"
      walk_at "loc"
      refine i_idict hf (v := .ref L) ?_ (q L H' (((kx.drop (by walk_at "om")).drop (Nat.le_refl _)).drop (by walk_at "om")) hLl hLr)
      simp [dget, nxr', nyr']
    · rintro i vals H' u hu ⟨v, rfl, kx, hL, hlt, hc⟩
      have bH := b.kx kx nb
      have hTH := kx.at_ _ (nk _ lTT) _ hT
      have hTWH := kx.at_ _ (nk _ lTW) _ hTW
      rcases hc with ⟨rfl, hf⟩ | ⟨rfl, La, hf, hLa, na⟩ | ⟨rfl, La, Lb, hf, hLa, hLb, na, nb'⟩ | ⟨rfl, _⟩
      · simp at hu; subst hu
        refine ⟨_, .name (by with_reducible walk_at "put") (.inl rfl), part_turn c F bH hl hTH h0 h5 tok hTWH hf (by simp) px fun L H5 k5 l5 h5' hf5 => ?_⟩
        exact ⟨_, rfl, kx.trans (k5.mono (by simp)), k5.at_ _ (by simp; walk_at "om") _ hL, by have := k5.len; walk_at "om", .inr (.inl ⟨rfl, L, hf5, h5', by walk_at "om"⟩)⟩
      · simp at hu; subst hu
        refine ⟨_, .name (by with_reducible walk_at "put") (.inl rfl), part_turn c F bH hl hTH h0 h5 tok hTWH hf (by simp) py fun L H5 k5 l5 h5' hf5 => ?_⟩
        rw [dput_one nxy'] at hf5
        exact ⟨_, rfl, kx.trans (k5.mono (by simp)), k5.at_ _ (by simp; walk_at "om") _ hL, by have := k5.len; walk_at "om", .inr (.inr (.inl ⟨rfl, La, L, hf5, k5.at_ _ (by simp; walk_at "om") _ hLa, h5', na, by walk_at "om"⟩))⟩
      · simp at hu; subst hu
        refine ⟨_, .name (by with_reducible walk_at "put") (.inl rfl), last_turn c bH hl hTWH hf (by simp) hr ht (by simp [dget]) (by simp [dget, nxy']) hLa hLb (by simp) (by simp; walk_at "om") fun L H5 k5 l5 h5' hf5 => ?_⟩
        rw [dput_two nxr' nyr'] at hf5
        rw [zip_tab] at h5'
        exact ⟨_, rfl, kx.trans (k5.mono (by simp)), k5.at_ _ (by simp; walk_at "om") _ hL, by have := k5.len; walk_at "om", .inr (.inr (.inr ⟨rfl, La, Lb, L, hf5, by have := kx.len; walk_at "om", h5'⟩))⟩
      · simp at hu
  · have kl : 15 < H.length := big
    have mt : ∀ (ws' ms' ext : List Nat) (p : Nat), ws = ws' ++ [p] → ms = ms' → ws'.length ≤ 10 → ms'.length ≤ 10 → ((∃ j, dget es (p : Int) = some j) ∧ ext = [] ∨ dget es (p : Int) = none ∧ ∃ y : Mine.T, β.terms[p]? = some y ∧ y.args = (ext.map fun b : Nat => (b : Int)) ∧ ext.length ≤ 100) →
        ∀ {Q' : Fl → Vals → List O → Prop}, (∀ H', KX [H.length, H.length + 1] H1 H' → H'[H.length]? = some (.list (natsV (ws' ++ ext))) → H'[H.length + 1]? = some (.list (natsV (ms' ++ [p]))) → Q' .next (truthV TT TW full r H.length (H.length + 1) (H.length + 2) (some (.int (p : Int)))) H') →
        EvS prg w B nm_law_truths (d + 2) (whileBody (nthS bd_law_truths 1)) (truthV TT TW full r H.length (H.length + 1) (H.length + 2) v) (H2 ++ [O.list []]) Q' := by
      rintro ws' ms' ext p rfl rfl l1 l2 hp Q' hq
      have kk : KX [H.length, H.length + 1] H (H2 ++ [O.list []]) := kx12.trans .app
      exact met_turn (d := d + 1) c (b.kx kk (by simp; walk_at "om")) hl (kk.at_ _ (by simp; walk_at "om") _ hTW) (app_l hw2) (app_l hm2) (by walk_at "om") (by walk_at "om") (by walk_at "om") (by walk_at "om") (by walk_at "om") (by walk_at "om") (by walk_at "om") hp fun H' kx' a1 a2 => hq H' ((kx2.trans .app).trans kx') a1 a2
    rcases hcase with ⟨rfl, e1, e2⟩ | ⟨rfl, e1, e2⟩ | ⟨rfl, e1, e2⟩ | ⟨rfl, rfl, _⟩
    · exact mt [] [] [x, y] r e1 e2 (by simp) (by simp) (.inr ⟨hr, _, ht, rfl, by simp⟩) fun H' a1 a2 a3 => ⟨2, by walk_at "om", _, _, _, rfl, a1, a2, a3, .inr (.inl ⟨rfl, rfl, rfl⟩)⟩
    · exact mt [x] [r] [] y e1 e2 (by simp) (by simp) py.met fun H' a1 a2 a3 => ⟨1, by walk_at "om", _, _, _, rfl, a1, a2, a3, .inr (.inr (.inl ⟨rfl, rfl, rfl⟩))⟩
    · exact mt [] [r, y] [] x e1 e2 (by simp) (by simp) px.met fun H' a1 a2 a3 => ⟨0, by walk_at "om", _, _, _, rfl, a1, a2, a3, .inr (.inr (.inr ⟨rfl, rfl, rfl⟩))⟩
    · simp at h
end

theorem dput_new {K : Type} [DecidableEq K] {fs : List (K × V)} {x : K} {v : V} (h : x ∉ fs.map (·.1)) : dput fs x v = fs ++ [(x, v)] := by
  unfold dput
  rw [if_neg]
  intro ha
  obtain ⟨kv, h1, h2⟩ := List.any_eq_true.mp ha
  exact h (List.mem_map.mpr ⟨kv, h1, by simpa using h2⟩)
section
variable {w : World} {B : Heap} {d : Nat} {H : List O} {Q : V → List O → Prop} {β : Bk} {names : Names} {vals : Vals}

/-- an attribute of the own bank, new -/
theorem ev1_selfL (c : Cx B) {value : PySem.Expr} {attr x : Str} {k : NameKind} {xp p' pos : Pos} {fs : List (Str × V)} {o0 o1 o2 : O} {r : List O} {v : V} {Q : Fl → Vals → List O → Prop} (tk : TakeIs c.K c.cTB attr) (hs : ∀ env, swapsWith value (some (.Attribute (.Name x xp) attr p')) pos.line env = pure false)
    (l : Look names vals x k (.ref 4)) (hk : k = .local ∨ k = .cell ∨ k = .free) (hl : fs.length ≤ 900) (na : attr ∉ fs.map (·.1))
    (h : EvE prg w B names d value vals H fun v' H₁ => v' = v ∧ H₁ = o0 :: o1 :: o2 :: .ns fs :: .inst c.cTB 3 :: r)
    (q : Q .next vals (o0 :: o1 :: o2 :: .ns (fs ++ [(attr, v)]) :: .inst c.cTB 3 :: r)) : Ev1 prg w B names d (.Assign [.Attribute (.Name x xp) attr p'] value pos) vals H Q := by
  refine ev1_AssignAttr c.X hs (h.mono fun v' H₁ ⟨e1, e2⟩ => ?_)
  subst e1 e2
  refine ev_local l hk ⟨4, c.cTB, 3, fs, rfl, c.sto_cTB, tk, rfl, rfl, hl, ?_⟩
  rw [dput_new na]
  exact q
theorem ev1_selfA (c : Cx B) {value : PySem.Expr} {attr x : Str} {k : NameKind} {xp p' pos : Pos} {fs : List (Str × V)} {Q : Fl → Vals → List O → Prop} (tk : TakeIs c.K c.cTB attr) (hs : ∀ env, swapsWith value (some (.Attribute (.Name x xp) attr p')) pos.line env = pure false)
    (l : Look names vals x k (.ref 4)) (hk : k = .local ∨ k = .cell ∨ k = .free) (hl : fs.length ≤ 900) (na : attr ∉ fs.map (·.1))
    (h : EvE prg w B names d value vals H fun v H₁ => H₁[4]? = some (.inst c.cTB 3) ∧ H₁[3]? = some (.ns fs) ∧ Q .next vals (H₁.set 3 (.ns (fs ++ [(attr, v)])))) : Ev1 prg w B names d (.Assign [.Attribute (.Name x xp) attr p'] value pos) vals H Q := by
  refine ev1_AssignAttr c.X hs (h.mono fun v' H₁ ⟨e1, e2, e3⟩ => ?_)
  refine ev_local l hk ⟨4, c.cTB, 3, fs, rfl, c.sto_cTB, tk, e1, e2, hl, ?_⟩
  rw [dput_new na]
  exact e3
theorem BankPre.setNs {C : Addr} {fs fs' : List (Str × V)} (b : BankPre C fs β H) : BankPre C fs' β (H.set 3 (.ns fs')) :=
  ⟨set_eq b.h3, set_ne b.h4 (by decide), set_ne b.h5 (by decide), set_ne b.h6 (by decide), set_ne b.h7 (by decide), set_ne b.h8 (by decide), set_ne b.h9 (by decide), set_ne b.h10 (by decide), set_ne b.h11 (by decide), set_ne b.h12 (by decide), set_ne b.h13 (by decide), set_ne b.h14 (by decide)⟩
noncomputable abbrev fs9 : List (Str × V) := [(Str.ofString "sort_names", .ref 5), (Str.ofString "sort_widths", .ref 6), (Str.ofString "fun_names", .ref 7), (Str.ofString "fun_args", .ref 8), (Str.ofString "fun_results", .ref 9), (Str.ofString "fresh_count", .int 0)]
noncomputable abbrev fs14 : List (Str × V) := fs9 ++ [(Str.ofString "term_ops", .ref 10), (Str.ofString "term_args", .ref 11), (Str.ofString "term_sorts", .ref 12), (Str.ofString "term_datas", .ref 13), (Str.ofString "numbers", .ref 14)]
noncomputable abbrev beta0 : Bk := ⟨[.str (Str.ofString "Bool"), .str (Str.ofString "Int"), .str (Str.ofString "Real")], [0, 0, 0], [], [], [], [⟨Str.ofString "", [], 0, .i 0⟩], []⟩
noncomputable abbrev beta2 : Bk := { beta0 with terms := [⟨Str.ofString "", [], 0, .i 0⟩, trueT, falseT] }
theorem mkNs14 : MkNs fs14 := ⟨by walk_at "flook", by walk_at "flook", by walk_at "flook", by walk_at "flook", by walk_at "flook"⟩
theorem mkNs15 : MkNs (fs14 ++ [(Str.ofString "true_number", .int 1)]) := ⟨by walk_at "flook", by walk_at "flook", by walk_at "flook", by walk_at "flook", by walk_at "flook"⟩
theorem beta0_ok : BkOk beta0 := ⟨by decide, List.nodup_nil, rfl, (fun wd v h => nomatch h), by decide⟩
theorem true_false : trueT ≠ falseT := by decide +kernel

noncomputable abbrev H14 (C : Addr) (o0 o1 o2 : O) : List O := [o0, o1, o2, .ns fs14, .inst C 3, .list beta0.names, .list (beta0.widths.map .int), .list beta0.f1, .list beta0.f2, .list beta0.f3, .list (beta0.terms.map fun x => .str x.op), .list (beta0.terms.map fun x => .tup (x.args.map .int)), .list (beta0.terms.map fun x => .int x.sort),
  .list (beta0.terms.map fun x => x.data.v), .kdict []]
theorem H14_at (C : Addr) (o0 o1 o2 : O) : BankPre C fs14 beta0 (H14 C o0 o1 o2) := ⟨rfl, rfl, rfl, rfl, rfl, rfl, rfl, rfl, rfl, rfl, rfl, rfl⟩

theorem bank_init (c : Cx B) {o0 o1 o2 : O} (q : ∀ H', BankPre c.cTB (fs14 ++ [(Str.ofString "true_number", .int 1)] ++ [(Str.ofString "false_number", .int 2)]) beta2 H' → H'.length = 15 → (∀ i, i < 3 → H'[i]? = [o0, o1, o2][i]?) → Q .none H') :
    CallC prg w B (d + 2) c.f_Bank_init [.ref 4] [o0, o1, o2, .ns [], .inst c.cTB 3] Q := by
  refine call_def c.F_Bank_init rfl ?_
  walk_at "vals"
  refine evS_cons (ev1_selfL c (v := .ref 5) (fs := []) c.T_sort_names (fun _ => rfl) (by with_reducible walk_at "look") (.inl rfl) (by decide) (by decide +kernel) (ev_List rfl (ev_str (ev_str (ev_str ⟨by simp, rfl, rfl⟩)))) ?_)
  refine evS_cons (ev1_selfL c (v := .ref 6) c.T_sort_widths (fun _ => rfl) (by with_reducible walk_at "look") (.inl rfl) (by decide) (by decide +kernel) (ev_List rfl (ev_int (ev_int (ev_int ⟨by simp, rfl, rfl⟩)))) ?_)
  refine evS_cons (ev1_selfL c (v := .ref 7) c.T_fun_names (fun _ => rfl) (by with_reducible walk_at "look") (.inl rfl) (by decide) (by decide +kernel) (ev_List rfl ⟨by simp, rfl, rfl⟩) ?_)
  refine evS_cons (ev1_selfL c (v := .ref 8) c.T_fun_args (fun _ => rfl) (by with_reducible walk_at "look") (.inl rfl) (by decide) (by decide +kernel) (ev_List rfl ⟨by simp, rfl, rfl⟩) ?_)
  refine evS_cons (ev1_selfL c (v := .ref 9) c.T_fun_results (fun _ => rfl) (by with_reducible walk_at "look") (.inl rfl) (by decide) (by decide +kernel) (ev_List rfl ⟨by simp, rfl, rfl⟩) ?_)
  refine evS_cons (ev1_selfL c (v := .int 0) c.T_fresh_count (fun _ => rfl) (by with_reducible walk_at "look") (.inl rfl) (by decide) (by decide +kernel) (ev_int ⟨rfl, rfl⟩) ?_)
  refine evS_cons (ev1_selfL c (v := .ref 10) c.T_term_ops (fun _ => rfl) (by with_reducible walk_at "look") (.inl rfl) (by decide) (by decide +kernel) (ev_List rfl (ev_str ⟨by simp, rfl, rfl⟩)) ?_)
  refine evS_cons (ev1_selfL c (v := .ref 11) c.T_term_args (fun _ => rfl) (by with_reducible walk_at "look") (.inl rfl) (by decide) (by decide +kernel) (ev_List rfl (ev_Tuple rfl (by decide) ⟨by simp, ⟨by simp, rfl, rfl⟩⟩)) ?_)
  obtain ⟨tb, gb⟩ := c.G_BOOL
  refine evS_cons (ev1_selfL c (v := .ref 12) c.T_term_sorts (fun _ => rfl) (by with_reducible walk_at "look") (.inl rfl) (by decide) (by decide +kernel) (ev_List rfl (ev_globInt (by with_reducible walk_at "has") gb ⟨by simp, rfl, rfl⟩)) ?_)
  refine evS_cons (ev1_selfL c (v := .ref 13) c.T_term_datas (fun _ => rfl) (by with_reducible walk_at "look") (.inl rfl) (by decide) (by decide +kernel) (ev_List rfl (ev_int ⟨by simp, rfl, rfl⟩)) ?_)
  refine evS_cons (ev1_selfL c (v := .ref 14) c.T_numbers (fun _ => rfl) (by with_reducible walk_at "look") (.inl rfl) (by decide) (by decide +kernel) (ev_Dict0 (.kdict []) new_kdict ⟨rfl, rfl⟩) ?_)
  show EvS prg w B _ _ _ _ (H14 c.cTB o0 o1 o2) _
  have b0 := H14_at c.cTB o0 o1 o2
  have l0 : (H14 c.cTB o0 o1 o2).length = 15 := rfl
  have a0 : ∀ i, i < 3 → (H14 c.cTB o0 o1 o2)[i]? = [o0, o1, o2][i]? := fun i hi => by
    match i, hi with
    | 0, _ => rfl
    | 1, _ => rfl
    | 2, _ => rfl
  have s0 : ∀ i, i < 3 → ∃ o, [o0, o1, o2][i]? = some o := fun i hi => by
    match i, hi with
    | 0, _ => exact ⟨_, rfl⟩
    | 1, _ => exact ⟨_, rfl⟩
    | 2, _ => exact ⟨_, rfl⟩
  generalize H14 c.cTB o0 o1 o2 = H0 at b0 l0 a0
  refine evS_cons (ev1_selfA c (fs := fs14) c.T_true_number (fun _ => rfl) (by with_reducible walk_at "look") (.inl rfl) (by decide) (by decide +kernel) ?_)
  refine ev_Do c.X rfl rfl (by decide) rfl c.cls_cTB b0.h4 b0.h3 c.M_Bank_make (by decide +kernel) c.F_Bank_make (d' := d + 1) (by walk_at "om") ?_
  walk_at "obj"
  refine ev_str (ev_Tuple rfl (by decide) ⟨by simp, ev_globInt (by with_reducible walk_at "has") gb (ev_int ?_)⟩)
  refine make_pre c b0 mkNs14 beta0_ok (by decide) trueT (key_ok _ ok_true rfl) fun t β1 H1 m1 b1 kp1 => ?_
  obtain ⟨rfl, rfl⟩ : t = 1 ∧ β1 = beta0.add trueT := by
    cases m1 with
    | old h1 h2 => match t, h1, h2 with
      | t + 1, _, h2 => simp at h2
    | new _ => exact ⟨rfl, rfl⟩
  refine ⟨b1.h4, b1.h3, ?_⟩
  rw [show ((1 : Nat) : Int) = 1 from rfl]
  have b2 : BankPre c.cTB (fs14 ++ [(Str.ofString "true_number", .int 1)]) (beta0.add trueT) (H1.set 3 (.ns (fs14 ++ [(Str.ofString "true_number", .int 1)]))) := b1.setNs
  have l2 : (H1.set 3 (.ns (fs14 ++ [(Str.ofString "true_number", .int 1)]))).length = 15 := by rw [List.length_set, kp1.len, l0]
  have a2 : ∀ i, i < 3 → (H1.set 3 (.ns (fs14 ++ [(Str.ofString "true_number", .int 1)])))[i]? = [o0, o1, o2][i]? := fun i hi => by
    obtain ⟨o, ho⟩ := s0 i hi
    rw [ho]
    exact set_ne (kp1.at_ i (by walk_at "om") o (by rw [a0 i hi]; exact ho)) (by walk_at "om")
  generalize H1.set 3 (.ns (fs14 ++ [(Str.ofString "true_number", .int 1)])) = H2 at b2 l2 a2
  refine evS_cons (ev1_selfA c (fs := fs14 ++ [(Str.ofString "true_number", .int 1)]) c.T_false_number (fun _ => rfl) (by with_reducible walk_at "look") (.inl rfl) (by decide) (by decide +kernel) ?_)
  refine ev_Do c.X rfl rfl (by decide) rfl c.cls_cTB b2.h4 b2.h3 c.M_Bank_make (by decide +kernel) c.F_Bank_make (d' := d + 1) (by walk_at "om") ?_
  walk_at "obj"
  refine ev_str (ev_Tuple rfl (by decide) ⟨by simp, ev_globInt (by with_reducible walk_at "has") gb (ev_int ?_)⟩)
  refine make_pre c b2 mkNs15 (m1.grow.ok beta0_ok) (by decide) falseT (key_ok _ ok_false rfl) fun t β2 H3 m2 b3 kp3 => ?_
  obtain ⟨rfl, rfl⟩ : t = 2 ∧ β2 = beta2 := by
    cases m2 with
    | old h1 h2 => match t, h1, h2 with
      | 1, _, h2 => exact absurd (Option.some.inj h2) true_false
      | t + 2, _, h2 => simp [Bk.add] at h2
    | new _ => exact ⟨rfl, rfl⟩
  refine ⟨b3.h4, b3.h3, ?_⟩
  rw [show ((2 : Nat) : Int) = 2 from rfl]
  refine evS_nil (q _ b3.setNs (by rw [List.length_set, kp3.len, l2]) fun i hi => ?_)
  obtain ⟨o, ho⟩ := s0 i hi
  rw [ho]
  exact set_ne (kp3.at_ i (by walk_at "om") o (by rw [a2 i hi]; exact ho)) (by walk_at "om")
end

theorem at_mid {H r : List O} {x : O} : (H ++ x :: r)[H.length]? = some x := by simp
theorem at_mid1 {H r : List O} {x y : O} : (H ++ x :: y :: r)[H.length + 1]? = some y := by
  rw [List.getElem?_append_right (by walk_at "om")]; simp
theorem set_mid {x y : O} : ∀ {H r : List O}, (H ++ x :: r).set H.length y = H ++ y :: r
  | [], _ => rfl
  | a :: H, r => by rw [List.cons_append, List.length_cons, List.set_cons_succ, set_mid, List.cons_append]
section
variable {w : World} {B : Heap} {d : Nat} {H : List O} {Q : V → List O → Prop} {β : Bk} {names : Names} {vals : Vals}

theorem bank_made (c : Cx B) {o0 o1 o2 : O} (q : ∀ H', BankAt c.cTB fsB beta2 H' → H'.length = 16 → (∀ i, i < 3 → H'[i]? = [o0, o1, o2][i]?) → Q (.ref 4) H') : CalV prg w B (d + 4) (.val (.ref c.cTB)) [] [o0, o1, o2] Q := by
  obtain ⟨p, loose, mg, mb, T⟩ := c.top
  refine calV_make (d' := d + 3) c.X c.mak_cTB (by walk_at "om") ?_
  show CallC prg w B (d + 3) c.f_TermBank_init [.ref 4] [o0, o1, o2, .ns [], .inst c.cTB 3] _
  refine c.sup.call c.X T (n := 4) rfl (bank_init c fun H1 b1 l1 a1 => ?_)
  refine evS_cons (ev1_selfA c (fs := fs14 ++ [(Str.ofString "true_number", .int 1)] ++ [(Str.ofString "false_number", .int 2)]) c.T_bv_numbers (fun _ => rfl) (by with_reducible walk_at "look") (.inl rfl) (by decide) (by decide +kernel) (ev_Dict0 (.idict []) new_idict ⟨app_l b1.h4, app_l b1.h3, ?_⟩))
  rw [l1]
  refine evS_nil ⟨rfl, ?_⟩
  have b2 : BankPre c.cTB (fs14 ++ [(Str.ofString "true_number", .int 1)] ++ [(Str.ofString "false_number", .int 2)]) beta2 (H1 ++ [O.idict []]) := ⟨app_l b1.h3, app_l b1.h4, app_l b1.h5, app_l b1.h6, app_l b1.h7, app_l b1.h8, app_l b1.h9, app_l b1.h10, app_l b1.h11, app_l b1.h12, app_l b1.h13, app_l b1.h14⟩
  have h15 : (H1 ++ [O.idict []])[15]? = some (O.idict []) := by rw [← l1]; exact app_r
  refine q _ (BankPre.full (fs := fsB) (b2.setNs (fs' := fsB)) (set_ne h15 (by decide))) (by simp [l1]) fun i hi => ?_
  obtain ⟨o, ho⟩ : ∃ o, [o0, o1, o2][i]? = some o := ⟨_, List.getElem?_eq_getElem hi⟩
  rw [ho]
  exact set_ne (app_l (by rw [a1 i hi]; exact ho)) (by walk_at "om")

theorem ev1_selfR (c : Cx B) {value : PySem.Expr} {attr x : Str} {k : NameKind} {xp p' pos : Pos} {fs : List (Str × V)} {H0 r : List O} {v : V} {Q : Fl → Vals → List O → Prop} (tk : TakeIs c.K c.cBR attr) (hs : ∀ env, swapsWith value (some (.Attribute (.Name x xp) attr p')) pos.line env = pure false)
    (l : Look names vals x k (.ref (H0.length + 1))) (hk : k = .local ∨ k = .cell ∨ k = .free) (hl : fs.length ≤ 900) (na : attr ∉ fs.map (·.1))
    (h : EvE prg w B names d value vals H fun v' H₁ => v' = v ∧ H₁ = H0 ++ .ns fs :: .inst c.cBR H0.length :: r)
    (q : Q .next vals (H0 ++ .ns (fs ++ [(attr, v)]) :: .inst c.cBR H0.length :: r)) : Ev1 prg w B names d (.Assign [.Attribute (.Name x xp) attr p'] value pos) vals H Q := by
  refine ev1_AssignAttr c.X hs (h.mono fun v' H₁ ⟨e1, e2⟩ => ?_)
  subst e1 e2
  refine ev_local l hk ⟨H0.length + 1, c.cBR, H0.length, fs, rfl, c.sto_cBR, tk, at_mid1, at_mid, hl, ?_⟩
  rw [dput_new na, set_mid]
  exact q

theorem maker_made (c : Cx B) (b : BankAt c.cTB fsB β H) (q : ∀ H', MkAt c.cBR H.length (H.length + 2) H' → BankAt c.cTB fsB β H' → (∃ l, H' = H ++ l) → Q (.ref (H.length + 1)) H') : CalV prg w B (d + 3) (.val (.ref c.cBR)) [.ref 4] H Q := by
  have big := b.big
  refine calV_make (d' := d + 2) c.X c.mak_cBR (by walk_at "om") ?_
  refine call_def c.F_BoolRewriter_init rfl ?_
  walk_at "vals"
  have eH : H ++ [O.ns []] ++ [O.inst c.cBR H.length] = H ++ O.ns [] :: O.inst c.cBR H.length :: [] := by simp
  rw [eH]
  have bx : ∀ r, BankAt c.cTB fsB β (H ++ r) := fun r => b.app
  refine evS_cons (ev1_selfR c (fs := []) (v := .ref 4) (r := []) c.T_bank (fun _ => rfl) (by with_reducible walk_at "look") (.inl rfl) (by decide) (by decide +kernel) ?_ ?_)
  · walk_at "loc"
    exact ⟨rfl, rfl⟩
  refine evS_cons (ev1_selfR c (fs := [(Str.ofString "bank", .ref 4)]) (v := .int 1) (r := []) c.T_yes (fun _ => rfl) (by with_reducible walk_at "look") (.inl rfl) (by decide) (by decide +kernel) ?_ ?_)
  · refine ev_Do c.X rfl rfl (by decide) rfl c.cls_cTB (bx _).h4 (bx _).h3 c.M_Bank_true_term na_true_term c.F_Bank_true_term (d' := d + 1) (by walk_at "om") ?_
    walk_at "obj"
    exact true_spec c (bx _) ⟨rfl, rfl⟩
  refine evS_cons (ev1_selfR c (fs := [(Str.ofString "bank", .ref 4), (Str.ofString "yes", .int 1)]) (v := .int 2) (r := []) c.T_no (fun _ => rfl) (by with_reducible walk_at "look") (.inl rfl) (by decide) (by decide +kernel) ?_ ?_)
  · refine ev_Do c.X rfl rfl (by decide) rfl c.cls_cTB (bx _).h4 (bx _).h3 c.M_Bank_false_term na_false_term c.F_Bank_false_term (d' := d + 1) (by walk_at "om") ?_
    walk_at "obj"
    exact false_spec c (bx _) ⟨rfl, rfl⟩
  have el : ∀ x : O, (H ++ x :: O.inst c.cBR H.length :: []).length = H.length + 2 := fun x => by simp
  refine evS_cons (ev1_selfR c (fs := [(Str.ofString "bank", .ref 4), (Str.ofString "yes", .int 1), (Str.ofString "no", .int 2)]) (v := .ref (H.length + 2)) (r := [.idict []]) c.T_known (fun _ => rfl) (by with_reducible walk_at "look") (.inl rfl) (by decide) (by decide +kernel) (ev_Dict0 (.idict []) new_idict ⟨by rw [el], by simp⟩) ?_)
  refine evS_nil ⟨rfl, q _ ⟨by walk_at "om", at_mid, at_mid1⟩ b.app ⟨_, rfl⟩⟩
end

/-- a term's parts have lower numbers -/
structure Low (β : Bk) : Prop where
  at_ : ∀ (i : Nat) (y : T), β.terms[i]? = some y → ∀ a ∈ y.args, a < (i : Int)
theorem Low.of_mk {β β' : Bk} {x : T} {t : Nat} (l : Low β) (m : Mk β x t β') (h : ∀ a ∈ x.args, a < (β.terms.length : Int)) : Low β' := by
  cases m with
  | old _ _ => exact l
  | new _ =>
    refine ⟨fun i y hy a ha => ?_⟩
    have hy' : (β.terms ++ [x])[i]? = some y := hy
    by_cases hi : i < β.terms.length
    · rw [List.getElem?_append_left hi] at hy'
      exact l.at_ i y hy' a ha
    · have hie : i = β.terms.length := by have := (List.getElem?_eq_some_iff.mp hy').1; simp at this; walk_at "om"
      subst hie
      rw [List.getElem?_append_right (Nat.le_refl _), Nat.sub_self] at hy'
      cases hy'
      exact h a ha
theorem Low.is_new {β β' : Bk} {x : T} {t u : Nat} (l : Low β) (m : Mk β x t β') (hu : u + 1 = β.terms.length) (h : (u : Int) ∈ x.args) : t = β.terms.length ∧ β' = β.add x := by
  cases m with
  | old h1 h2 =>
    have h3 := l.at_ t x h2 _ h
    have h4 := (List.getElem?_eq_some_iff.mp h2).1
    walk_at "om"
  | new _ => exact ⟨rfl, rfl⟩
structure NoApp (β : Bk) : Prop where
  at_ : ∀ y ∈ β.terms, (y.op == Str.ofString "app") = false
theorem NoApp.of_mk {β β' : Bk} {x : T} {t : Nat} (l : NoApp β) (m : Mk β x t β') (h : (x.op == Str.ofString "app") = false) : NoApp β' := by
  cases m with
  | old _ _ => exact l
  | new _ =>
    refine ⟨fun y hy => ?_⟩
    rcases List.mem_append.mp hy with hy | hy
    · exact l.at_ y hy
    · rw [List.mem_singleton] at hy; subst hy; exact h
theorem NoApp.is_new {β β₁ β' : Bk} {s f : Int} {t : Nat} (l : NoApp β) (e : β₁.terms = β.terms) (m : Mk β₁ (appT s f) t β') : t = β.terms.length ∧ β' = β₁.add (appT s f) := by
  cases m with
  | old h1 h2 =>
    rw [e] at h2
    have := l.at_ _ (List.mem_of_getElem? h2)
    simp at this
  | new _ => exact ⟨by rw [e], rfl⟩
theorem beta2_base : Base beta2 := ⟨⟨by decide, by decide +kernel, rfl, (fun wd v h => nomatch h), by decide⟩, rfl, rfl⟩
theorem beta2_low : Low beta2 := ⟨fun i y h a ha => by
  have : y ∈ beta2.terms := List.mem_of_getElem? h
  have hn : y.args = [] := by
    have hh : ∀ z ∈ beta2.terms, z.args = [] := by decide
    exact hh y this
  rw [hn] at ha; cases ha⟩
theorem beta2_noapp : NoApp beta2 := ⟨by decide +kernel⟩
theorem bvnum_app : (Str.ofString "bvnum" == Str.ofString "app") = false := by decide +kernel
/-- a turn and what stands ahead in its terms -/
inductive RowR (β : Bk) (s : Int) : Tn → List Nat → Prop
  | no : RowR β s .no []
  | ne : RowR β s .ne []
  | ad {n k : Nat} : β.terms[k]? = some (numT s (n : Int)) → RowR β s (.ad n) [k]
  | xo {n k : Nat} : β.terms[k]? = some (numT s (n : Int)) → RowR β s (.xo n) [k]
theorem RowR.grow {β β' : Bk} {s : Int} {t : Tn} {l : List Nat} {a b : Nat} (x : RowR β s t l) (g : Grow β β' a b) : RowR β' s t l := by
  cases x with
  | no => exact .no
  | ne => exact .ne
  | ad h => exact .ad (g.at h)
  | xo h => exact .xo (g.at h)
noncomputable def rowV (p : Tn × List Nat) : V := .tup [.str p.1.op, .tup (natsV p.2)]
noncomputable abbrev rowsV (l : List (Tn × List Nat)) : List V := l.map rowV
noncomputable abbrev lawV (a : V) (W full s TT : Nat) (v7 v8 v9 v10 v11 v12 v13 v14 v15 v16 v17 v18 v19 : Option V) : Vals := [some a, some (.ref 2), some (.ref 4), some (.int (W : Int)), some (.int (full : Int)), some (.int (s : Int)), some (.ref TT), v7, v8, v9, v10, v11, v12, v13, v14, v15, v16, v17, v18, v19, none, none, none, none, none, none, none, none, none]
theorem KB.drop {bad : List Nat} {L : Nat} {H H' : List O} (x : KB (L :: bad) H H') (h : H.length ≤ L) : KB bad H H' :=
  ⟨x.len, fun i hi hn o e => x.at_ i hi (fun q => by
    rcases List.mem_cons.mp q with q | q
    · have := (List.getElem?_eq_some_iff.mp e).1; walk_at "om"
    · exact hn q) o e⟩
section
variable {w : World} {B : Heap} {d : Nat} {H : List O} {Q : V → List O → Prop} {β : Bk}
/-- the row of turns with its numbers -/
theorem rows_spec (c : Cx B) {a : V} {W full s TT : Nat} {ts : List Tn} (F : IsFull W full) (b : BankAt c.cTB fsB β H) (ok : BkOk β) (hl : β.terms.length ≤ 1000) (z : Sz β s W) (lo : Low β) (na : NoApp β) (hT : H[TT]? = some (.list (tnsV ts))) (hTb : 15 < TT) (h5 : ts.length ≤ 5) (tok : ∀ t ∈ ts, t.ok full)
    {Q : Fl → Vals → List O → Prop} (q : ∀ (R : Nat) (rows : List (Tn × List Nat)) β' H', rows.map (·.1) = ts → (∀ p ∈ rows, RowR β' s p.1 p.2) → BankAt c.cTB fsB β' H' → Grow β β' 5 0 → Sz β' s W → Low β' → NoApp β' → KB [] H H' → H'[R]? = some (.list (rowsV rows)) → H.length ≤ R →
      Q .next (lawV a W full s TT none (some (.ref R)) none none none none none none none none none none none) H') :
    Ev1 prg w B nm_law (d + 3) (nthS bd_law 4) (lawV a W full s TT none none none none none none none none none none none none none) H Q := by
  have big := b.big
  have hW : (1 : Int) ≤ (W : Int) ∧ (W : Int) ≤ 4096 := by rcases F with ⟨rfl, _⟩ | ⟨rfl, _⟩ <;> decide
  have hTl := (List.getElem?_eq_some_iff.mp hT).1
  refine ev1_AssignComp (.list TT) H.length ts.length (fun i ys H' => ∃ (rows : List (Tn × List Nat)) (β' : Bk), i ≤ ts.length ∧ rows.map (·.1) = ts.take i ∧ ys = rowsV rows ∧ (∀ p ∈ rows, RowR β' s p.1 p.2) ∧ BankAt c.cTB fsB β' H' ∧ Grow β β' i 0 ∧ Sz β' s W ∧ Low β' ∧ NoApp β' ∧ KB [H.length] (H ++ [.list []]) H' ∧ H'[H.length]? = some (.list ys))
    (fun _ _ => rfl) rfl (by with_reducible walk_at "rel") (by decide +kernel) (by decide +kernel) (by with_reducible walk_at "cv") (by with_reducible walk_at "has") rfl rfl ?_ ?_ ?_ ?_
  · walk_at "loc"
    exact ⟨.list, rfl, ⟨_, hT⟩, [], β, by walk_at "om", rfl, rfl, by simp, b.app, .refl _, z, lo, na, .refl _ _, app_r⟩
  · rintro i ys H' ⟨rows, β', hi, hr, rfl, _, _, _, _, _, _, kp, hacc⟩
    have hrl : rows.length = i := by have := congrArg List.length hr; simp at this; walk_at "om"
    exact ⟨⟨_, kp.at_ _ (.inr hTb) (by simp; walk_at "om") _ (app_l hT)⟩, hi, hacc, by simp; walk_at "om"⟩
  · rintro i ys H' ⟨rows, β', hi, hr, rfl, hrow, b', g, z', lo', na', kp, hacc⟩ hn
    have hT' := kp.at_ _ (.inr hTb) (by simp; walk_at "om") _ (app_l (H' := [.list []]) hT)
    have ei : itemAt (.list TT) H' i = (tnsV ts)[i]? := by
      show (match H'[TT]? with | some (.list vs) => vs[i]? | _ => none) = _
      rw [hT']
    rw [ei, List.getElem?_eq_none_iff, List.length_map] at hn
    have hie : i = ts.length := by walk_at "om"
    subst hie
    rw [List.take_length] at hr
    have kph : KB [] H H' := (KB.app.trans kp).drop (Nat.le_refl _)
    exact ⟨_, by with_reducible walk_at "put", q H.length rows β' H' hr hrow b' (g.mono h5 (Nat.le_refl _)) z' lo' na' kph hacc (Nat.le_refl _)⟩
  · rintro i ys H' v ⟨rows, β', hi, hr, rfl, hrow, b', g, z', lo', na', kp, hacc⟩ hv
    have hT' := kp.at_ _ (.inr hTb) (by simp; walk_at "om") _ (app_l (H' := [.list []]) hT)
    have ei : itemAt (.list TT) H' i = (tnsV ts)[i]? := by
      show (match H'[TT]? with | some (.list vs) => vs[i]? | _ => none) = _
      rw [hT']
    rw [ei, List.getElem?_map] at hv
    obtain ⟨t, ht, rfl⟩ := Option.map_eq_some_iff.mp hv
    have hil := (List.getElem?_eq_some_iff.mp ht).1
    have tk := tok t (List.mem_of_getElem? ht)
    have gt := g.tl
    rw [Tn.v_eq]
    -- how it goes on
    have nxt : ∀ (l : List Nat) (β'' : Bk) (H'' : List O), RowR β'' s t l → Grow β' β'' 1 0 → Sz β'' s W → Low β'' → NoApp β'' → BankAt c.cTB fsB β'' H'' → Keep H' H'' →
        H''[H.length]? = some (.list (rowsV rows)) ∧ ∃ (rows' : List (Tn × List Nat)) (β₂ : Bk), i + 1 ≤ ts.length ∧ rows'.map (·.1) = ts.take (i + 1) ∧ rowsV rows ++ [rowV (t, l)] = rowsV rows' ∧ (∀ p ∈ rows', RowR β₂ s p.1 p.2) ∧ BankAt c.cTB fsB β₂ (H''.set H.length (.list (rowsV rows ++ [rowV (t, l)]))) ∧ Grow β β₂ (i + 1) 0 ∧ Sz β₂ s W ∧ Low β₂ ∧ NoApp β₂ ∧ KB [H.length] (H ++ [.list []]) (H''.set H.length (.list (rowsV rows ++ [rowV (t, l)]))) ∧ (H''.set H.length (.list (rowsV rows ++ [rowV (t, l)])))[H.length]? = some (.list (rowsV rows ++ [rowV (t, l)])) := by
      intro l β'' H'' hrr g'' z'' lo'' na'' b'' kp''
      have hacc' := kp''.at_ _ (.inr big) _ hacc
      refine ⟨hacc', rows ++ [(t, l)], β'', hil, by rw [List.map_append, hr, take_snoc ht]; rfl, by simp, fun p hp => ?_, b''.set (.inr big), (g.trans g'').mono (by walk_at "om") (by walk_at "om"), z'', lo'', na'', (kp.trans kp''.kb).trans (.set (by simp)), set_eq hacc'⟩
      rcases List.mem_append.mp hp with hp | hp
      · exact (hrow p hp).grow g''
      · rw [List.mem_singleton] at hp; subst hp; exact hrr
    have g0 : Grow β' β' 1 0 := (Grow.refl β').mono (by walk_at "om") (by walk_at "om")
    refine ⟨_, .tup (xs := [(Str.ofString "op", _), (Str.ofString "number", _)]) rfl (.cons (by with_reducible walk_at "putn") (.cons (by with_reducible walk_at "putn") .nil)), fun _ => ?_, fun h => (by cases h)⟩
    refine ev_Tuple rfl (by decide) ?_
    walk_at "loc"
    refine ev_IfExp (evT_Cmp rfl ?_)
    walk_at "loc"
    refine ev_none ?_
    cases t with
    | no =>
      refine w_is_none rfl ⟨_, rfl, fun _ => ?_, fun h => nomatch h⟩
      refine ev_Tuple rfl (by decide) ⟨by simp, by simp, ?_⟩
      exact nxt [] β' H' .no g0 z' lo' na' b' (.refl _)
    | ne =>
      refine w_is_none rfl ⟨_, rfl, fun _ => ?_, fun h => nomatch h⟩
      refine ev_Tuple rfl (by decide) ⟨by simp, by simp, ?_⟩
      exact nxt [] β' H' .ne g0 z' lo' na' b' (.refl _)
    | ad n =>
      refine w_is_none rfl ⟨_, rfl, (fun h => nomatch h), fun _ => ?_⟩
      refine ev_Tuple rfl (by decide) (ev_Do c.X rfl rfl (by decide) rfl c.cls_cTB b'.h4 b'.h3 c.M_TermBank_bv_num na_bv_num c.F_TermBank_bv_num (d' := d + 2) (by walk_at "om") ?_)
      walk_at "obj"
      walk_at "loc"
      walk_at "loc"
      refine num_old (v := (n : Int)) c b' (g.ok ok) (by walk_at "om") z' hW.1 hW.2 fun k β'' H'' m b'' kp'' => ?_
      rw [num_intF F tk] at m
      exact ⟨by simp, by simp, nxt [k] β'' H'' (.ad m.at) m.grow (z'.of_mk m) (lo'.of_mk m (fun a ha => nomatch ha)) (na'.of_mk m bvnum_app) b'' kp''⟩
    | xo n =>
      refine w_is_none rfl ⟨_, rfl, (fun h => nomatch h), fun _ => ?_⟩
      refine ev_Tuple rfl (by decide) (ev_Do c.X rfl rfl (by decide) rfl c.cls_cTB b'.h4 b'.h3 c.M_TermBank_bv_num na_bv_num c.F_TermBank_bv_num (d' := d + 2) (by walk_at "om") ?_)
      walk_at "obj"
      walk_at "loc"
      walk_at "loc"
      refine num_old (v := (n : Int)) c b' (g.ok ok) (by walk_at "om") z' hW.1 hW.2 fun k β'' H'' m b'' kp'' => ?_
      rw [num_intF F tk] at m
      exact ⟨by simp, by simp, nxt [k] β'' H'' (.xo m.at) m.grow (z'.of_mk m) (lo'.of_mk m (fun a ha => nomatch ha)) (na'.of_mk m bvnum_app) b'' kp''⟩
end

noncomputable abbrev towE (x m : Nat) : List (Int × V) := (List.range (m + 1)).map fun j => (((x + j : Nat) : Int), V.int (j : Int))
theorem towE_len (x m : Nat) : (towE x m).length = m + 1 := by simp
theorem towE_put (x m : Nat) : dput (towE x m) ((x + m + 1 : Nat) : Int) (.int ((m + 1 : Nat) : Int)) = towE x (m + 1) := by
  rw [dput_new]
  · rw [towE, towE, List.range_succ (n := m + 1), List.map_append]; rfl
  · intro h
    rw [List.map_map] at h
    obtain ⟨j, h1, h2⟩ := List.mem_map.mp h
    have := List.mem_range.mp h1
    have h2 : ((x + j : Nat) : Int) = ((x + m + 1 : Nat) : Int) := h2
    walk_at "om"
theorem dget_range (x : Nat) : ∀ (m : Nat) (z : Int), dget ((List.range m).map fun j => (((x + j : Nat) : Int), V.int (j : Int))) z = if (x : Int) ≤ z ∧ z < (x : Int) + (m : Int) then some (.int (z - (x : Int))) else none
  | 0, z => by rw [if_neg (by walk_at "om")]; rfl
  | m + 1, z => by
    have ih := dget_range x m z
    rw [List.range_succ, List.map_append]
    unfold dget at ih ⊢
    rw [List.find?_append]
    by_cases h : (x : Int) ≤ z ∧ z < (x : Int) + (m : Int)
    · rw [if_pos h] at ih
      rw [if_pos (by walk_at "om")]
      obtain ⟨kv, h1, h2⟩ := Option.map_eq_some_iff.mp ih
      rw [h1]; exact congrArg some h2
    · rw [if_neg h] at ih
      rw [Option.map_eq_none_iff.mp ih]
      by_cases h' : z = ((x + m : Nat) : Int)
      · subst h'
        rw [if_pos (by walk_at "om")]
        simp
        walk_at "om"
      · rw [if_neg (by walk_at "om")]
        simp
        walk_at "om"
theorem towE_is (x m : Nat) : TwD (towE x m) x m := by
  refine ⟨fun j hj => ?_, fun z hz => ?_⟩
  · rw [towE, dget_range, if_pos (by walk_at "om")]
    congr 2; walk_at "om"
  · rw [towE, dget_range, if_neg (by walk_at "om")]
theorem Tow.tail {β : Bk} {s : Int} {x : Nat} {t : Tn} {l : List Tn} (h : Tow β s x (t :: l)) : Tow β s x l := by
  cases h with
  | no h _ => exact h
  | ne h _ => exact h
  | ad h _ _ => exact h
  | xo h _ _ => exact h
theorem Tow.down {β : Bk} {s : Int} {x : Nat} {ts : List Tn} (h0 : 0 < ts.length) : ∀ {m : Nat}, Tow β s x (stl ts m) → ∀ j, j ≤ m → Tow β s x (stl ts j)
  | 0, h, j, hj => by obtain rfl : j = 0 := by walk_at "om"
                      exact h
  | m + 1, h, j, hj => by
    by_cases e : j = m + 1
    · subst e; exact h
    · obtain ⟨t, _, e1⟩ := stl_succ (m := m) h0
      rw [e1] at h
      exact Tow.down h0 h.tail j (by walk_at "om")
structure TowI (C : Addr) (β : Bk) (s W x : Nat) (ts : List Tn) (rows : List (Tn × List Nat)) (TW m : Nat) (H : List O) : Prop where
  bank : BankAt C fsB β H
  ok : BkOk β
  low : Low β
  len : x + m + 1 = β.terms.length
  tow : Tow β s x (stl ts m)
  row : ∀ p ∈ rows, RowR β s p.1 p.2
  dict : H[TW]? = some (.idict (towE x m))
  z : Sz β s W
  wl : β.widths.length ≤ 1000
theorem op_ok (t : Tn) : PyData.strOk t.op = true := by
  cases t
  · exact ok_bvnot
  · exact ok_bvneg
  · exact ok_bvadd
  · exact ok_bvxor
section
variable {w : World} {B : Heap} {d : Nat} {H : List O} {Q : V → List O → Prop} {β : Bk}
/-- one turn more upon the tower -/
theorem tower_turn (c : Cx B) {a : V} {W full s TT R TW x m at_ st lap : Nat} {ts : List Tn} {rows : List (Tn × List Nat)} {p : Tn × List Nat} (I : TowI c.cTB β s W x ts rows TW m H) (hTW : 15 < TW) (h0 : 0 < ts.length) (hx : x ≤ 1000) (hm : m ≤ 5000) (hp : p ∈ rows) (hpt : ts[m % ts.length]? = some p.1)
    {Q : Fl → Vals → List O → Prop} (q : ∀ β' H', TowI c.cTB β' s W x ts rows TW (m + 1) H' → Grow β β' 1 0 → KB [TW] H H' → Q .next (lawV a W full s TT (some (.str p.1.op)) (some (.ref R)) (some (.int ((x + (m + 1) : Nat) : Int))) (some (.int (at_ : Int))) (some (.ref TW)) (some (.int (st : Int))) (some (.int (lap : Int))) (some (.tup (natsV p.2))) none none none none none) H') :
    EvS prg w B nm_law (d + 2) (whileBody (nthS (whileBody (nthS bd_law 7)) 1)) (lawV a W full s TT (some (.str p.1.op)) (some (.ref R)) (some (.int ((x + m : Nat) : Int))) (some (.int (at_ : Int))) (some (.ref TW)) (some (.int (st : Int))) (some (.int (lap : Int))) (some (.tup (natsV p.2))) none none none none none) H Q := by
  obtain ⟨b, ok, low, len, tow, row, dict, z, wl⟩ := I
  have hrow := row p hp
  have pl : p.2.length ≤ 1 := by
    generalize p.1 = p1 at hrow
    generalize p.2 = p2 at hrow
    cases hrow <;> simp
  refine evS_cons (ev1_Assign (fun _ => rfl) (ev_Do c.X rfl rfl (by decide) rfl c.cls_cTB b.h4 b.h3 c.M_Bank_make na_make c.F_Bank_make (d' := d + 1) (by walk_at "om") ?_))
  walk_at "obj"
  walk_at "loc"
  refine ev_BinOp ?_
  walk_at "loc"
  refine ev_Tuple rfl (by decide) ?_
  walk_at "loc"
  refine ⟨by simp, w_tup_add (by simp; walk_at "om") ?_⟩
  walk_at "loc"
  refine ev_int ?_
  have em : natsV p.2 ++ [V.int ((x + m : Nat) : Int)] = ((p.2.map fun b : Nat => (b : Int)) ++ [((x + m : Nat) : Int)]).map .int := by simp [natsV]
  rw [em]
  refine make_spec c b mkNsB ok (by walk_at "om") ⟨p.1.op, (p.2.map fun b : Nat => (b : Int)) ++ [((x + m : Nat) : Int)], s, .i 0⟩ (key_ok _ (op_ok _) rfl) fun t β' H' mk b' kp => ?_
  obtain ⟨rfl, hβ⟩ := low.is_new mk (u := x + m) (by walk_at "om") (by simp)
  have low' : Low β' := low.of_mk mk fun y hy => by
    rcases List.mem_append.mp hy with hy | hy
    · obtain ⟨k, hk, rfl⟩ := List.mem_map.mp hy
      have : ∃ z, β.terms[k]? = some z := by
        generalize p.1 = p1 at hrow
        generalize p.2 = p2 at hrow hk
        cases hrow with
        | no => cases hk
        | ne => cases hk
        | ad h => rw [List.mem_singleton] at hk; subst hk; exact ⟨_, h⟩
        | xo h => rw [List.mem_singleton] at hk; subst hk; exact ⟨_, h⟩
      obtain ⟨z, hz⟩ := this
      have := (List.getElem?_eq_some_iff.mp hz).1
      show (k : Int) < _
      walk_at "om"
    · rw [List.mem_singleton] at hy; subst hy
      show ((x + m : Nat) : Int) < _
      walk_at "om"
  have hat := mk.at
  have g := mk.grow
  have hlen' : x + (m + 1) + 1 = β'.terms.length := by rw [hβ]; show _ = (β.terms ++ [_]).length; simp; walk_at "om"
  have tow' : Tow β' s x (stl ts (m + 1)) := by
    obtain ⟨u, hu, e⟩ := stl_succ (m := m) h0
    rw [hpt] at hu
    cases hu
    rw [e]
    have tw := tow.grow g
    have hl := stl_len h0 m
    rw [← len] at hat
    have hrow' := hrow.grow g
    have e1 : x + m + 1 = x + ((stl ts m).length + 1) := by rw [hl]; walk_at "om"
    rw [e1, show x + m = x + (stl ts m).length by rw [hl]] at hat
    generalize p.1 = p1 at hrow' hat
    generalize p.2 = p2 at hrow' hat
    cases hrow' with
    | no => exact .no tw hat
    | ne => exact .ne tw hat
    | ad h => exact .ad tw h hat
    | xo h => exact .xo tw h hat
  rw [← len]
  walk_at "asg"
  have hd' := kp.at_ _ (.inr hTW) _ dict
  refine evS_cons (ev1_AssignSub (fun _ => rfl) (ev_Bi rfl (by with_reducible walk_at "has") c.U_len ?_))
  walk_at "loc"
  refine c_len_idict hd' (by rw [towE_len]; walk_at "om") ?_
  rw [towE_len]
  walk_at "loc"
  walk_at "loc"
  refine s_idict hd' (by rw [towE_len]; walk_at "om") ?_
  rw [towE_put]
  refine evS_nil (q β' _ ⟨b'.set (.inr hTW), g.ok ok, low', hlen', tow', fun p hp => (row p hp).grow g, set_eq hd', z.of_mk mk, by rw [mk.widths]; exact wl⟩ g (kp.kb.trans (.set (by simp))))
end

theorem laps_small {n : Nat} (h1 : 2 ≤ n) (h2 : n ≤ 5) : Builtin.divisionGoesByPylong 1000 (n : Int) = false ∧ (1000 : Int).fdiv (n : Int) = ((1000 / n : Nat) : Int) ∧ (1000 / n + 1) * n ≤ 1010 := by
  have : n = 2 ∨ n = 3 ∨ n = 4 ∨ n = 5 := by walk_at "om"
  rcases this with rfl | rfl | rfl | rfl <;> exact ⟨by decide +kernel, by decide +kernel, by decide⟩
section
variable {w : World} {B : Heap} {d : Nat} {H : List O} {Q : V → List O → Prop} {β : Bk}
theorem tower_loops (c : Cx B) {a : V} {W full s TT R TW x at_ : Nat} {ts : List Tn} {rows : List (Tn × List Nat)} (I : TowI c.cTB β s W x ts rows TW 0 H) (hTW : 15 < TW) (h2 : 2 ≤ ts.length) (h5 : ts.length ≤ 5) (hx : x ≤ 1000) (hr : rows.map (·.1) = ts) (hT : H[TT]? = some (.list (tnsV ts))) (hTb : 15 < TT) (nT : TT ≠ TW) (hR : H[R]? = some (.list (rowsV rows))) (hRb : 15 < R) (nR : R ≠ TW)
    {Q : Fl → Vals → List O → Prop} (q : ∀ (m st : Nat) β' H' v7 v13 v14, m ≤ 1010 → st ≤ m → TowI c.cTB β' s W x ts rows TW m H' → Grow β β' m 0 → KB [TW] H H' → Q .next (lawV a W full s TT v7 (some (.ref R)) (some (.int ((x + m : Nat) : Int))) (some (.int (at_ : Int))) (some (.ref TW)) (some (.int ((x + st : Nat) : Int))) v13 v14 none none none none none) H') :
    Ev1 prg w B nm_law (d + 2) (nthS bd_law 7) (lawV a W full s TT none (some (.ref R)) (some (.int (x : Int))) (some (.int (at_ : Int))) (some (.ref TW)) (some (.int (x : Int))) none none none none none none none) H Q := by
  obtain ⟨p1, p2, p3⟩ := laps_small h2 h5
  have h0 : 0 < ts.length := by walk_at "om"
  have rlen : rows.length = ts.length := by rw [← hr]; simp
  refine ev1_ForR (fun _ _ => rfl) (ev_Bi rfl (by with_reducible walk_at "has") c.U_range (ev_BinOp (ev_BinOp (ev_int (ev_Bi rfl (by with_reducible walk_at "has") c.U_len ?_)))))
  walk_at "loc"
  refine c_len_list hT (by simp; walk_at "om") ?_
  rw [show ((tnsV ts).length : Nat) = ts.length by simp]
  refine w_div (by walk_at "om") p1 (ev_int (w_add (c_range ?_)))
  rw [p2]
  have hq : 1000 / ts.length ≤ 500 := by
    have : 1000 / ts.length ≤ 1000 / 2 := Nat.div_le_div_left h2 (by decide)
    walk_at "om"
  refine ⟨1000 / ts.length + 1, fun i vals H' => ∃ (st : Nat) (β' : Bk) (v7 v13 v14 : Option V), vals = lawV a W full s TT v7 (some (.ref R)) (some (.int ((x + i * ts.length : Nat) : Int))) (some (.int (at_ : Int))) (some (.ref TW)) (some (.int ((x + st : Nat) : Int))) v13 v14 none none none none none ∧ st ≤ i * ts.length ∧ TowI c.cTB β' s W x ts rows TW (i * ts.length) H' ∧ Grow β β' (i * ts.length) 0 ∧ KB [TW] H H',
    by congr 1, by walk_at "om", ⟨0, β, none, none, none, by rw [Nat.zero_mul]; rfl, by walk_at "om", by rw [Nat.zero_mul]; exact I, (Grow.refl β).mono (by walk_at "om") (by walk_at "om"), .refl _ _⟩, ?_, ?_⟩
  · rintro vals H' ⟨st, β', v7, v13, v14, rfl, hst, I', g, kb⟩
    exact q _ st β' H' v7 v13 v14 p3 hst I' g kb
  · rintro i vals H' hi ⟨st, β', v7, v13, v14, rfl, hst, I', g, kb⟩
    have him : (i + 1) * ts.length ≤ 1010 := Nat.le_trans (Nat.mul_le_mul_right _ hi) p3
    have him' : i * ts.length + ts.length ≤ 1010 := by rw [← Nat.succ_mul]; exact him
    refine ⟨_, .name (by with_reducible walk_at "put") (.inl rfl), ?_⟩
    -- behind the storey's test
    have rest : ∀ st' : Nat, st' ≤ i * ts.length → EvS prg w B nm_law (d + 2) ((whileBody (nthS bd_law 7)).tail) (lawV a W full s TT v7 (some (.ref R)) (some (.int ((x + i * ts.length : Nat) : Int))) (some (.int (at_ : Int))) (some (.ref TW)) (some (.int ((x + st' : Nat) : Int))) (some (.int (i : Int))) v14 none none none none none) H' fun f vals'' H'' => match f with
        | .next | .cont => ∃ (st : Nat) (β' : Bk) (v7 v13 v14 : Option V), vals'' = lawV a W full s TT v7 (some (.ref R)) (some (.int ((x + (i + 1) * ts.length : Nat) : Int))) (some (.int (at_ : Int))) (some (.ref TW)) (some (.int ((x + st : Nat) : Int))) v13 v14 none none none none none ∧ st ≤ (i + 1) * ts.length ∧ TowI c.cTB β' s W x ts rows TW ((i + 1) * ts.length) H'' ∧ Grow β β' ((i + 1) * ts.length) 0 ∧ KB [TW] H H''
        | .brk => Q .next vals'' H''
        | .ret u => Q (.ret u) vals'' H'' := by
      intro st' hst'
      have hR' := kb.at_ _ (.inr hRb) (by simpa using nR) _ hR
      refine evS_cons (ev1_ForL (fun _ _ => rfl) ?_)
      walk_at "loc"
      refine ⟨R, rowsV rows, fun j vals H2 => ∃ (β2 : Bk) (v7 v14 : Option V), vals = lawV a W full s TT v7 (some (.ref R)) (some (.int ((x + (i * ts.length + j) : Nat) : Int))) (some (.int (at_ : Int))) (some (.ref TW)) (some (.int ((x + st' : Nat) : Int))) (some (.int (i : Int))) v14 none none none none none ∧ TowI c.cTB β2 s W x ts rows TW (i * ts.length + j) H2 ∧ Grow β' β2 j 0 ∧ KB [TW] H' H2, rfl, ⟨β', _, _, rfl, I', .refl _, .refl _ _⟩, ?_, ?_, ?_⟩
      · rintro j vals H2 ⟨β2, v7, v14, rfl, _, _, kb2⟩
        exact kb2.at_ _ (.inr hRb) (by simpa using nR) _ hR'
      · rintro vals H2 ⟨β2, v7, v14, rfl, I2, g2, kb2⟩
        have e : i * ts.length + (rowsV rows).length = (i + 1) * ts.length := by rw [List.length_map, rlen, Nat.succ_mul]
        rw [e] at I2
        refine evS_nil ⟨st', β2, _, _, _, by rw [e], by rw [Nat.succ_mul]; walk_at "om", I2, (g.trans g2).mono (by rw [← e]; exact Nat.le_refl _) (by walk_at "om"), kb.trans kb2⟩
      · rintro j vals H2 u hu ⟨β2, v7, v14, rfl, I2, g2, kb2⟩
        rw [List.getElem?_map] at hu
        obtain ⟨p, hp, rfl⟩ := Option.map_eq_some_iff.mp hu
        have hj := (List.getElem?_eq_some_iff.mp hp).1
        have hpt : ts[(i * ts.length + j) % ts.length]? = some p.1 := by
          rw [Nat.add_comm, Nat.add_mul_mod_self_right, Nat.mod_eq_of_lt (by walk_at "om")]
          have := congrArg (fun l => l[j]?) hr
          simp only [List.getElem?_map, hp] at this
          exact this.symm
        refine ⟨_, .tup (xs := [(Str.ofString "op", _), (Str.ofString "ahead", _)]) rfl (.cons (by with_reducible walk_at "put") (.inl rfl) (.cons (by with_reducible walk_at "put") (.inl rfl) .nil)), ?_⟩
        refine tower_turn c I2 hTW h0 hx (by walk_at "om") (List.mem_of_getElem? hp) hpt fun β3 H3 I3 g3 kb3 => ?_
        exact ⟨β3, _, _, rfl, I3, (g2.trans g3).mono (by walk_at "om") (by walk_at "om"), kb2.trans kb3⟩
    refine evS_cons (ev1_If (evT_Cmp rfl ?_))
    walk_at "loc"
    walk_at "loc"
    refine w_eq ⟨_, rfl, fun _ => ?_, fun _ => ?_⟩
    · refine evS_cons (ev1_Assign (fun _ => rfl) ?_)
      walk_at "loc"
      walk_at "asg"
      exact evS_nil (rest (i * ts.length) (Nat.le_refl _))
    · exact evS_nil (rest st hst)
end

section
variable {prog : Program} {w : World} {B : Heap} {names names' : Names} {vals vals' : Vals} {d : Nat} {H : List O}
/-- a comprehension over a list of numbers that its head hands back -/
theorem ev1_AssignCompM {y : Str} {py spos : Pos} {elt target iter : PySem.Expr} {scope : Scope} {pos : Pos} {Q : Fl → Vals → List O → Prop} (g : Nat → V) (hf : ∀ env x, foldedSetIterable iter env x = pure x) (hkind : scope.kind = .function)
    (rl : Relab names scope.names names') (hnod : (scope.names.map (·.1)).Nodup) (hdbg : ∀ x ∈ names', (x.1 == ("__debug__" : Str)) = false ∧ (x.1 == ("__classdict__" : Str)) = false) (cv : CompV names vals names' vals')
    (hy : Has names y .local) (hline : (py.line == pos.line) = true) (hno : (scope.names.any fun (n, k) => n == y && (k == .local || k == .cell)) = false)
    (h : EvE prog w B names d iter vals H fun v H₁ => ∃ (n : Nat) (l : List Nat), v = .ref n ∧ H₁[n]? = some (.list (natsV l)) ∧ l.length ≤ 1000 ∧ ∃ vals2, Put names vals y .local (.ref H₁.length) vals2 ∧ Q .next vals2 (H₁ ++ [.list (l.map g)]))
    (turn : ∀ (x : Nat) (H₁ : List O), ∃ vals'', TgtN names' target (.int (x : Int)) vals' vals'' ∧ EvE prog w B names' d elt vals'' H₁ fun y H'' => y = g x ∧ H'' = H₁) :
    Ev1 prog w B names d (.Assign [.Name y py] (.ListComp elt [⟨target, iter, [], 0⟩] scope pos) spos) vals H Q := by
  refine ev1_AssignCompD hf hkind rl hnod hdbg cv hy hline hno (h.mono ?_)
  rintro v H₁ ⟨n, l, rfl, hn, hl, vals2, hp, q⟩
  refine ⟨.list n, H₁.length, l.length, fun i ys H' => i ≤ l.length ∧ ys = (l.take i).map g ∧ H' = H₁ ++ [.list ys], .list, rfl, ⟨_, hn⟩, ⟨by walk_at "om", rfl, rfl⟩, ?_, ?_, ?_⟩
  · rintro i ys H' ⟨hi, rfl, rfl⟩
    exact ⟨⟨_, app_l hn⟩, hi, app_r, by simp; walk_at "om"⟩
  · rintro i ys H' ⟨hi, rfl, rfl⟩ hnn
    rw [item_list hn, List.getElem?_eq_none_iff, List.length_map] at hnn
    rw [List.take_of_length_le hnn]
    exact ⟨vals2, hp, q⟩
  · rintro i ys H' v ⟨hi, rfl, rfl⟩ hv
    rw [item_list hn, List.getElem?_map] at hv
    obtain ⟨x, hx, rfl⟩ := Option.map_eq_some_iff.mp hv
    have hil := (List.getElem?_eq_some_iff.mp hx).1
    obtain ⟨vals'', tg, he⟩ := turn x (H₁ ++ [.list ((l.take i).map g)])
    refine ⟨vals'', tg, fun _ => he.mono ?_, fun h => nomatch h⟩
    rintro y H'' ⟨rfl, rfl⟩
    refine ⟨app_r, hil, by rw [take_snoc hx, List.map_append]; rfl, set_mid (r := [])⟩
end
theorem Tow.top2 {β : Bk} {s : Int} {x : Nat} {l : List Tn} (h : Tow β s x l) : ∃ y, β.terms[x + l.length]? = some y ∧ (y.op == Str.ofString "=") = false ∧ (y.op == Str.ofString "bvnum") = false := by
  have e1 : (Str.ofString "app" == Str.ofString "bvnum") = false ∧ (Str.ofString "bvnot" == Str.ofString "bvnum") = false ∧ (Str.ofString "bvneg" == Str.ofString "bvnum") = false ∧ (Str.ofString "bvadd" == Str.ofString "bvnum") = false ∧ (Str.ofString "bvxor" == Str.ofString "bvnum") = false := by decide +kernel
  have e2 : (Str.ofString "app" == Str.ofString "=") = false ∧ (Str.ofString "bvnot" == Str.ofString "=") = false ∧ (Str.ofString "bvneg" == Str.ofString "=") = false ∧ (Str.ofString "bvadd" == Str.ofString "=") = false ∧ (Str.ofString "bvxor" == Str.ofString "=") = false := by decide +kernel
  cases h with
  | nil e => exact ⟨_, e, e2.1, e1.1⟩
  | no _ e => exact ⟨_, e, e2.2.1, e1.2.1⟩
  | ne _ e => exact ⟨_, e, e2.2.2.1, e1.2.2.1⟩
  | ad _ _ e => exact ⟨_, e, e2.2.2.2.1, e1.2.2.2.1⟩
  | xo _ _ e => exact ⟨_, e, e2.2.2.2.2, e1.2.2.2.2⟩
/-- where the tower stands nothing else does -/
theorem tow_apart {β : Bk} {s : Int} {x N z : Nat} {ts : List Tn} (h0 : 0 < ts.length) (tw : Tow β s x (stl ts N)) {y : T} (hz : β.terms[z]? = some y) (ho : y.op = Str.ofString "=" ∨ y.op = Str.ofString "bvnum") : z < x ∨ x + N < z := by
  apply Classical.byContradiction
  intro hn
  have ht := tw.down h0 (z - x) (by walk_at "om")
  obtain ⟨y', e, a, b⟩ := ht.top2
  rw [stl_len h0, show x + (z - x) = z by walk_at "om", hz] at e
  cases e
  rcases ho with h | h
  · rw [h] at a; simp at a
  · rw [h] at b; simp at b

structure LS (C CR : Addr) (cells : List Int) (W full s x : Nat) (ts : List Tn) (TT TW mk kk N : Nat) (β : Bk) (k : Nat) (H : List O) : Prop where
  bank : BankAt C fsB β H
  ok : BkOk β
  z : Sz β s W
  tin : Tin cells k H
  mt : MkAt CR mk kk H
  hT : H[TT]? = some (.list (tnsV ts))
  hTb : 15 < TT
  dict : H[TW]? = some (.idict (towE x N))
  hTW : 15 < TW
  tow : Tow β s x (stl ts N)
  fu : IsFull W full
  tok : ∀ t ∈ ts, t.ok full
  n2 : 2 ≤ ts.length
  n5 : ts.length ≤ 5
  xs : x ≤ 1000
  ns : N ≤ 1010
  tl : β.terms.length ≤ 5000
  wl : β.widths.length ≤ 1000
  hk : k ≤ 100
theorem LS.step {C CR : Addr} {cells : List Int} {W full s x TT TW mk kk N k k' a : Nat} {ts : List Tn} {β β' : Bk} {H H' : List O} (l : LS C CR cells W full s x ts TT TW mk kk N β k H) (g : Grow β β' a 0) (eb : β'.bv = β.bv) (hb : BankAt C fsB β' H') (kp : KB [2] H H') (t : Tin cells k' H') (hk : k' ≤ 100) (tl : β'.terms.length ≤ 5000) :
    LS C CR cells W full s x ts TT TW mk kk N β' k' H' := by
  have h1 := l.hTb
  have h2 := l.hTW
  have h3 := l.mt.big
  have h4 := g.wl
  have h5 := l.wl
  exact ⟨hb, g.ok l.ok, ⟨eb ▸ l.z.bv, g.wd l.z.at_⟩, t, l.mt.kb kp (by simp; walk_at "om") (by simp; walk_at "om"), kp.at_ _ (.inr h1) (by simp; walk_at "om") _ l.hT, h1, kp.at_ _ (.inr h2) (by simp; walk_at "om") _ l.dict, h2, l.tow.grow g, l.fu, l.tok, l.n2, l.n5, l.xs, l.ns, tl, by walk_at "om", hk⟩
/-- the two readings of an answer -/
theorem asked_same {full N j x r v : Nat} {s : Int} {ts : List Tn} {β : Bk} {es : List (Int × V)} (h0 : 0 < ts.length) (hN : N ≤ 100000) (hj : j ≤ N) (tw : Tow β s x (stl ts N)) (D : TwD es x N) (e : EqR β s x full (stl ts j) v r) :
    ∃ (a b : Nat) (ga gb : Nat → Nat), β.terms[r]? = some (eqT (a : Int) (b : Int)) ∧ Part β es ts full a ga ∧ Part β es ts full b gb ∧ a ≠ b ∧ a ≠ r ∧ b ≠ r ∧ dget es (r : Int) = none ∧ ∀ h, h < full → (ga h == gb h) = (den full (stl ts j) h == v) := by
  obtain ⟨l2, k, v', t2, ⟨l3, hl3⟩, hr, hk, hv', hiff⟩ := e.ex
  obtain ⟨e2, le2⟩ := stl_suffix h0 j l3 l2 hl3
  have hkn := tow_apart h0 tw hk (.inr rfl)
  have hrn := tow_apart h0 tw hr (.inl rfl)
  have hu : x + l2.length ≤ x + N := by walk_at "om"
  have pu : Part β es ts full (x + l2.length) (den full l2) := by
    have := Part.storey (β := β) (ts := ts) (full := full) (j := l2.length) (by walk_at "om") (D.at_ l2.length (by walk_at "om"))
    rw [← e2] at this
    exact this
  have pk : Part β es ts full k (fun _ => v') := .number (D.no k hkn) hk
  have ne1 : k ≠ r := fun h => by
    subst h
    rw [hr] at hk
    have := congrArg T.op (Option.some.inj hk)
    exact absurd (show Str.ofString "=" = Str.ofString "bvnum" from this) (by decide +kernel)
  have same : ∀ h, h < full → (den full l2 h == v') = (den full (stl ts j) h == v) := fun h hh => by
    rw [Bool.eq_iff_iff, beq_iff_eq, beq_iff_eq]
    exact hiff h hh
  by_cases hlt : x + l2.length < k
  · rw [if_pos (by walk_at "om"), if_neg (by walk_at "om")] at hr
    exact ⟨x + l2.length, k, _, _, hr, pu, pk, by walk_at "om", by walk_at "om", ne1, D.no r hrn, same⟩
  · rw [if_neg (by walk_at "om"), if_pos (by walk_at "om")] at hr
    refine ⟨k, x + l2.length, _, _, hr, pk, pu, by walk_at "om", ne1, by walk_at "om", D.no r hrn, fun h hh => ?_⟩
    rw [← same h hh]
    rw [Bool.eq_iff_iff, beq_iff_eq, beq_iff_eq]
    exact eq_comm
section
variable {w : World} {B : Heap} {d : Nat} {H : List O} {Q : V → List O → Prop} {β : Bk}
noncomputable abbrev lawE (a : V) (W full s TT R x N at_ TW st mk : Nat) (v7 v13 v14 v16 v17 v18 v19 : Option V) : Vals := lawV a W full s TT v7 (some (.ref R)) (some (.int ((x + N : Nat) : Int))) (some (.int (at_ : Int))) (some (.ref TW)) (some (.int ((x + st : Nat) : Int))) v13 v14 (some (.ref (mk + 1))) v16 v17 v18 v19
/-- a storey is asked for its number -/
theorem ask_turn (c : Cx B) {a : V} {cells : List Int} {W full s x TT TW mk kk N k R at_ st j : Nat} {ts : List Tn} {v7 v13 v14 v17 v18 v19 : Option V} (l : LS c.cTB c.cBR cells W full s x ts TT TW mk kk N β k H) (hj : j ≤ N) (hk : k ≤ 50) (tl : β.terms.length ≤ 4000)
    {Q : Fl → Vals → List O → Prop} (q : ∀ β' H' v16 v17 v18 v19, LS c.cTB c.cBR cells W full s x ts TT TW mk kk N β' (k + 1) H' → Grow β β' 2 0 → Q .next (lawE a W full s TT R x N at_ TW st mk v7 v13 v14 v16 v17 v18 v19) H') :
    EvS prg w B nm_law (d + 60) (whileBody (nthS bd_law 9)) (lawE a W full s TT R x N at_ TW st mk v7 v13 v14 (some (.int ((x + j : Nat) : Int))) v17 v18 v19) H Q := by
  have h0 : 0 < ts.length := by have := l.n2; walk_at "om"
  have fp := l.fu.pos
  have f8 : full ≤ 8 := by rcases l.fu with ⟨_, rfl⟩ | ⟨_, rfl⟩ <;> decide
  have wl := l.wl
  have b15 := l.bank.big
  have tb := l.hTb
  have wb := l.hTW
  have xs := l.xs
  have ns := l.ns
  -- the number
  refine evS_cons (ev1_Assign (fun _ => rfl) (ev_Fn rfl (by with_reducible walk_at "has") c.G_law_draw c.F_law_draw (d' := d + 1) (by walk_at "om") ?_))
  walk_at "loc"
  walk_at "loc"
  refine draw_spec c l.tin (by walk_at "om") (by walk_at "om") fun v H1 hv t1 ⟨o1, e1⟩ => ?_
  have l1 := l.step (.refl β) rfl (e1 ▸ l.bank.set (.inl (by decide))) (e1 ▸ KB.set (by simp)) t1 (by walk_at "om") (by walk_at "om")
  walk_at "asg"
  -- what equal_number tells
  refine evS_cons (ev1_Assign (fun _ => rfl) (ev_Do c.X rfl rfl (by decide) rfl c.cls_cBR l1.mt.h2 l1.mt.h1 c.M_BitsRewriter_equal_number (nk_equal_number _) c.F_BitsRewriter_equal_number (d' := d + 54) (by walk_at "om") ?_))
  walk_at "obj"
  walk_at "loc"
  walk_at "loc"
  have hlen : (stl ts j).length = j := stl_len h0 j
  have eqs := equal_spec (d := d) (w := w) c l1.mt l1.bank l1.ok (by walk_at "om") (by walk_at "om") l.fu (x := x) l1.z 50 0 v (stl ts j)
  rw [hlen] at eqs
  refine EqB.call0 c (eqs _ (by walk_at "om") (by walk_at "om") (l1.tow.down h0 j hj) (fun t ht => l.tok t (stl_mem ht)) fun r β2 H2 g2 eb2 b2 kp2 eq2 => ?_)
  have g2t := g2.tl
  have l2 := l1.step g2 eb2 b2 kp2.kb (l1.tin.keep kp2) (by walk_at "om") (by walk_at "om")
  walk_at "asg"
  -- what is due
  refine evS_cons (ev1_AssignCompM (fun z => .bool ((z : Int) == (v : Int))) (fun _ _ => rfl) rfl (by with_reducible walk_at "rel") (by decide +kernel) (by decide +kernel) (by with_reducible walk_at "cv") (by with_reducible walk_at "has") rfl rfl ?_ (fun z H9 => ?_))
  rotate_left
  · refine ⟨_, .name (by with_reducible walk_at "putn"), ev_Cmp rfl ?_⟩
    walk_at "loc"
    walk_at "loc"
    exact w_eq ⟨rfl, rfl⟩
  refine ev_Fn rfl (by with_reducible walk_at "has") c.G_law_values c.F_law_values (d' := d + 2) (by walk_at "om") ?_
  walk_at "loc"
  refine ev_Sub ?_
  walk_at "loc"
  walk_at "loc"
  refine i_idict l2.dict ((towE_is x N).at_ j hj) ?_
  walk_at "loc"
  refine values_spec c l.fu l2.hT h0 l.n5 l.tok (by walk_at "om") fun L3 H3 kx3 hL3 h3 => ?_
  refine ⟨L3, _, rfl, h3, by simp; walk_at "om", _, by with_reducible walk_at "put", ?_⟩
  have hdue : ((List.range full).map (den full (stl ts j))).map (fun z : Nat => V.bool ((z : Int) == (v : Int))) = (((List.range full).map fun h => den full (stl ts j) h == v).map .bool) := by
    rw [List.map_map, List.map_map]
    refine List.map_congr_left fun h _ => ?_
    show V.bool _ = V.bool _
    congr 1
    rw [Bool.eq_iff_iff, beq_iff_eq, beq_iff_eq]; walk_at "om"
  rw [hdue]
  have kx4 : KX [] H2 (H3 ++ [O.list (((List.range full).map fun h => den full (stl ts j) h == v).map .bool)]) := kx3.trans .app
  have hD : (H3 ++ [O.list (((List.range full).map fun h => den full (stl ts j) h == v).map .bool)])[H3.length]? = some (.list (((List.range full).map fun h => den full (stl ts j) h == v).map .bool)) := app_r
  have l4 := l2.step (.refl β2) rfl (b2.kx kx4 (by simp)) (kx4.kb.mono (by simp)) (l2.tin.kx kx4 (by simp) (by simp)) l2.hk l2.tl
  generalize H3 ++ [O.list (((List.range full).map fun h => den full (stl ts j) h == v).map .bool)] = H4 at hD l4
  -- held together
  obtain ⟨p, p', gp, gp', hr, P1, P2, np, npr, npr', hrn, same⟩ := asked_same h0 (by walk_at "om") hj l4.tow (towE_is x N) eq2
  refine evS_cons (ev1_If (evT_Cmp rfl ?_))
  refine ev_Fn rfl (by with_reducible walk_at "has") c.G_law_truths c.F_law_truths (d' := d + 3) (by walk_at "om") ?_
  walk_at "loc"
  walk_at "loc"
  walk_at "loc"
  walk_at "loc"
  walk_at "loc"
  refine truths_spec c l.fu l4.bank (by have := l4.tl; walk_at "om") l4.hT h0 l.n5 l.tok l4.dict hrn hr P1 P2 np npr npr' fun L5 H5 kx5 hL5 h5 => ?_
  walk_at "loc"
  have e5 : ((List.range full).map fun h => gp h == gp' h) = (List.range full).map fun h => den full (stl ts j) h == v := List.map_congr_left fun h hh => same h (List.mem_range.mp hh)
  rw [e5] at h5
  refine w_ne_bools h5 (kx5.at_ _ (by simp) _ hD) ⟨_, rfl, fun h => ?_, fun _ => ?_⟩
  · simp at h
  · exact evS_nil (evS_nil (q β2 H5 _ _ _ _ (l4.step (.refl β2) rfl (l4.bank.kx kx5 (by simp)) (kx5.kb.mono (by simp)) (l4.tin.kx kx5 (by simp) (by simp)) l4.hk l4.tl) g2))
end

section
variable {w : World} {B : Heap} {d : Nat} {H : List O} {Q : V → List O → Prop} {β : Bk}
theorem law_head (c : Cx B) {a : Addr} {zs : List Int} (hb : BList B a zs) (hl : zs.length ≤ 63) {Q : Fl → Vals → List O → Prop}
    (q : ∀ (cells : List Int) (W full s TT k : Nat) (ts : List Tn) (β : Bk) (H : List O), IsFull W full → Tin cells k H → k ≤ 20 → BankAt c.cTB fsB β H → BkOk β → Low β → NoApp β → β.terms.length ≤ 10 → β.widths.length ≤ 10 → (β.f1.length ≤ 10 ∧ β.f2.length ≤ 10 ∧ β.f3.length ≤ 10) → Sz β s W → 2 ≤ ts.length → ts.length ≤ 5 → (∀ t ∈ ts, t.ok full) → H[TT]? = some (.list (tnsV ts)) → 15 < TT →
      EvS prg w B nm_law (d + 60) (bd_law.drop 4) (lawV (.val (.ref a)) W full s TT none none none none none none none none none none none none none) H Q) :
    EvS prg w B nm_law (d + 60) bd_law [some (.val (.ref a)), none, none, none, none, none, none, none, none, none, none, none, none, none, none, none, none, none, none, none, none, none, none, none, none, none, none, none, none] [] Q := by
  -- the reader and the bank
  refine evS_cons (ev1_AssignTup (xs := [(Str.ofString "feed", _), (Str.ofString "bank", _)]) (fun _ => rfl) (fun _ => swapped_or rfl) ?_)
  refine ev_Tuple rfl (by simp) ?_
  refine ev_List rfl ?_
  refine ev_Bi rfl (by with_reducible walk_at "has") c.U_list ?_
  refine ev_SliceB hb (by walk_at "om") ?_
  walk_at "loc"
  refine ⟨rfl, ?_⟩
  show EvE _ _ _ _ _ _ _ _ _
  refine ev_int ⟨none, some 20, .none, .int, ?_⟩
  have hpk : pickL (zs.map V.int) none (some 20) = (zs.take 20).map V.int := by
    rw [show (20 : Int) = ((20 : Nat) : Int) from rfl, pick_upto, List.map_take]
  rw [hpk]
  generalize hcells : zs.take 20 = cells
  have hcl : cells.length ≤ 1000 := by rw [← hcells]; simp; walk_at "om"
  show CalV _ _ _ _ _ [.ref 0] [O.list (cells.map V.int)] _
  refine c_list_list rfl (by simp; walk_at "om") (ev_int ⟨by simp, ?_⟩)
  show EvEs prg w B nm_law (d + 60) _ _ [O.list (cells.map V.int), O.list (cells.map V.int), O.list [V.ref 1, V.int 0]] _
  refine ev_CallName rfl (ev_glob (by with_reducible walk_at "has") c.G_TermBank ⟨⟨_, rfl⟩, ?_⟩)
  refine bank_made (d := d + 56) c fun H1 b1 l1 a1 => ?_
  refine ⟨by simp, _, rfl, rfl, [some (.val (.ref a)), some (.ref 2), some (.ref 4), none, none, none, none, none, none, none, none, none, none, none, none, none, none, none, none, none, none, none, none, none, none, none, none, none, none], ?_, ?_, ?_⟩
  · exact .cons (by walk_at "put") (.inl rfl) (.cons (by walk_at "put") (.inr rfl) .nil)
  · exact .cons (by walk_at "put") (.inr rfl) (.cons (by walk_at "put") (.inl rfl) .nil)
  have tin1 : Tin cells 0 H1 := ⟨a1 1 (by decide), a1 2 (by decide), hcl⟩
  -- the width
  refine evS_cons (ev1_Assign (fun _ => rfl) (ev_BinOp (ev_int (ev_Fn rfl (by with_reducible walk_at "has") c.G_law_draw c.F_law_draw (d' := d + 1) (by walk_at "om") ?_))))
  walk_at "loc"
  refine ev_int (draw_spec c tin1 (by decide) (by decide) fun r H2 hr tin2 ⟨o2, e2⟩ => w_add ?_)
  have b2 : BankAt c.cTB fsB beta2 H2 := e2 ▸ b1.set (.inl (by decide))
  have er : (2 : Int) + (r : Int) = ((2 + r : Nat) : Int) := by walk_at "om"
  rw [er]
  generalize hW : 2 + r = W
  have hW23 : W = 2 ∨ W = 3 := by walk_at "om"
  walk_at "asg"
  -- its values and its sort
  refine evS_cons (ev1_AssignTup (xs := [(Str.ofString "full", _), (Str.ofString "s", _)]) (fun _ => rfl) (fun _ => swapped_or rfl) (ev_Tuple rfl (by decide) (ev_BinOp (ev_int ?_))))
  walk_at "loc"
  have hb2 : Builtin.Int.intBits 2 = 2 := by decide +kernel
  refine w_pow (by walk_at "om") (by rw [hb2]; walk_at "om") (ev_Do c.X rfl rfl (by decide) rfl c.cls_cTB b2.h4 b2.h3 c.M_TermBank_bv_sort na_bv_sort c.F_TermBank_bv_sort (d' := d + 1) (by walk_at "om") ?_)
  walk_at "obj"
  walk_at "loc"
  obtain ⟨full, F, ef⟩ : ∃ full, IsFull W full ∧ (2 : Int) ^ ((W : Int)).toNat = (full : Int) := by
    rcases hW23 with h | h
    · exact ⟨4, .inl ⟨h, rfl⟩, by rw [h]; rfl⟩
    · exact ⟨8, .inr ⟨h, rfl⟩, by rw [h]; rfl⟩
  rw [ef]
  refine sort_spec c b2 beta2_base.ok (by decide) (by walk_at "om") (by walk_at "om") fun s β3 H3 g3 et3 hs3 hz3 b3 kp3 => ?_
  refine ⟨by simp, _, rfl, rfl, [some (.val (.ref a)), some (.ref 2), some (.ref 4), some (.int (W : Int)), some (.int (full : Int)), some (.int (s : Int)), none, none, none, none, none, none, none, none, none, none, none, none, none, none, none, none, none, none, none, none, none, none, none], ?_, ?_, ?_⟩
  · exact .cons (by with_reducible walk_at "put") (.inl rfl) (.cons (by with_reducible walk_at "put") (.inl rfl) .nil)
  · exact .cons (by with_reducible walk_at "put") (.inl rfl) (.cons (by with_reducible walk_at "put") (.inl rfl) .nil)
  have tin3 := tin2.keep kp3
  have big3 := b3.big
  have g3w := g3.wl
  have g3f := g3.fns
  have bt : beta2.terms.length = 3 := rfl
  have bw : beta2.widths.length = 3 := rfl
  have bf : beta2.f1.length = 0 ∧ beta2.f2.length = 0 ∧ beta2.f3.length = 0 := ⟨rfl, rfl, rfl⟩
  have low3 : Low β3 := ⟨by rw [et3]; exact beta2_low.at_⟩
  have na3 : NoApp β3 := ⟨by rw [et3]; exact beta2_noapp.at_⟩
  -- the turns
  refine evS_cons (ev1_Assign (fun _ => rfl) (ev_Fn rfl (by with_reducible walk_at "has") c.G_law_turns c.F_law_turns (d' := d + 2) (by walk_at "om") ?_))
  walk_at "loc"
  walk_at "loc"
  refine turns_spec c F tin3 (by walk_at "om") fun ts TT H4 k4 h2 h5 tok tin4 hk4 kx4 hTl hT => ?_
  walk_at "asg"
  exact q cells W full s TT k4 ts β3 H4 F tin4 (by walk_at "om") (b3.kx kx4 (by simp)) (g3.ok beta2_base.ok) low3 na3 (by rw [et3]; walk_at "om") (by walk_at "om") (by walk_at "om") ⟨hz3, hs3⟩ h2 h5 tok hT (by walk_at "om")
end

section
variable {w : World} {B : Heap} {d : Nat} {H : List O} {Q : V → List O → Prop} {β : Bk}
/-- the law's body -/
theorem law_all (c : Cx B) {a : Addr} {zs : List Int} (hb : BList B a zs) (hl : zs.length ≤ 63) :
    EvS prg w B nm_law (d + 60) bd_law [some (.val (.ref a)), none, none, none, none, none, none, none, none, none, none, none, none, none, none, none, none, none, none, none, none, none, none, none, none, none, none, none, none] [] (fun f _ _ => f = .ret (.bool true)) := by
  refine law_head c hb hl fun cells W full s TT k ts β H F tin hk b ok low na tl wl fl z h2 h5 tok hT hTb => ?_
  have h0 : 0 < ts.length := by walk_at "om"
  have big := b.big
  have hTl := (List.getElem?_eq_some_iff.mp hT).1
  -- the rows
  refine evS_cons (rows_spec (d := d + 57) c F b ok (by walk_at "om") z low na hT hTb h5 tok fun R rows β1 H1 hr hrow b1 g1 z1 low1 na1 kb1 hR hRl => ?_)
  have g1t := g1.tl
  have g1w := g1.wl
  have g1f := g1.fns
  have hl1 := kb1.len
  have hT1 := kb1.at_ _ (.inr hTb) (by simp) _ hT
  have hRu := (List.getElem?_eq_some_iff.mp hR).1
  -- the unknown
  refine evS_cons (ev1_AssignTup (xs := [(Str.ofString "t", _), (Str.ofString "at", _)]) (fun _ => rfl) (fun _ => swapped_or rfl) (ev_Tuple rfl (by decide) (ev_Do c.X rfl rfl (by decide) rfl c.cls_cTB b1.h4 b1.h3 c.M_Bank_fresh_const na_fresh_const c.F_Bank_fresh_const (d' := d + 2) (by walk_at "om") ?_)))
  walk_at "obj"
  refine ev_str ?_
  walk_at "loc"
  refine const_spec c b1 (g1.ok ok) (by walk_at "om") (by walk_at "om") fun x β2 β3 H3 et2 ew2 eb2 g2 m3 b3 kp3 => ?_
  obtain ⟨hx, e3⟩ := na1.is_new et2 m3
  have x15 : x ≤ 15 := by walk_at "om"
  have g3 := m3.grow
  have hlen3 : x + 0 + 1 = β3.terms.length := by rw [e3]; show _ = (β2.terms ++ [_]).length; rw [et2, hx]; simp
  have low2 : Low β2 := ⟨by rw [et2]; exact low1.at_⟩
  have low3 : Low β3 := low2.of_mk m3 (fun a ha => nomatch ha)
  have hxat := m3.at
  have z3 : Sz β3 s W := (show Sz β2 s W from ⟨by rw [eb2]; exact z1.bv, by rw [ew2]; exact z1.at_⟩).of_mk m3
  have row3 : ∀ p ∈ rows, RowR β3 s p.1 p.2 := fun p hp => ((hrow p hp).grow g2).grow g3
  have g23 := (g1.trans g2).trans g3
  have ok3 := g23.ok ok
  have w3 := g23.wl
  have kb3 : KB [] H H3 := kb1.trans kp3.kb
  have tin3 := (tin.kb kb1 (by simp) (by simp)).keep kp3
  have hT3 := kp3.at_ _ (.inr hTb) _ hT1
  have hR3 := kp3.at_ _ (.inr (show 15 < R by walk_at "om")) _ hR
  have hl3 := kp3.len
  refine ev_Fn rfl (by with_reducible walk_at "has") c.G_law_draw c.F_law_draw (d' := d + 1) (by walk_at "om") ?_
  walk_at "loc"
  refine ev_int (draw_spec c tin3 (by walk_at "om") (by decide) fun at_ H4 ha tin4 ⟨o4, e4⟩ => ?_)
  have b4 : BankAt c.cTB fsB β3 H4 := e4 ▸ b3.set (.inl (by decide))
  have hT4 : H4[TT]? = some (.list (tnsV ts)) := e4 ▸ set_ne hT3 (by walk_at "om")
  have hR4 : H4[R]? = some (.list (rowsV rows)) := e4 ▸ set_ne hR3 (by walk_at "om")
  have hl4 : H4.length = H3.length := by rw [e4]; simp
  refine ⟨by simp, _, rfl, rfl, lawV (.val (.ref a)) W full s TT none (some (.ref R)) (some (.int (x : Int))) (some (.int (at_ : Int))) none none none none none none none none none, ?_, ?_, ?_⟩
  · exact .cons (by with_reducible walk_at "put") (.inl rfl) (.cons (by with_reducible walk_at "put") (.inl rfl) .nil)
  · exact .cons (by with_reducible walk_at "put") (.inl rfl) (.cons (by with_reducible walk_at "put") (.inl rfl) .nil)
  -- the tower's numbers
  refine evS_cons (ev1_AssignTup (xs := [(Str.ofString "tower", _), (Str.ofString "storey", _)]) (fun _ => rfl) (fun _ => swapped_or rfl) (ev_Tuple rfl (by decide) (ev_Dict1 (k := (x : Int)) (v := .int 0) ?_ ?_)))
  · walk_at "loc"
    exact ⟨rfl, rfl, ev_int ⟨rfl, rfl⟩⟩
  walk_at "loc"
  have hD5 : (H4 ++ [O.idict [((x : Int), V.int 0)]])[H4.length]? = some (.idict (towE x 0)) := by
    have : towE x 0 = [((x : Int), V.int 0)] := by simp [towE]
    rw [this]; exact app_r
  refine ⟨by simp, _, rfl, rfl, lawV (.val (.ref a)) W full s TT none (some (.ref R)) (some (.int (x : Int))) (some (.int (at_ : Int))) (some (.ref H4.length)) (some (.int (x : Int))) none none none none none none none, ?_, ?_, ?_⟩
  · exact .cons (by with_reducible walk_at "put") (.inl rfl) (.cons (by with_reducible walk_at "put") (.inl rfl) .nil)
  · exact .cons (by with_reducible walk_at "put") (.inl rfl) (.cons (by with_reducible walk_at "put") (.inl rfl) .nil)
  have I0 : TowI c.cTB β3 s W x ts rows H4.length 0 (H4 ++ [O.idict [((x : Int), V.int 0)]]) := ⟨b4.app, ok3, low3, hlen3, .nil hxat, row3, hD5, z3, by walk_at "om"⟩
  have hT5 : (H4 ++ [O.idict [((x : Int), V.int 0)]])[TT]? = some (.list (tnsV ts)) := app_l hT4
  have hR5 : (H4 ++ [O.idict [((x : Int), V.int 0)]])[R]? = some (.list (rowsV rows)) := app_l hR4
  have tin5 : Tin cells (k + 1) (H4 ++ [O.idict [((x : Int), V.int 0)]]) := tin4.keep .app
  generalize hTW : H4.length = TW at I0
  generalize H4 ++ [O.idict [((x : Int), V.int 0)]] = H5 at I0 hT5 hR5 tin5
  -- the tower
  refine evS_cons (tower_loops (d := d + 58) c I0 (by walk_at "om") h2 h5 (by walk_at "om") hr hT5 hTb (by walk_at "om") hR5 (by walk_at "om") (by walk_at "om") fun N st β6 H6 v7 v13 v14 hN hst I6 g6 kb6 => ?_)
  have g6t := g6.tl
  have tin6 : Tin cells (k + 1) H6 := tin5.kb kb6 (by simp; walk_at "om") (by simp; walk_at "om")
  have hT6 := kb6.at_ _ (.inr hTb) (by simp; walk_at "om") _ hT5
  -- the maker
  refine evS_cons (ev1_Assign (fun _ => rfl) (ev_CallName rfl (ev_glob (by with_reducible walk_at "has") c.G_BitsRewriter ⟨⟨_, rfl⟩, ?_⟩)))
  walk_at "loc"
  refine maker_made (d := d + 57) c I6.bank fun H7 mt7 b7 ⟨l7, e7⟩ => ?_
  walk_at "asg"
  have ls7 : LS c.cTB c.cBR cells W full s x ts TT TW H6.length (H6.length + 2) N β6 (k + 1) H7 :=
    ⟨b7, I6.ok, I6.z, e7 ▸ tin6.keep .app, mt7, e7 ▸ app_l hT6, hTb, e7 ▸ app_l I6.dict, by walk_at "om", I6.tow, F, tok, h2, h5, by walk_at "om", hN, by have := I6.len; walk_at "om", I6.wl, by walk_at "om"⟩
  have tl6 := I6.len
  -- both storeys
  refine evS_cons (ev1_For (.tup [.int ((x + st : Nat) : Int), .int ((x + N : Nat) : Int)]) 2 (fun i vals H' => ∃ (β' : Bk) (k' : Nat) (v16 v17 v18 v19 : Option V), vals = lawE (.val (.ref a)) W full s TT R x N at_ TW st H6.length v7 v13 v14 v16 v17 v18 v19 ∧ i ≤ 2 ∧ k' = k + 1 + i ∧ LS c.cTB c.cBR cells W full s x ts TT TW H6.length (H6.length + 2) N β' k' H' ∧ β'.terms.length ≤ 2000 + 2 * i) (fun _ _ => rfl) ?_ ?_ ?_ ?_)
  · refine ev_Tuple rfl (by decide) ?_
    walk_at "loc"
    walk_at "loc"
    exact ⟨by simp, .tup, β6, k + 1, none, none, none, none, rfl, by walk_at "om", rfl, ls7, by walk_at "om"⟩
  · rintro i vals H' ⟨β', k', v16, v17, v18, v19, rfl, hi, _⟩
    exact ⟨trivial, hi⟩
  · rintro i vals H' ⟨β', k', v16, v17, v18, v19, rfl, hi, _⟩ _
    exact evS_cons (ev1_Return (ev_bool rfl))
  · rintro i vals H' u ⟨β', k', v16, v17, v18, v19, rfl, hi, rfl, ls, htl⟩ hu
    match i, hu, hi with
    | 0, hu, _ =>
      obtain rfl : V.int ((x + st : Nat) : Int) = u := Option.some.inj hu
      refine ⟨_, .name (by with_reducible walk_at "put") (.inl rfl), ask_turn (d := d) c ls (j := st) (by walk_at "om") (by walk_at "om") (by walk_at "om") fun β8 H8 w16 w17 w18 w19 ls8 g8 => ?_⟩
      have g8t := g8.tl
      exact ⟨β8, _, w16, w17, w18, w19, rfl, by walk_at "om", rfl, ls8, by walk_at "om"⟩
    | 1, hu, _ =>
      obtain rfl : V.int ((x + N : Nat) : Int) = u := Option.some.inj hu
      refine ⟨_, .name (by with_reducible walk_at "put") (.inl rfl), ask_turn (d := d) c ls (j := N) (by walk_at "om") (by walk_at "om") (by walk_at "om") fun β8 H8 w16 w17 w18 w19 ls8 g8 => ?_⟩
      have g8t := g8.tl
      exact ⟨β8, _, w16, w17, w18, w19, rfl, by walk_at "om", rfl, ls8, by walk_at "om"⟩
    | i + 2, hu, _ => simp [itemAt] at hu
end

/-- what bindArgs does behind the defaults, where nothing is handed by its name -/
noncomputable def bindK (fd : FuncData) (xs : List Value) : { k : Option (Array Value) → Sem (List (Str × Value)) // bindArgs fd ⟨xs, []⟩ = (seqItems? fd.defaults >>= k) } := ⟨_, rfl⟩
theorem fnIs_of0D {K : Frag} {B : Heap} {f T : Addr} {ps : List Str} {names : Names} {body : List Stmt} {x : Value} {n : Nat} {o : Obj} (X : K.In B) (lim : B.NoLimit) (e1 : fnThere K f = true) (e2 : (fdOf K f).body = .stmts body) (e3 : fdSays (fdOf K f) = ([], mainGlobals, builtinsNs, names, .function, false, false))
    (e4 : codeIn K (fdOf K f).code (fdOf K f).qualname = true) (hd : (fdOf K f).defaults = .ref T) (ho : K.lookup T = some o) (hs : o.data = .seq #[x] n)
    (bind : ∀ xs : List Value, xs.length = ps.length → (bindK (fdOf K f) xs).1 (some #[x]) = pure (ps.zip xs)) (first : (names.map (·.1)).take ps.length = ps) (kinds : kindsB names ps.length = true) (nod : (names.map (·.1)).Nodup) (dbg : namesOkB names = true) : FnIs B f ps [] names body := by
  obtain ⟨oc, od, osl, e⟩ := fn_there e1
  unfold fdSays at e3
  simp only [Prod.mk.injEq] at e3
  obtain ⟨a1, a2, a3, a4, a5, a6, a7⟩ := e3
  exact ⟨⟨_, fdOf K f, X _ _ e, rfl, e2, a1, a2, a3, a4, a5, a6, a7, codeRec_of X e4, [], fun _ _ => .nil, fun s xs hb hl => by
    rw [List.append_nil]
    exact .of_defaults hd (hb _ _ (X _ _ ho)) hs (bindK _ xs).2 (bind xs (by simpa using hl))⟩, lim, first, kindsB_is kinds, nod, namesOkB_is dbg⟩
theorem fnIs_ofDK {K : Frag} {B : Heap} {f T : Addr} {ps : List Str} {names : Names} {body : List Stmt} {v : V} {x : Value} {n m : Nat} {o : Obj} (X : K.In B) (lim : B.NoLimit) (e1 : fnThere K f = true) (e2 : (fdOf K f).body = .stmts body) (e3 : fdSays (fdOf K f) = ([], mainGlobals, builtinsNs, names, .function, false, false))
    (e4 : codeIn K (fdOf K f).code (fdOf K f).qualname = true) (hd : (fdOf K f).defaults = .ref T) (ho : K.lookup T = some o) (hs : o.data = .seq #[x] n) (hv : ∀ ρ h, VR ρ h v x)
    (bind : ∀ xs : List Value, xs.length = m → (bindK (fdOf K f) xs).1 (some #[x]) = pure (ps.zip (xs ++ [x]))) (hm : m + 1 = ps.length) (first : (names.map (·.1)).take ps.length = ps) (kinds : kindsB names ps.length = true) (nod : (names.map (·.1)).Nodup) (dbg : namesOkB names = true) : FnIs B f ps [v] names body :=
  fnIs_ofD X lim e1 e2 e3 e4 hd ho hs hv (fun xs hl => ⟨(bindK _ xs).1, (bindK _ xs).2, bind xs (by walk_at "om")⟩) first kinds nod dbg

noncomputable def qS (x : String) : Str := Str.ofString x
noncomputable def qs (x : String) (t : Nat) : Value := .str (Str.ofString x) t
noncomputable def qi (i : Int) (t : Nat) : Value := .int i t
noncomputable def qr (a : Nat) : Value := .ref a
noncomputable def qy (x : String) : Value := .type x
noncomputable def qb (x : String) : Value := .builtin x
noncomputable def qe (P : Params) (x : String) (t : Nat) (v : Value) : DictEntry := ⟨PyData.keyHash P (Str.ofString x), .str (Str.ofString x) t, v⟩
noncomputable def qtup (l : List Value) : Obj := { cls := .type "tuple", data := .seq l.toArray }
noncomputable def qcode (l : List Value) : Obj := { cls := .type "code", data := .fields l.toArray }
noncomputable def qdict (c : Value) (l : List DictEntry) (n : Nat) : Obj := { cls := c, data := .dict l.toArray n }
noncomputable def mth (i k : Nat) : Stmt := nthS (clsBody (nthS top i)) k
noncomputable def qfA : Stmt → Arguments
  | .FunctionDef _ a .. => a
  | _ => ⟨[], [], none, [], [], none, []⟩
noncomputable def qfS : Stmt → Scope
  | .FunctionDef _ _ _ _ _ _ s .. => s
  | _ => prg.main.scope
noncomputable def qfN : Stmt → Str
  | .FunctionDef n .. => n
  | _ => Str.ofString ""
noncomputable def qf0 (s : Stmt) (q : String) : Obj := { cls := .none, data := .func { name := qfN s, qualname := Str.ofString q, params := qfA s, body := .stmts (fnBody s), scope := qfS s, globals := 0, closure := [], defaults := .none, kwdefaults := .none } }
noncomputable def qfn (s : Stmt) (q : String) (cl : List (Str × Addr)) (df md co ct : Value) : Obj := { cls := .type "function", data := .func { name := qfN s, qualname := Str.ofString q, params := qfA s, body := .stmts (fnBody s), scope := qfS s, globals := 3, closure := cl, defaults := df, kwdefaults := .none, doc := .none, pyModule := md, code := co, closureTuple := ct, builtins := 0 } }
noncomputable def qins : BT → List (Nat × Obj) → BT
  | t, [] => t
  | t, (a, o) :: r => qins (t.ins a o) r
noncomputable def qenv : Env := { scope := prg.main.scope, locals := mainNs, globals := mainNs, cells := [], code := .ref 13, frame := some 14 }
noncomputable def qcut (a n : Nat) : List Stmt := ((behindTheImports prg).drop a).take n
noncomputable abbrev qB : Code := .body (behindTheImports prg) qenv
noncomputable abbrev qF : List Frame := [topFrame ⟨0, 0, 0, 0⟩]
noncomputable def qsh (t : BT) (n k : Nat) (os : OsState) : SharedT := { tree := t, n := n, life := { }, gens := { toList := [] }, drawn := { }, toks := k, os := os }
noncomputable def q0_11 : Obj := qtup []
noncomputable def q0_12 : Obj := { cls := .none, data := Data.fields #[] }
noncomputable def q0_13 : Obj := qcode [qs "<module>" 182, qs "<module>" 183, qs "/claim/cut.py" 184, qi 1 0, qi 0 0, qi 0 0, qi 0 0, qi 0 0, qr 11, .bool false, qi 181 0, qr 12, .none, .none, .none, .none, qi 185 0, qi 1 0, qs "/claim/cut.py" 186]
noncomputable def q0_14 : Obj := { cls := qy "frame", slots := #[some (qr 13), some (qr 3), some (qr 3), none, some (qs "__main__" 164), none, some (qr 0)] }
noncomputable def qt0 (P : Params) : BT := qins .nil [(0, boot_o_0 P), (1, boot_o_1 P), (2, boot_o_2 P), (3, boot_o_3 P), (4, boot_o_4 P), (5, boot_o_5 P), (6, boot_o_6 P), (7, boot_o_7 P), (8, boot_o_8 P), (9, boot_o_9 P), (10, boot_o_10 P), (11, q0_11), (12, q0_12), (13, q0_13), (14, q0_14)]
noncomputable def q1_2 (P : Params) : Obj := qdict (.none) [qe P "type.__subclasses__.Exception.0" 230 (qi 47 0), qe P "type.__subclasses__.Exception.n" 231 (qi 1 0)] 2
noncomputable def q1_3 (P : Params) : Obj := qdict (qy "dict") [qe P "__name__" 165 (qs "minismt.errors" 194), qe P "__doc__" 166 .none, qe P "__package__" 167 .none, qe P "__loader__" 168 (qb "__main__.__loader__#opaque"), qe P "__spec__" 169 .none, qe P "__annotations__" 170 (qr 6), qe P "__builtins__" 171 (qr 4), qe P "__file__" 173 (qs "/claim/cut.py" 172), qe P "__cached__" 174 .none, qe P "_wall" 193 (qr 21), qe P "SmtError" 233 (qr 47)] 11
noncomputable def q1_12 : Obj := { cls := .none, data := Data.fields #[qi 1 0, qi 0 0, qr 20, qi 5 0, qi 0 0, qr 28] }
noncomputable def q1_15 : Obj := qtup []
noncomputable def q1_16 : Obj := { cls := .none, data := Data.fields #[] }
noncomputable def q1_17 : Obj := qtup [qs "k" 190]
noncomputable def q1_18 : Obj := qtup []
noncomputable def q1_19 : Obj := qf0 (nthS top 0) "_wall"
noncomputable def q1_20 : Obj := qcode [qs "_wall" 187, qs "_wall" 188, qs "/claim/cut.py" 189, qi 1 0, qi 1 0, qi 0 0, qi 0 0, qi 3 0, qr 15, .bool true, qi 181 0, qr 16, .none, qr 17, qr 18, qr 19, qi 191 0, qi 1 0, qs "/claim/cut.py" 192]
noncomputable def q1_21 : Obj := qfn (nthS top 0) "_wall" [] .none (qs "__main__" 164) (qr 20) .none
noncomputable def q1_22 : Obj := qtup [qy "Exception"]
noncomputable def q1_23 : Obj := { cls := qy "builtin_function_or_method", data := Data.fields #[qb "type.__prepare__", qy "type"] }
noncomputable def q1_24 (P : Params) : Obj := qdict (qy "dict") [qe P "__module__" 203 (qs "minismt.errors" 194), qe P "__qualname__" 205 (qs "SmtError" 204), qe P "__firstlineno__" 207 (qi 5 206), qe P "__init__" 216 (qr 37), qe P "told" 223 (qr 44), qe P "__static_attributes__" 225 (qr 45), qe P "__classcell__" 226 (qr 25)] 7
noncomputable def q1_25 : Obj := { cls := qy "cell", data := Data.cell (some (qr 47)) }
noncomputable def q1_26 : Obj := qtup []
noncomputable def q1_27 : Obj := { cls := .none, data := Data.fields #[qi 7 0, qi 4 0, qr 36, qi 11 0, qi 4 0, qr 43] }
noncomputable def q1_28 : Obj := qcode [qs "SmtError" 198, qs "SmtError" 199, qs "/claim/cut.py" 200, qi 5 0, qi 0 0, qi 0 0, qi 0 0, qi 0 0, qr 26, .bool false, qi 181 0, qr 27, .none, .none, .none, .none, qi 201 0, qi 5 0, qs "/claim/cut.py" 202]
noncomputable def q1_29 : Obj := { cls := qy "frame", slots := #[some (qr 28), some (qr 3), some (qr 24), none, some (qs "minismt.errors" 194), none, some (qr 0)] }
noncomputable def q1_30 : Obj := qtup [qr 25]
noncomputable def q1_31 : Obj := qtup [qs "__class__" 211]
noncomputable def q1_32 : Obj := { cls := .none, data := Data.fields #[] }
noncomputable def q1_33 : Obj := qtup [qs "self" 212, qs "what" 213]
noncomputable def q1_34 : Obj := qtup []
noncomputable def q1_35 : Obj := qf0 (mth 2 0) "SmtError.__init__"
noncomputable def q1_36 : Obj := qcode [qs "__init__" 208, qs "SmtError.__init__" 209, qs "/claim/cut.py" 210, qi 7 0, qi 2 0, qi 0 0, qi 0 0, qi 3 0, qr 31, .bool true, qi 181 0, qr 32, .none, qr 33, qr 34, qr 35, qi 214 0, qi 7 0, qs "/claim/cut.py" 215]
noncomputable def q1_37 : Obj := qfn (mth 2 0) "SmtError.__init__" [(qS "__class__", 25)] .none (qs "minismt.errors" 194) (qr 36) (qr 30)
noncomputable def q1_38 : Obj := qtup []
noncomputable def q1_39 : Obj := { cls := .none, data := Data.fields #[] }
noncomputable def q1_40 : Obj := qtup [qs "self" 220]
noncomputable def q1_41 : Obj := qtup []
noncomputable def q1_42 : Obj := qf0 (mth 2 1) "SmtError.told"
noncomputable def q1_43 : Obj := qcode [qs "told" 217, qs "SmtError.told" 218, qs "/claim/cut.py" 219, qi 11 0, qi 1 0, qi 0 0, qi 0 0, qi 3 0, qr 38, .bool true, qi 181 0, qr 39, .none, qr 40, qr 41, qr 42, qi 221 0, qi 11 0, qs "/claim/cut.py" 222]
noncomputable def q1_44 : Obj := qfn (mth 2 1) "SmtError.told" [] .none (qs "minismt.errors" 194) (qr 43) .none
noncomputable def q1_45 : Obj := qtup [qs "what" 224]
noncomputable def q1_46 (P : Params) : Obj := qdict (qy "dict") [qe P "__module__" 203 (qs "minismt.errors" 194), qe P "__firstlineno__" 207 (qi 5 206), qe P "__init__" 216 (qr 37), qe P "told" 223 (qr 44), qe P "__static_attributes__" 225 (qr 45), qe P "__weakref__" 228 (qr 48), qe P "__doc__" 229 .none] 4
noncomputable def q1_47 : Obj := { cls := qy "type", data := Data.cls { name := qS "SmtError", bases := [qy "Exception"], mro := [qr 47, qy "Exception", qy "BaseException", qy "object"], ns := 46, qualname := qS "SmtError" }, slots := #[some (qr 22), none, some (qs "SmtError" 196), some (qs "SmtError" 204), some (qb "Exception.__new__"), some (.bool true)] }
noncomputable def q1_48 : Obj := { cls := qy "getset_descriptor", data := Data.fields #[qs "__weakref__" 227, qr 47, qb "ExceptionGroup.__weakref__", .none] }
noncomputable def q1_49 : Obj := { cls := qy "super", data := Data.fields #[qr 47, qr 47, qr 47] }
noncomputable def q1_50 : Obj := { cls := qy "builtin_function_or_method", data := Data.fields #[qb "object.__init_subclass__", qr 47] }
noncomputable def qt1 (P : Params) : BT := qins (qt0 P) [(2, q1_2 P), (3, q1_3 P), (12, q1_12), (15, q1_15), (16, q1_16), (17, q1_17), (18, q1_18), (19, q1_19), (20, q1_20), (21, q1_21), (22, q1_22), (23, q1_23), (24, q1_24 P), (25, q1_25), (26, q1_26), (27, q1_27), (28, q1_28), (29, q1_29), (30, q1_30), (31, q1_31), (32, q1_32), (33, q1_33), (34, q1_34), (35, q1_35), (36, q1_36), (37, q1_37), (38, q1_38), (39, q1_39), (40, q1_40), (41, q1_41), (42, q1_42), (43, q1_43), (44, q1_44), (45, q1_45), (46, q1_46 P), (47, q1_47), (48, q1_48), (49, q1_49), (50, q1_50)]
theorem qp1 (w : World) : (fun os => segRunT treeTable prg w 11 (some (.ref 6)) 1 314 (qsh (qt0 w.params) 15 187 os) (piecesOf (qcut 0 3) qenv qB ⟨0, 0, 0, 0⟩ qF)) = fun os => some (.next, qsh (qt1 w.params) 51 234 os, qB, ⟨5, 0, 12, 24⟩) := by
  rw [PySem.W.Fast.te10110043849684766642, PySem.W.Fast.te14364793385576792824]; kernel_rfl
noncomputable def q2_3 (P : Params) : Obj := qdict (qy "dict") [qe P "__name__" 165 (qs "minismt.errors" 194), qe P "__doc__" 166 .none, qe P "__package__" 167 .none, qe P "__loader__" 168 (qb "__main__.__loader__#opaque"), qe P "__spec__" 169 .none, qe P "__annotations__" 170 (qr 6), qe P "__builtins__" 171 (qr 4), qe P "__file__" 173 (qs "/claim/cut.py" 172), qe P "__cached__" 174 .none, qe P "_wall" 193 (qr 21), qe P "SmtError" 233 (qr 47), qe P "SortFault" 256 (qr 67)] 12
noncomputable def q2_12 : Obj := { cls := .none, data := Data.fields #[qi 1 0, qi 0 0, qr 20, qi 5 0, qi 0 0, qr 28, qi 13 0, qi 0 0, qr 56] }
noncomputable def q2_47 : Obj := { cls := qy "type", data := Data.cls { name := qS "SmtError", bases := [qy "Exception"], mro := [qr 47, qy "Exception", qy "BaseException", qy "object"], ns := 46, qualname := qS "SmtError", subclasses := [qr 67] }, slots := #[some (qr 22), none, some (qs "SmtError" 196), some (qs "SmtError" 204), some (qb "Exception.__new__"), some (.bool true)] }
noncomputable def q2_51 : Obj := qtup [qr 47]
noncomputable def q2_52 : Obj := { cls := qy "builtin_function_or_method", data := Data.fields #[qb "type.__prepare__", qy "type"] }
noncomputable def q2_53 (P : Params) : Obj := qdict (qy "dict") [qe P "__module__" 241 (qs "minismt.errors" 194), qe P "__qualname__" 243 (qs "SortFault" 242), qe P "__firstlineno__" 245 (qi 13 244), qe P "told" 252 (qr 64), qe P "__static_attributes__" 253 (qr 65)] 5
noncomputable def q2_54 : Obj := qtup []
noncomputable def q2_55 : Obj := { cls := .none, data := Data.fields #[qi 15 0, qi 4 0, qr 63] }
noncomputable def q2_56 : Obj := qcode [qs "SortFault" 236, qs "SortFault" 237, qs "/claim/cut.py" 238, qi 13 0, qi 0 0, qi 0 0, qi 0 0, qi 0 0, qr 54, .bool false, qi 181 0, qr 55, .none, .none, .none, .none, qi 239 0, qi 13 0, qs "/claim/cut.py" 240]
noncomputable def q2_57 : Obj := { cls := qy "frame", slots := #[some (qr 56), some (qr 3), some (qr 53), none, some (qs "minismt.errors" 194), none, some (qr 0)] }
noncomputable def q2_58 : Obj := qtup []
noncomputable def q2_59 : Obj := { cls := .none, data := Data.fields #[] }
noncomputable def q2_60 : Obj := qtup [qs "self" 249]
noncomputable def q2_61 : Obj := qtup []
noncomputable def q2_62 : Obj := qf0 (mth 3 0) "SortFault.told"
noncomputable def q2_63 : Obj := qcode [qs "told" 246, qs "SortFault.told" 247, qs "/claim/cut.py" 248, qi 15 0, qi 1 0, qi 0 0, qi 0 0, qi 3 0, qr 58, .bool true, qi 181 0, qr 59, .none, qr 60, qr 61, qr 62, qi 250 0, qi 15 0, qs "/claim/cut.py" 251]
noncomputable def q2_64 : Obj := qfn (mth 3 0) "SortFault.told" [] .none (qs "minismt.errors" 194) (qr 63) .none
noncomputable def q2_65 : Obj := qtup []
noncomputable def q2_66 (P : Params) : Obj := qdict (qy "dict") [qe P "__module__" 241 (qs "minismt.errors" 194), qe P "__firstlineno__" 245 (qi 13 244), qe P "told" 252 (qr 64), qe P "__static_attributes__" 253 (qr 65), qe P "__doc__" 254 .none] 2
noncomputable def q2_67 : Obj := { cls := qy "type", data := Data.cls { name := qS "SortFault", bases := [qr 47], mro := [qr 67, qr 47, qy "Exception", qy "BaseException", qy "object"], ns := 66, qualname := qS "SortFault" }, slots := #[some (qr 51), none, some (qs "SortFault" 234), some (qs "SortFault" 242), some (qb "Exception.__new__"), some (.bool true)] }
noncomputable def q2_68 : Obj := { cls := qy "super", data := Data.fields #[qr 67, qr 67, qr 67] }
noncomputable def q2_69 : Obj := { cls := qy "builtin_function_or_method", data := Data.fields #[qb "object.__init_subclass__", qr 67] }
noncomputable def qt2 (P : Params) : BT := qins (qt1 P) [(3, q2_3 P), (12, q2_12), (47, q2_47), (51, q2_51), (52, q2_52), (53, q2_53 P), (54, q2_54), (55, q2_55), (56, q2_56), (57, q2_57), (58, q2_58), (59, q2_59), (60, q2_60), (61, q2_61), (62, q2_62), (63, q2_63), (64, q2_64), (65, q2_65), (66, q2_66 P), (67, q2_67), (68, q2_68), (69, q2_69)]
theorem qp2 (w : World) : (fun os => segRunT treeTable prg w 11 (some (.ref 6)) 1 244 (qsh (qt1 w.params) 51 234 os) (piecesOf (qcut 3 1) qenv qB ⟨5, 0, 12, 24⟩ qF)) = fun os => some (.next, qsh (qt2 w.params) 70 257 os, qB, ⟨13, 0, 16, 36⟩) := by
  rw [PySem.W.Fast.te10110043849684766642, PySem.W.Fast.te14364793385576792824]; kernel_rfl
noncomputable def q3_3 (P : Params) : Obj := qdict (qy "dict") [qe P "__name__" 165 (qs "minismt.errors" 194), qe P "__doc__" 166 .none, qe P "__package__" 167 .none, qe P "__loader__" 168 (qb "__main__.__loader__#opaque"), qe P "__spec__" 169 .none, qe P "__annotations__" 170 (qr 6), qe P "__builtins__" 171 (qr 4), qe P "__file__" 173 (qs "/claim/cut.py" 172), qe P "__cached__" 174 .none, qe P "_wall" 193 (qr 21), qe P "SmtError" 233 (qr 47), qe P "SortFault" 256 (qr 67), qe P "LimitFault" 279 (qr 86)] 13
noncomputable def q3_12 : Obj := { cls := .none, data := Data.fields #[qi 1 0, qi 0 0, qr 20, qi 5 0, qi 0 0, qr 28, qi 13 0, qi 0 0, qr 56, qi 17 0, qi 0 0, qr 75] }
noncomputable def q3_47 : Obj := { cls := qy "type", data := Data.cls { name := qS "SmtError", bases := [qy "Exception"], mro := [qr 47, qy "Exception", qy "BaseException", qy "object"], ns := 46, qualname := qS "SmtError", subclasses := [qr 67, qr 86] }, slots := #[some (qr 22), none, some (qs "SmtError" 196), some (qs "SmtError" 204), some (qb "Exception.__new__"), some (.bool true)] }
noncomputable def q3_70 : Obj := qtup [qr 47]
noncomputable def q3_71 : Obj := { cls := qy "builtin_function_or_method", data := Data.fields #[qb "type.__prepare__", qy "type"] }
noncomputable def q3_72 (P : Params) : Obj := qdict (qy "dict") [qe P "__module__" 264 (qs "minismt.errors" 194), qe P "__qualname__" 266 (qs "LimitFault" 265), qe P "__firstlineno__" 268 (qi 17 267), qe P "told" 275 (qr 83), qe P "__static_attributes__" 276 (qr 84)] 5
noncomputable def q3_73 : Obj := qtup []
noncomputable def q3_74 : Obj := { cls := .none, data := Data.fields #[qi 19 0, qi 4 0, qr 82] }
noncomputable def q3_75 : Obj := qcode [qs "LimitFault" 259, qs "LimitFault" 260, qs "/claim/cut.py" 261, qi 17 0, qi 0 0, qi 0 0, qi 0 0, qi 0 0, qr 73, .bool false, qi 181 0, qr 74, .none, .none, .none, .none, qi 262 0, qi 17 0, qs "/claim/cut.py" 263]
noncomputable def q3_76 : Obj := { cls := qy "frame", slots := #[some (qr 75), some (qr 3), some (qr 72), none, some (qs "minismt.errors" 194), none, some (qr 0)] }
noncomputable def q3_77 : Obj := qtup []
noncomputable def q3_78 : Obj := { cls := .none, data := Data.fields #[] }
noncomputable def q3_79 : Obj := qtup [qs "self" 272]
noncomputable def q3_80 : Obj := qtup []
noncomputable def q3_81 : Obj := qf0 (mth 4 0) "LimitFault.told"
noncomputable def q3_82 : Obj := qcode [qs "told" 269, qs "LimitFault.told" 270, qs "/claim/cut.py" 271, qi 19 0, qi 1 0, qi 0 0, qi 0 0, qi 3 0, qr 77, .bool true, qi 181 0, qr 78, .none, qr 79, qr 80, qr 81, qi 273 0, qi 19 0, qs "/claim/cut.py" 274]
noncomputable def q3_83 : Obj := qfn (mth 4 0) "LimitFault.told" [] .none (qs "minismt.errors" 194) (qr 82) .none
noncomputable def q3_84 : Obj := qtup []
noncomputable def q3_85 (P : Params) : Obj := qdict (qy "dict") [qe P "__module__" 264 (qs "minismt.errors" 194), qe P "__firstlineno__" 268 (qi 17 267), qe P "told" 275 (qr 83), qe P "__static_attributes__" 276 (qr 84), qe P "__doc__" 277 .none] 2
noncomputable def q3_86 : Obj := { cls := qy "type", data := Data.cls { name := qS "LimitFault", bases := [qr 47], mro := [qr 86, qr 47, qy "Exception", qy "BaseException", qy "object"], ns := 85, qualname := qS "LimitFault" }, slots := #[some (qr 70), none, some (qs "LimitFault" 257), some (qs "LimitFault" 265), some (qb "Exception.__new__"), some (.bool true)] }
noncomputable def q3_87 : Obj := { cls := qy "super", data := Data.fields #[qr 86, qr 86, qr 86] }
noncomputable def q3_88 : Obj := { cls := qy "builtin_function_or_method", data := Data.fields #[qb "object.__init_subclass__", qr 86] }
noncomputable def qt3 (P : Params) : BT := qins (qt2 P) [(3, q3_3 P), (12, q3_12), (47, q3_47), (70, q3_70), (71, q3_71), (72, q3_72 P), (73, q3_73), (74, q3_74), (75, q3_75), (76, q3_76), (77, q3_77), (78, q3_78), (79, q3_79), (80, q3_80), (81, q3_81), (82, q3_82), (83, q3_83), (84, q3_84), (85, q3_85 P), (86, q3_86), (87, q3_87), (88, q3_88)]
theorem qp3 (w : World) : (fun os => segRunT treeTable prg w 11 (some (.ref 6)) 1 244 (qsh (qt2 w.params) 70 257 os) (piecesOf (qcut 4 1) qenv qB ⟨13, 0, 16, 36⟩ qF)) = fun os => some (.next, qsh (qt3 w.params) 89 280 os, qB, ⟨17, 0, 20, 36⟩) := by
  rw [PySem.W.Fast.te10110043849684766642, PySem.W.Fast.te14364793385576792824]; kernel_rfl
noncomputable def q4_3 (P : Params) : Obj := qdict (qy "dict") [qe P "__name__" 165 (qs "minismt.terms" 337), qe P "__doc__" 166 .none, qe P "__package__" 167 .none, qe P "__loader__" 168 (qb "__main__.__loader__#opaque"), qe P "__spec__" 169 .none, qe P "__annotations__" 170 (qr 6), qe P "__builtins__" 171 (qr 4), qe P "__file__" 173 (qs "/claim/cut.py" 172), qe P "__cached__" 174 .none, qe P "_wall" 193 (qr 21), qe P "SmtError" 233 (qr 47), qe P "SortFault" 256 (qr 67), qe P "LimitFault" 279 (qr 86), qe P "ModelFault" 302 (qr 105), qe P "gcd_of" 312 (qr 114), qe P "ratio" 321 (qr 121), qe P "mul" 329 (qr 128), qe P "is_whole" 336 (qr 135)] 18
noncomputable def q4_12 : Obj := { cls := .none, data := Data.fields #[qi 1 0, qi 0 0, qr 20, qi 5 0, qi 0 0, qr 28, qi 13 0, qi 0 0, qr 56, qi 17 0, qi 0 0, qr 75, qi 21 0, qi 0 0, qr 94, qi 26 0, qi 0 0, qr 113, qi 31 0, qi 0 0, qr 120, qi 38 0, qi 0 0, qr 127, qi 42 0, qi 0 0, qr 134] }
noncomputable def q4_47 : Obj := { cls := qy "type", data := Data.cls { name := qS "SmtError", bases := [qy "Exception"], mro := [qr 47, qy "Exception", qy "BaseException", qy "object"], ns := 46, qualname := qS "SmtError", subclasses := [qr 67, qr 86, qr 105] }, slots := #[some (qr 22), none, some (qs "SmtError" 196), some (qs "SmtError" 204), some (qb "Exception.__new__"), some (.bool true)] }
noncomputable def q4_89 : Obj := qtup [qr 47]
noncomputable def q4_90 : Obj := { cls := qy "builtin_function_or_method", data := Data.fields #[qb "type.__prepare__", qy "type"] }
noncomputable def q4_91 (P : Params) : Obj := qdict (qy "dict") [qe P "__module__" 287 (qs "minismt.errors" 194), qe P "__qualname__" 289 (qs "ModelFault" 288), qe P "__firstlineno__" 291 (qi 21 290), qe P "told" 298 (qr 102), qe P "__static_attributes__" 299 (qr 103)] 5
noncomputable def q4_92 : Obj := qtup []
noncomputable def q4_93 : Obj := { cls := .none, data := Data.fields #[qi 23 0, qi 4 0, qr 101] }
noncomputable def q4_94 : Obj := qcode [qs "ModelFault" 282, qs "ModelFault" 283, qs "/claim/cut.py" 284, qi 21 0, qi 0 0, qi 0 0, qi 0 0, qi 0 0, qr 92, .bool false, qi 181 0, qr 93, .none, .none, .none, .none, qi 285 0, qi 21 0, qs "/claim/cut.py" 286]
noncomputable def q4_95 : Obj := { cls := qy "frame", slots := #[some (qr 94), some (qr 3), some (qr 91), none, some (qs "minismt.errors" 194), none, some (qr 0)] }
noncomputable def q4_96 : Obj := qtup []
noncomputable def q4_97 : Obj := { cls := .none, data := Data.fields #[] }
noncomputable def q4_98 : Obj := qtup [qs "self" 295]
noncomputable def q4_99 : Obj := qtup []
noncomputable def q4_100 : Obj := qf0 (mth 5 0) "ModelFault.told"
noncomputable def q4_101 : Obj := qcode [qs "told" 292, qs "ModelFault.told" 293, qs "/claim/cut.py" 294, qi 23 0, qi 1 0, qi 0 0, qi 0 0, qi 3 0, qr 96, .bool true, qi 181 0, qr 97, .none, qr 98, qr 99, qr 100, qi 296 0, qi 23 0, qs "/claim/cut.py" 297]
noncomputable def q4_102 : Obj := qfn (mth 5 0) "ModelFault.told" [] .none (qs "minismt.errors" 194) (qr 101) .none
noncomputable def q4_103 : Obj := qtup []
noncomputable def q4_104 (P : Params) : Obj := qdict (qy "dict") [qe P "__module__" 287 (qs "minismt.errors" 194), qe P "__firstlineno__" 291 (qi 21 290), qe P "told" 298 (qr 102), qe P "__static_attributes__" 299 (qr 103), qe P "__doc__" 300 .none] 2
noncomputable def q4_105 : Obj := { cls := qy "type", data := Data.cls { name := qS "ModelFault", bases := [qr 47], mro := [qr 105, qr 47, qy "Exception", qy "BaseException", qy "object"], ns := 104, qualname := qS "ModelFault" }, slots := #[some (qr 89), none, some (qs "ModelFault" 280), some (qs "ModelFault" 288), some (qb "Exception.__new__"), some (.bool true)] }
noncomputable def q4_106 : Obj := { cls := qy "super", data := Data.fields #[qr 105, qr 105, qr 105] }
noncomputable def q4_107 : Obj := { cls := qy "builtin_function_or_method", data := Data.fields #[qb "object.__init_subclass__", qr 105] }
noncomputable def q4_108 : Obj := qtup []
noncomputable def q4_109 : Obj := { cls := .none, data := Data.fields #[] }
noncomputable def q4_110 : Obj := qtup [qs "a" 308, qs "b" 309]
noncomputable def q4_111 : Obj := qtup []
noncomputable def q4_112 : Obj := qf0 (nthS top 7) "gcd_of"
noncomputable def q4_113 : Obj := qcode [qs "gcd_of" 305, qs "gcd_of" 306, qs "/claim/cut.py" 307, qi 26 0, qi 2 0, qi 0 0, qi 0 0, qi 3 0, qr 108, .bool true, qi 181 0, qr 109, .none, qr 110, qr 111, qr 112, qi 310 0, qi 26 0, qs "/claim/cut.py" 311]
noncomputable def q4_114 : Obj := qfn (nthS top 7) "gcd_of" [] .none (qs "minismt.ratios" 303) (qr 113) .none
noncomputable def q4_115 : Obj := qtup []
noncomputable def q4_116 : Obj := { cls := .none, data := Data.fields #[] }
noncomputable def q4_117 : Obj := qtup [qs "top" 316, qs "bottom" 317, qs "common" 318]
noncomputable def q4_118 : Obj := qtup []
noncomputable def q4_119 : Obj := qf0 (nthS top 8) "ratio"
noncomputable def q4_120 : Obj := qcode [qs "ratio" 313, qs "ratio" 314, qs "/claim/cut.py" 315, qi 31 0, qi 2 0, qi 0 0, qi 0 0, qi 3 0, qr 115, .bool true, qi 181 0, qr 116, .none, qr 117, qr 118, qr 119, qi 319 0, qi 31 0, qs "/claim/cut.py" 320]
noncomputable def q4_121 : Obj := qfn (nthS top 8) "ratio" [] .none (qs "minismt.ratios" 303) (qr 120) .none
noncomputable def q4_122 : Obj := qtup []
noncomputable def q4_123 : Obj := { cls := .none, data := Data.fields #[] }
noncomputable def q4_124 : Obj := qtup [qs "a" 325, qs "b" 326]
noncomputable def q4_125 : Obj := qtup []
noncomputable def q4_126 : Obj := qf0 (nthS top 9) "mul"
noncomputable def q4_127 : Obj := qcode [qs "mul" 322, qs "mul" 323, qs "/claim/cut.py" 324, qi 38 0, qi 2 0, qi 0 0, qi 0 0, qi 3 0, qr 122, .bool true, qi 181 0, qr 123, .none, qr 124, qr 125, qr 126, qi 327 0, qi 38 0, qs "/claim/cut.py" 328]
noncomputable def q4_128 : Obj := qfn (nthS top 9) "mul" [] .none (qs "minismt.ratios" 303) (qr 127) .none
noncomputable def q4_129 : Obj := qtup []
noncomputable def q4_130 : Obj := { cls := .none, data := Data.fields #[] }
noncomputable def q4_131 : Obj := qtup [qs "a" 333]
noncomputable def q4_132 : Obj := qtup []
noncomputable def q4_133 : Obj := qf0 (nthS top 10) "is_whole"
noncomputable def q4_134 : Obj := qcode [qs "is_whole" 330, qs "is_whole" 331, qs "/claim/cut.py" 332, qi 42 0, qi 1 0, qi 0 0, qi 0 0, qi 3 0, qr 129, .bool true, qi 181 0, qr 130, .none, qr 131, qr 132, qr 133, qi 334 0, qi 42 0, qs "/claim/cut.py" 335]
noncomputable def q4_135 : Obj := qfn (nthS top 10) "is_whole" [] .none (qs "minismt.ratios" 303) (qr 134) .none
noncomputable def qt4 (P : Params) : BT := qins (qt3 P) [(3, q4_3 P), (12, q4_12), (47, q4_47), (89, q4_89), (90, q4_90), (91, q4_91 P), (92, q4_92), (93, q4_93), (94, q4_94), (95, q4_95), (96, q4_96), (97, q4_97), (98, q4_98), (99, q4_99), (100, q4_100), (101, q4_101), (102, q4_102), (103, q4_103), (104, q4_104 P), (105, q4_105), (106, q4_106), (107, q4_107), (108, q4_108), (109, q4_109), (110, q4_110), (111, q4_111), (112, q4_112), (113, q4_113), (114, q4_114), (115, q4_115), (116, q4_116), (117, q4_117), (118, q4_118), (119, q4_119), (120, q4_120), (121, q4_121), (122, q4_122), (123, q4_123), (124, q4_124), (125, q4_125), (126, q4_126), (127, q4_127), (128, q4_128), (129, q4_129), (130, q4_130), (131, q4_131), (132, q4_132), (133, q4_133), (134, q4_134), (135, q4_135)]
theorem qp4 (w : World) : (fun os => segRunT treeTable prg w 11 (some (.ref 6)) 1 382 (qsh (qt3 w.params) 89 280 os) (piecesOf (qcut 5 7) qenv qB ⟨17, 0, 20, 36⟩ qF)) = fun os => some (.next, qsh (qt4 w.params) 136 339 os, qB, ⟨44, 0, 44, 8⟩) := by
  rw [PySem.W.Fast.te10110043849684766642, PySem.W.Fast.te14364793385576792824]; kernel_rfl
noncomputable def q5_3 (P : Params) : Obj := qdict (qy "dict") [qe P "__name__" 165 (qs "minismt.terms" 337), qe P "__doc__" 166 .none, qe P "__package__" 167 .none, qe P "__loader__" 168 (qb "__main__.__loader__#opaque"), qe P "__spec__" 169 .none, qe P "__annotations__" 170 (qr 6), qe P "__builtins__" 171 (qr 4), qe P "__file__" 173 (qs "/claim/cut.py" 172), qe P "__cached__" 174 .none, qe P "_wall" 193 (qr 21), qe P "SmtError" 233 (qr 47), qe P "SortFault" 256 (qr 67), qe P "LimitFault" 279 (qr 86), qe P "ModelFault" 302 (qr 105), qe P "gcd_of" 312 (qr 114), qe P "ratio" 321 (qr 121), qe P "mul" 329 (qr 128), qe P "is_whole" 336 (qr 135), qe P "mask_of" 345 (qr 142), qe P "signed_of" 353 (qr 149), qe P "one_value" 362 (qr 156), qe P "divided_value" 371 (qr 163), qe P "rest_value" 379 (qr 170), qe P "shifted_value" 389 (qr 177), qe P "two_value" 399 (qr 184), qe P "extract_value" 408 (qr 191), qe P "sign_extended" 417 (qr 198), qe P "BOOL" 419 (qi 0 418), qe P "INT" 421 (qi 1 420), qe P "REAL" 423 (qi 2 422), qe P "WIDEST" 425 (qi 4096 424), qe P "MOST_BITS" 429 (qi 65536 428), qe P "VALUE_OPS" 434 (qr 199)] 33
noncomputable def q5_12 : Obj := { cls := .none, data := Data.fields #[qi 1 0, qi 0 0, qr 20, qi 5 0, qi 0 0, qr 28, qi 13 0, qi 0 0, qr 56, qi 17 0, qi 0 0, qr 75, qi 21 0, qi 0 0, qr 94, qi 26 0, qi 0 0, qr 113, qi 31 0, qi 0 0, qr 120, qi 38 0, qi 0 0, qr 127, qi 42 0, qi 0 0, qr 134, qi 45 0, qi 0 0, qr 141, qi 47 0, qi 0 0, qr 148, qi 49 0, qi 0 0, qr 155, qi 55 0, qi 0 0, qr 162, qi 57 0, qi 0 0, qr 169, qi 59 0, qi 0 0, qr 176, qi 63 0, qi 0 0, qr 183, qi 83 0, qi 0 0, qr 190, qi 85 0, qi 0 0, qr 197] }
noncomputable def q5_136 : Obj := qtup []
noncomputable def q5_137 : Obj := { cls := .none, data := Data.fields #[] }
noncomputable def q5_138 : Obj := qtup [qs "width" 342]
noncomputable def q5_139 : Obj := qtup []
noncomputable def q5_140 : Obj := qf0 (nthS top 12) "mask_of"
noncomputable def q5_141 : Obj := qcode [qs "mask_of" 339, qs "mask_of" 340, qs "/claim/cut.py" 341, qi 45 0, qi 1 0, qi 0 0, qi 0 0, qi 3 0, qr 136, .bool true, qi 181 0, qr 137, .none, qr 138, qr 139, qr 140, qi 343 0, qi 45 0, qs "/claim/cut.py" 344]
noncomputable def q5_142 : Obj := qfn (nthS top 12) "mask_of" [] .none (qs "minismt.terms" 337) (qr 141) .none
noncomputable def q5_143 : Obj := qtup []
noncomputable def q5_144 : Obj := { cls := .none, data := Data.fields #[] }
noncomputable def q5_145 : Obj := qtup [qs "x" 349, qs "width" 350]
noncomputable def q5_146 : Obj := qtup []
noncomputable def q5_147 : Obj := qf0 (nthS top 13) "signed_of"
noncomputable def q5_148 : Obj := qcode [qs "signed_of" 346, qs "signed_of" 347, qs "/claim/cut.py" 348, qi 47 0, qi 2 0, qi 0 0, qi 0 0, qi 3 0, qr 143, .bool true, qi 181 0, qr 144, .none, qr 145, qr 146, qr 147, qi 351 0, qi 47 0, qs "/claim/cut.py" 352]
noncomputable def q5_149 : Obj := qfn (nthS top 13) "signed_of" [] .none (qs "minismt.terms" 337) (qr 148) .none
noncomputable def q5_150 : Obj := qtup []
noncomputable def q5_151 : Obj := { cls := .none, data := Data.fields #[] }
noncomputable def q5_152 : Obj := qtup [qs "op" 357, qs "x" 358, qs "width" 359]
noncomputable def q5_153 : Obj := qtup []
noncomputable def q5_154 : Obj := qf0 (nthS top 14) "one_value"
noncomputable def q5_155 : Obj := qcode [qs "one_value" 354, qs "one_value" 355, qs "/claim/cut.py" 356, qi 49 0, qi 3 0, qi 0 0, qi 0 0, qi 3 0, qr 150, .bool true, qi 181 0, qr 151, .none, qr 152, qr 153, qr 154, qi 360 0, qi 49 0, qs "/claim/cut.py" 361]
noncomputable def q5_156 : Obj := qfn (nthS top 14) "one_value" [] .none (qs "minismt.terms" 337) (qr 155) .none
noncomputable def q5_157 : Obj := qtup []
noncomputable def q5_158 : Obj := { cls := .none, data := Data.fields #[] }
noncomputable def q5_159 : Obj := qtup [qs "x" 366, qs "y" 367, qs "width" 368]
noncomputable def q5_160 : Obj := qtup []
noncomputable def q5_161 : Obj := qf0 (nthS top 15) "divided_value"
noncomputable def q5_162 : Obj := qcode [qs "divided_value" 363, qs "divided_value" 364, qs "/claim/cut.py" 365, qi 55 0, qi 3 0, qi 0 0, qi 0 0, qi 3 0, qr 157, .bool true, qi 181 0, qr 158, .none, qr 159, qr 160, qr 161, qi 369 0, qi 55 0, qs "/claim/cut.py" 370]
noncomputable def q5_163 : Obj := qfn (nthS top 15) "divided_value" [] .none (qs "minismt.terms" 337) (qr 162) .none
noncomputable def q5_164 : Obj := qtup []
noncomputable def q5_165 : Obj := { cls := .none, data := Data.fields #[] }
noncomputable def q5_166 : Obj := qtup [qs "x" 375, qs "y" 376]
noncomputable def q5_167 : Obj := qtup []
noncomputable def q5_168 : Obj := qf0 (nthS top 16) "rest_value"
noncomputable def q5_169 : Obj := qcode [qs "rest_value" 372, qs "rest_value" 373, qs "/claim/cut.py" 374, qi 57 0, qi 2 0, qi 0 0, qi 0 0, qi 3 0, qr 164, .bool true, qi 181 0, qr 165, .none, qr 166, qr 167, qr 168, qi 377 0, qi 57 0, qs "/claim/cut.py" 378]
noncomputable def q5_170 : Obj := qfn (nthS top 16) "rest_value" [] .none (qs "minismt.terms" 337) (qr 169) .none
noncomputable def q5_171 : Obj := qtup []
noncomputable def q5_172 : Obj := { cls := .none, data := Data.fields #[] }
noncomputable def q5_173 : Obj := qtup [qs "op" 383, qs "x" 384, qs "y" 385, qs "width" 386]
noncomputable def q5_174 : Obj := qtup []
noncomputable def q5_175 : Obj := qf0 (nthS top 17) "shifted_value"
noncomputable def q5_176 : Obj := qcode [qs "shifted_value" 380, qs "shifted_value" 381, qs "/claim/cut.py" 382, qi 59 0, qi 4 0, qi 0 0, qi 0 0, qi 3 0, qr 171, .bool true, qi 181 0, qr 172, .none, qr 173, qr 174, qr 175, qi 387 0, qi 59 0, qs "/claim/cut.py" 388]
noncomputable def q5_177 : Obj := qfn (nthS top 17) "shifted_value" [] .none (qs "minismt.terms" 337) (qr 176) .none
noncomputable def q5_178 : Obj := qtup []
noncomputable def q5_179 : Obj := { cls := .none, data := Data.fields #[] }
noncomputable def q5_180 : Obj := qtup [qs "op" 393, qs "x" 394, qs "y" 395, qs "width" 396]
noncomputable def q5_181 : Obj := qtup []
noncomputable def q5_182 : Obj := qf0 (nthS top 18) "two_value"
noncomputable def q5_183 : Obj := qcode [qs "two_value" 390, qs "two_value" 391, qs "/claim/cut.py" 392, qi 63 0, qi 4 0, qi 0 0, qi 0 0, qi 3 0, qr 178, .bool true, qi 181 0, qr 179, .none, qr 180, qr 181, qr 182, qi 397 0, qi 63 0, qs "/claim/cut.py" 398]
noncomputable def q5_184 : Obj := qfn (nthS top 18) "two_value" [] .none (qs "minismt.terms" 337) (qr 183) .none
noncomputable def q5_185 : Obj := qtup []
noncomputable def q5_186 : Obj := { cls := .none, data := Data.fields #[] }
noncomputable def q5_187 : Obj := qtup [qs "x" 403, qs "high" 404, qs "low" 405]
noncomputable def q5_188 : Obj := qtup []
noncomputable def q5_189 : Obj := qf0 (nthS top 19) "extract_value"
noncomputable def q5_190 : Obj := qcode [qs "extract_value" 400, qs "extract_value" 401, qs "/claim/cut.py" 402, qi 83 0, qi 3 0, qi 0 0, qi 0 0, qi 3 0, qr 185, .bool true, qi 181 0, qr 186, .none, qr 187, qr 188, qr 189, qi 406 0, qi 83 0, qs "/claim/cut.py" 407]
noncomputable def q5_191 : Obj := qfn (nthS top 19) "extract_value" [] .none (qs "minismt.terms" 337) (qr 190) .none
noncomputable def q5_192 : Obj := qtup []
noncomputable def q5_193 : Obj := { cls := .none, data := Data.fields #[] }
noncomputable def q5_194 : Obj := qtup [qs "x" 412, qs "width" 413, qs "many" 414]
noncomputable def q5_195 : Obj := qtup []
noncomputable def q5_196 : Obj := qf0 (nthS top 20) "sign_extended"
noncomputable def q5_197 : Obj := qcode [qs "sign_extended" 409, qs "sign_extended" 410, qs "/claim/cut.py" 411, qi 85 0, qi 3 0, qi 0 0, qi 0 0, qi 3 0, qr 192, .bool true, qi 181 0, qr 193, .none, qr 194, qr 195, qr 196, qi 415 0, qi 85 0, qs "/claim/cut.py" 416]
noncomputable def q5_198 : Obj := qfn (nthS top 20) "sign_extended" [] .none (qs "minismt.terms" 337) (qr 197) .none
noncomputable def q5_199 : Obj := qtup [qs "true" 430, qs "false" 431, qs "num" 432, qs "bvnum" 433]
noncomputable def qt5 (P : Params) : BT := qins (qt4 P) [(3, q5_3 P), (12, q5_12), (136, q5_136), (137, q5_137), (138, q5_138), (139, q5_139), (140, q5_140), (141, q5_141), (142, q5_142), (143, q5_143), (144, q5_144), (145, q5_145), (146, q5_146), (147, q5_147), (148, q5_148), (149, q5_149), (150, q5_150), (151, q5_151), (152, q5_152), (153, q5_153), (154, q5_154), (155, q5_155), (156, q5_156), (157, q5_157), (158, q5_158), (159, q5_159), (160, q5_160), (161, q5_161), (162, q5_162), (163, q5_163), (164, q5_164), (165, q5_165), (166, q5_166), (167, q5_167), (168, q5_168), (169, q5_169), (170, q5_170), (171, q5_171), (172, q5_172), (173, q5_173), (174, q5_174), (175, q5_175), (176, q5_176), (177, q5_177), (178, q5_178), (179, q5_179), (180, q5_180), (181, q5_181), (182, q5_182), (183, q5_183), (184, q5_184), (185, q5_185), (186, q5_186), (187, q5_187), (188, q5_188), (189, q5_189), (190, q5_190), (191, q5_191), (192, q5_192), (193, q5_193), (194, q5_194), (195, q5_195), (196, q5_196), (197, q5_197), (198, q5_198), (199, q5_199)]
theorem qp5 (w : World) : (fun os => segRunT treeTable prg w 11 (some (.ref 6)) 1 343 (qsh (qt4 w.params) 136 339 os) (piecesOf (qcut 12 15) qenv qB ⟨44, 0, 44, 8⟩ qF)) = fun os => some (.next, qsh (qt5 w.params) 200 435 os, qB, ⟨92, 0, 92, 9⟩) := by
  rw [PySem.W.Fast.te10110043849684766642, PySem.W.Fast.te14364793385576792824]; kernel_rfl
noncomputable def q6_3 (P : Params) : Obj := qdict (qy "dict") [qe P "__name__" 165 (qs "minismt.terms" 337), qe P "__doc__" 166 .none, qe P "__package__" 167 .none, qe P "__loader__" 168 (qb "__main__.__loader__#opaque"), qe P "__spec__" 169 .none, qe P "__annotations__" 170 (qr 6), qe P "__builtins__" 171 (qr 4), qe P "__file__" 173 (qs "/claim/cut.py" 172), qe P "__cached__" 174 .none, qe P "_wall" 193 (qr 21), qe P "SmtError" 233 (qr 47), qe P "SortFault" 256 (qr 67), qe P "LimitFault" 279 (qr 86), qe P "ModelFault" 302 (qr 105), qe P "gcd_of" 312 (qr 114), qe P "ratio" 321 (qr 121), qe P "mul" 329 (qr 128), qe P "is_whole" 336 (qr 135), qe P "mask_of" 345 (qr 142), qe P "signed_of" 353 (qr 149), qe P "one_value" 362 (qr 156), qe P "divided_value" 371 (qr 163), qe P "rest_value" 379 (qr 170), qe P "shifted_value" 389 (qr 177), qe P "two_value" 399 (qr 184), qe P "extract_value" 408 (qr 191), qe P "sign_extended" 417 (qr 198), qe P "BOOL" 419 (qi 0 418), qe P "INT" 421 (qi 1 420), qe P "REAL" 423 (qi 2 422), qe P "WIDEST" 425 (qi 4096 424), qe P "MOST_BITS" 429 (qi 65536 428), qe P "VALUE_OPS" 434 (qr 199), qe P "Bank" 712 (qr 412)] 34
noncomputable def q6_12 : Obj := { cls := .none, data := Data.fields #[qi 1 0, qi 0 0, qr 20, qi 5 0, qi 0 0, qr 28, qi 13 0, qi 0 0, qr 56, qi 17 0, qi 0 0, qr 75, qi 21 0, qi 0 0, qr 94, qi 26 0, qi 0 0, qr 113, qi 31 0, qi 0 0, qr 120, qi 38 0, qi 0 0, qr 127, qi 42 0, qi 0 0, qr 134, qi 45 0, qi 0 0, qr 141, qi 47 0, qi 0 0, qr 148, qi 49 0, qi 0 0, qr 155, qi 55 0, qi 0 0, qr 162, qi 57 0, qi 0 0, qr 169, qi 59 0, qi 0 0, qr 176, qi 63 0, qi 0 0, qr 183, qi 83 0, qi 0 0, qr 190, qi 85 0, qi 0 0, qr 197, qi 93 0, qi 0 0, qr 205] }
noncomputable def q6_200 : Obj := qtup []
noncomputable def q6_201 : Obj := { cls := qy "builtin_function_or_method", data := Data.fields #[qb "type.__prepare__", qy "type"] }
noncomputable def q6_202 (P : Params) : Obj := qdict (qy "dict") [qe P "__module__" 442 (qs "minismt.terms" 337), qe P "__qualname__" 444 (qs "Bank" 443), qe P "__firstlineno__" 446 (qi 93 445), qe P "__init__" 453 (qr 213), qe P "sort_name" 461 (qr 220), qe P "declare_sort" 469 (qr 227), qe P "width_of" 477 (qr 234), qe P "is_number_sort" 485 (qr 241), qe P "is_free_sort" 493 (qr 248), qe P "declare_fun" 503 (qr 255), qe P "fresh_fun" 513 (qr 262), qe P "fresh_const" 522 (qr 269), qe P "fun_name" 530 (qr 276), qe P "fun_arg_sorts" 538 (qr 283), qe P "fun_result" 546 (qr 290), qe P "fun_count" 553 (qr 297), qe P "op" 561 (qr 304), qe P "args" 569 (qr 311), qe P "sort" 577 (qr 318), qe P "data" 585 (qr 325), qe P "width" 593 (qr 332), qe P "size" 600 (qr 339), qe P "make" 613 (qr 346), qe P "find_made" 624 (qr 353), qe P "is_value" 632 (qr 360), qe P "want" 642 (qr 367), qe P "want_all" 653 (qr 374), qe P "true_term" 660 (qr 381), qe P "false_term" 667 (qr 388), qe P "bool_term" 675 (qr 395), qe P "parts" 683 (qr 402), qe P "parts_of_all" 691 (qr 409), qe P "__static_attributes__" 705 (qr 410)] 33
noncomputable def q6_203 : Obj := qtup []
noncomputable def q6_204 : Obj := { cls := .none, data := Data.fields #[qi 95 0, qi 4 0, qr 212, qi 110 0, qi 4 0, qr 219, qi 113 0, qi 4 0, qr 226, qi 116 0, qi 4 0, qr 233, qi 119 0, qi 4 0, qr 240, qi 122 0, qi 4 0, qr 247, qi 125 0, qi 4 0, qr 254, qi 131 0, qi 4 0, qr 261, qi 134 0, qi 4 0, qr 268, qi 137 0, qi 4 0, qr 275, qi 140 0, qi 4 0, qr 282, qi 143 0, qi 4 0, qr 289, qi 146 0, qi 4 0, qr 296, qi 149 0, qi 4 0, qr 303, qi 152 0, qi 4 0, qr 310, qi 155 0, qi 4 0, qr 317, qi 158 0, qi 4 0, qr 324, qi 161 0, qi 4 0, qr 331, qi 164 0, qi 4 0, qr 338, qi 167 0, qi 4 0, qr 345, qi 179 0, qi 4 0, qr 352, qi 182 0, qi 4 0, qr 359, qi 185 0, qi 4 0, qr 366, qi 189 0, qi 4 0, qr 373, qi 193 0, qi 4 0, qr 380, qi 196 0, qi 4 0, qr 387, qi 199 0, qi 4 0, qr 394, qi 202 0, qi 4 0, qr 401, qi 205 0, qi 4 0, qr 408] }
noncomputable def q6_205 : Obj := qcode [qs "Bank" 437, qs "Bank" 438, qs "/claim/cut.py" 439, qi 93 0, qi 0 0, qi 0 0, qi 0 0, qi 0 0, qr 203, .bool false, qi 181 0, qr 204, .none, .none, .none, .none, qi 440 0, qi 93 0, qs "/claim/cut.py" 441]
noncomputable def q6_206 : Obj := { cls := qy "frame", slots := #[some (qr 205), some (qr 3), some (qr 202), none, some (qs "minismt.terms" 337), none, some (qr 0)] }
noncomputable def q6_207 : Obj := qtup []
noncomputable def q6_208 : Obj := { cls := .none, data := Data.fields #[] }
noncomputable def q6_209 : Obj := qtup [qs "self" 450]
noncomputable def q6_210 : Obj := qtup []
noncomputable def q6_211 : Obj := qf0 (mth 27 0) "Bank.__init__"
noncomputable def q6_212 : Obj := qcode [qs "__init__" 447, qs "Bank.__init__" 448, qs "/claim/cut.py" 449, qi 95 0, qi 1 0, qi 0 0, qi 0 0, qi 3 0, qr 207, .bool true, qi 181 0, qr 208, .none, qr 209, qr 210, qr 211, qi 451 0, qi 95 0, qs "/claim/cut.py" 452]
noncomputable def q6_213 : Obj := qfn (mth 27 0) "Bank.__init__" [] .none (qs "minismt.terms" 337) (qr 212) .none
noncomputable def q6_214 : Obj := qtup []
noncomputable def q6_215 : Obj := { cls := .none, data := Data.fields #[] }
noncomputable def q6_216 : Obj := qtup [qs "self" 457, qs "s" 458]
noncomputable def q6_217 : Obj := qtup []
noncomputable def q6_218 : Obj := qf0 (mth 27 1) "Bank.sort_name"
noncomputable def q6_219 : Obj := qcode [qs "sort_name" 454, qs "Bank.sort_name" 455, qs "/claim/cut.py" 456, qi 110 0, qi 2 0, qi 0 0, qi 0 0, qi 3 0, qr 214, .bool true, qi 181 0, qr 215, .none, qr 216, qr 217, qr 218, qi 459 0, qi 110 0, qs "/claim/cut.py" 460]
noncomputable def q6_220 : Obj := qfn (mth 27 1) "Bank.sort_name" [] .none (qs "minismt.terms" 337) (qr 219) .none
noncomputable def q6_221 : Obj := qtup []
noncomputable def q6_222 : Obj := { cls := .none, data := Data.fields #[] }
noncomputable def q6_223 : Obj := qtup [qs "self" 465, qs "name" 466]
noncomputable def q6_224 : Obj := qtup []
noncomputable def q6_225 : Obj := qf0 (mth 27 2) "Bank.declare_sort"
noncomputable def q6_226 : Obj := qcode [qs "declare_sort" 462, qs "Bank.declare_sort" 463, qs "/claim/cut.py" 464, qi 113 0, qi 2 0, qi 0 0, qi 0 0, qi 3 0, qr 221, .bool true, qi 181 0, qr 222, .none, qr 223, qr 224, qr 225, qi 467 0, qi 113 0, qs "/claim/cut.py" 468]
noncomputable def q6_227 : Obj := qfn (mth 27 2) "Bank.declare_sort" [] .none (qs "minismt.terms" 337) (qr 226) .none
noncomputable def q6_228 : Obj := qtup []
noncomputable def q6_229 : Obj := { cls := .none, data := Data.fields #[] }
noncomputable def q6_230 : Obj := qtup [qs "self" 473, qs "s" 474]
noncomputable def q6_231 : Obj := qtup []
noncomputable def q6_232 : Obj := qf0 (mth 27 3) "Bank.width_of"
noncomputable def q6_233 : Obj := qcode [qs "width_of" 470, qs "Bank.width_of" 471, qs "/claim/cut.py" 472, qi 116 0, qi 2 0, qi 0 0, qi 0 0, qi 3 0, qr 228, .bool true, qi 181 0, qr 229, .none, qr 230, qr 231, qr 232, qi 475 0, qi 116 0, qs "/claim/cut.py" 476]
noncomputable def q6_234 : Obj := qfn (mth 27 3) "Bank.width_of" [] .none (qs "minismt.terms" 337) (qr 233) .none
noncomputable def q6_235 : Obj := qtup []
noncomputable def q6_236 : Obj := { cls := .none, data := Data.fields #[] }
noncomputable def q6_237 : Obj := qtup [qs "self" 481, qs "s" 482]
noncomputable def q6_238 : Obj := qtup []
noncomputable def q6_239 : Obj := qf0 (mth 27 4) "Bank.is_number_sort"
noncomputable def q6_240 : Obj := qcode [qs "is_number_sort" 478, qs "Bank.is_number_sort" 479, qs "/claim/cut.py" 480, qi 119 0, qi 2 0, qi 0 0, qi 0 0, qi 3 0, qr 235, .bool true, qi 181 0, qr 236, .none, qr 237, qr 238, qr 239, qi 483 0, qi 119 0, qs "/claim/cut.py" 484]
noncomputable def q6_241 : Obj := qfn (mth 27 4) "Bank.is_number_sort" [] .none (qs "minismt.terms" 337) (qr 240) .none
noncomputable def q6_242 : Obj := qtup []
noncomputable def q6_243 : Obj := { cls := .none, data := Data.fields #[] }
noncomputable def q6_244 : Obj := qtup [qs "self" 489, qs "s" 490]
noncomputable def q6_245 : Obj := qtup []
noncomputable def q6_246 : Obj := qf0 (mth 27 5) "Bank.is_free_sort"
noncomputable def q6_247 : Obj := qcode [qs "is_free_sort" 486, qs "Bank.is_free_sort" 487, qs "/claim/cut.py" 488, qi 122 0, qi 2 0, qi 0 0, qi 0 0, qi 3 0, qr 242, .bool true, qi 181 0, qr 243, .none, qr 244, qr 245, qr 246, qi 491 0, qi 122 0, qs "/claim/cut.py" 492]
noncomputable def q6_248 : Obj := qfn (mth 27 5) "Bank.is_free_sort" [] .none (qs "minismt.terms" 337) (qr 247) .none
noncomputable def q6_249 : Obj := qtup []
noncomputable def q6_250 : Obj := { cls := .none, data := Data.fields #[] }
noncomputable def q6_251 : Obj := qtup [qs "self" 497, qs "name" 498, qs "arg_sorts" 499, qs "result" 500]
noncomputable def q6_252 : Obj := qtup []
noncomputable def q6_253 : Obj := qf0 (mth 27 6) "Bank.declare_fun"
noncomputable def q6_254 : Obj := qcode [qs "declare_fun" 494, qs "Bank.declare_fun" 495, qs "/claim/cut.py" 496, qi 125 0, qi 4 0, qi 0 0, qi 0 0, qi 3 0, qr 249, .bool true, qi 181 0, qr 250, .none, qr 251, qr 252, qr 253, qi 501 0, qi 125 0, qs "/claim/cut.py" 502]
noncomputable def q6_255 : Obj := qfn (mth 27 6) "Bank.declare_fun" [] .none (qs "minismt.terms" 337) (qr 254) .none
noncomputable def q6_256 : Obj := qtup []
noncomputable def q6_257 : Obj := { cls := .none, data := Data.fields #[] }
noncomputable def q6_258 : Obj := qtup [qs "self" 507, qs "stem" 508, qs "arg_sorts" 509, qs "result" 510]
noncomputable def q6_259 : Obj := qtup []
noncomputable def q6_260 : Obj := qf0 (mth 27 7) "Bank.fresh_fun"
noncomputable def q6_261 : Obj := qcode [qs "fresh_fun" 504, qs "Bank.fresh_fun" 505, qs "/claim/cut.py" 506, qi 131 0, qi 4 0, qi 0 0, qi 0 0, qi 3 0, qr 256, .bool true, qi 181 0, qr 257, .none, qr 258, qr 259, qr 260, qi 511 0, qi 131 0, qs "/claim/cut.py" 512]
noncomputable def q6_262 : Obj := qfn (mth 27 7) "Bank.fresh_fun" [] .none (qs "minismt.terms" 337) (qr 261) .none
noncomputable def q6_263 : Obj := qtup []
noncomputable def q6_264 : Obj := { cls := .none, data := Data.fields #[] }
noncomputable def q6_265 : Obj := qtup [qs "self" 517, qs "name" 518, qs "s" 519]
noncomputable def q6_266 : Obj := qtup []
noncomputable def q6_267 : Obj := qf0 (mth 27 8) "Bank.fresh_const"
noncomputable def q6_268 : Obj := qcode [qs "fresh_const" 514, qs "Bank.fresh_const" 515, qs "/claim/cut.py" 516, qi 134 0, qi 3 0, qi 0 0, qi 0 0, qi 3 0, qr 263, .bool true, qi 181 0, qr 264, .none, qr 265, qr 266, qr 267, qi 520 0, qi 134 0, qs "/claim/cut.py" 521]
noncomputable def q6_269 : Obj := qfn (mth 27 8) "Bank.fresh_const" [] .none (qs "minismt.terms" 337) (qr 268) .none
noncomputable def q6_270 : Obj := qtup []
noncomputable def q6_271 : Obj := { cls := .none, data := Data.fields #[] }
noncomputable def q6_272 : Obj := qtup [qs "self" 526, qs "f" 527]
noncomputable def q6_273 : Obj := qtup []
noncomputable def q6_274 : Obj := qf0 (mth 27 9) "Bank.fun_name"
noncomputable def q6_275 : Obj := qcode [qs "fun_name" 523, qs "Bank.fun_name" 524, qs "/claim/cut.py" 525, qi 137 0, qi 2 0, qi 0 0, qi 0 0, qi 3 0, qr 270, .bool true, qi 181 0, qr 271, .none, qr 272, qr 273, qr 274, qi 528 0, qi 137 0, qs "/claim/cut.py" 529]
noncomputable def q6_276 : Obj := qfn (mth 27 9) "Bank.fun_name" [] .none (qs "minismt.terms" 337) (qr 275) .none
noncomputable def q6_277 : Obj := qtup []
noncomputable def q6_278 : Obj := { cls := .none, data := Data.fields #[] }
noncomputable def q6_279 : Obj := qtup [qs "self" 534, qs "f" 535]
noncomputable def q6_280 : Obj := qtup []
noncomputable def q6_281 : Obj := qf0 (mth 27 10) "Bank.fun_arg_sorts"
noncomputable def q6_282 : Obj := qcode [qs "fun_arg_sorts" 531, qs "Bank.fun_arg_sorts" 532, qs "/claim/cut.py" 533, qi 140 0, qi 2 0, qi 0 0, qi 0 0, qi 3 0, qr 277, .bool true, qi 181 0, qr 278, .none, qr 279, qr 280, qr 281, qi 536 0, qi 140 0, qs "/claim/cut.py" 537]
noncomputable def q6_283 : Obj := qfn (mth 27 10) "Bank.fun_arg_sorts" [] .none (qs "minismt.terms" 337) (qr 282) .none
noncomputable def q6_284 : Obj := qtup []
noncomputable def q6_285 : Obj := { cls := .none, data := Data.fields #[] }
noncomputable def q6_286 : Obj := qtup [qs "self" 542, qs "f" 543]
noncomputable def q6_287 : Obj := qtup []
noncomputable def q6_288 : Obj := qf0 (mth 27 11) "Bank.fun_result"
noncomputable def q6_289 : Obj := qcode [qs "fun_result" 539, qs "Bank.fun_result" 540, qs "/claim/cut.py" 541, qi 143 0, qi 2 0, qi 0 0, qi 0 0, qi 3 0, qr 284, .bool true, qi 181 0, qr 285, .none, qr 286, qr 287, qr 288, qi 544 0, qi 143 0, qs "/claim/cut.py" 545]
noncomputable def q6_290 : Obj := qfn (mth 27 11) "Bank.fun_result" [] .none (qs "minismt.terms" 337) (qr 289) .none
noncomputable def q6_291 : Obj := qtup []
noncomputable def q6_292 : Obj := { cls := .none, data := Data.fields #[] }
noncomputable def q6_293 : Obj := qtup [qs "self" 550]
noncomputable def q6_294 : Obj := qtup []
noncomputable def q6_295 : Obj := qf0 (mth 27 12) "Bank.fun_count"
noncomputable def q6_296 : Obj := qcode [qs "fun_count" 547, qs "Bank.fun_count" 548, qs "/claim/cut.py" 549, qi 146 0, qi 1 0, qi 0 0, qi 0 0, qi 3 0, qr 291, .bool true, qi 181 0, qr 292, .none, qr 293, qr 294, qr 295, qi 551 0, qi 146 0, qs "/claim/cut.py" 552]
noncomputable def q6_297 : Obj := qfn (mth 27 12) "Bank.fun_count" [] .none (qs "minismt.terms" 337) (qr 296) .none
noncomputable def q6_298 : Obj := qtup []
noncomputable def q6_299 : Obj := { cls := .none, data := Data.fields #[] }
noncomputable def q6_300 : Obj := qtup [qs "self" 557, qs "t" 558]
noncomputable def q6_301 : Obj := qtup []
noncomputable def q6_302 : Obj := qf0 (mth 27 13) "Bank.op"
noncomputable def q6_303 : Obj := qcode [qs "op" 554, qs "Bank.op" 555, qs "/claim/cut.py" 556, qi 149 0, qi 2 0, qi 0 0, qi 0 0, qi 3 0, qr 298, .bool true, qi 181 0, qr 299, .none, qr 300, qr 301, qr 302, qi 559 0, qi 149 0, qs "/claim/cut.py" 560]
noncomputable def q6_304 : Obj := qfn (mth 27 13) "Bank.op" [] .none (qs "minismt.terms" 337) (qr 303) .none
noncomputable def q6_305 : Obj := qtup []
noncomputable def q6_306 : Obj := { cls := .none, data := Data.fields #[] }
noncomputable def q6_307 : Obj := qtup [qs "self" 565, qs "t" 566]
noncomputable def q6_308 : Obj := qtup []
noncomputable def q6_309 : Obj := qf0 (mth 27 14) "Bank.args"
noncomputable def q6_310 : Obj := qcode [qs "args" 562, qs "Bank.args" 563, qs "/claim/cut.py" 564, qi 152 0, qi 2 0, qi 0 0, qi 0 0, qi 3 0, qr 305, .bool true, qi 181 0, qr 306, .none, qr 307, qr 308, qr 309, qi 567 0, qi 152 0, qs "/claim/cut.py" 568]
noncomputable def q6_311 : Obj := qfn (mth 27 14) "Bank.args" [] .none (qs "minismt.terms" 337) (qr 310) .none
noncomputable def q6_312 : Obj := qtup []
noncomputable def q6_313 : Obj := { cls := .none, data := Data.fields #[] }
noncomputable def q6_314 : Obj := qtup [qs "self" 573, qs "t" 574]
noncomputable def q6_315 : Obj := qtup []
noncomputable def q6_316 : Obj := qf0 (mth 27 15) "Bank.sort"
noncomputable def q6_317 : Obj := qcode [qs "sort" 570, qs "Bank.sort" 571, qs "/claim/cut.py" 572, qi 155 0, qi 2 0, qi 0 0, qi 0 0, qi 3 0, qr 312, .bool true, qi 181 0, qr 313, .none, qr 314, qr 315, qr 316, qi 575 0, qi 155 0, qs "/claim/cut.py" 576]
noncomputable def q6_318 : Obj := qfn (mth 27 15) "Bank.sort" [] .none (qs "minismt.terms" 337) (qr 317) .none
noncomputable def q6_319 : Obj := qtup []
noncomputable def q6_320 : Obj := { cls := .none, data := Data.fields #[] }
noncomputable def q6_321 : Obj := qtup [qs "self" 581, qs "t" 582]
noncomputable def q6_322 : Obj := qtup []
noncomputable def q6_323 : Obj := qf0 (mth 27 16) "Bank.data"
noncomputable def q6_324 : Obj := qcode [qs "data" 578, qs "Bank.data" 579, qs "/claim/cut.py" 580, qi 158 0, qi 2 0, qi 0 0, qi 0 0, qi 3 0, qr 319, .bool true, qi 181 0, qr 320, .none, qr 321, qr 322, qr 323, qi 583 0, qi 158 0, qs "/claim/cut.py" 584]
noncomputable def q6_325 : Obj := qfn (mth 27 16) "Bank.data" [] .none (qs "minismt.terms" 337) (qr 324) .none
noncomputable def q6_326 : Obj := qtup []
noncomputable def q6_327 : Obj := { cls := .none, data := Data.fields #[] }
noncomputable def q6_328 : Obj := qtup [qs "self" 589, qs "t" 590]
noncomputable def q6_329 : Obj := qtup []
noncomputable def q6_330 : Obj := qf0 (mth 27 17) "Bank.width"
noncomputable def q6_331 : Obj := qcode [qs "width" 586, qs "Bank.width" 587, qs "/claim/cut.py" 588, qi 161 0, qi 2 0, qi 0 0, qi 0 0, qi 3 0, qr 326, .bool true, qi 181 0, qr 327, .none, qr 328, qr 329, qr 330, qi 591 0, qi 161 0, qs "/claim/cut.py" 592]
noncomputable def q6_332 : Obj := qfn (mth 27 17) "Bank.width" [] .none (qs "minismt.terms" 337) (qr 331) .none
noncomputable def q6_333 : Obj := qtup []
noncomputable def q6_334 : Obj := { cls := .none, data := Data.fields #[] }
noncomputable def q6_335 : Obj := qtup [qs "self" 597]
noncomputable def q6_336 : Obj := qtup []
noncomputable def q6_337 : Obj := qf0 (mth 27 18) "Bank.size"
noncomputable def q6_338 : Obj := qcode [qs "size" 594, qs "Bank.size" 595, qs "/claim/cut.py" 596, qi 164 0, qi 1 0, qi 0 0, qi 0 0, qi 3 0, qr 333, .bool true, qi 181 0, qr 334, .none, qr 335, qr 336, qr 337, qi 598 0, qi 164 0, qs "/claim/cut.py" 599]
noncomputable def q6_339 : Obj := qfn (mth 27 18) "Bank.size" [] .none (qs "minismt.terms" 337) (qr 338) .none
noncomputable def q6_340 : Obj := qtup []
noncomputable def q6_341 : Obj := { cls := .none, data := Data.fields #[] }
noncomputable def q6_342 : Obj := qtup [qs "self" 604, qs "op" 605, qs "args" 606, qs "sort" 607, qs "data" 608, qs "key" 609, qs "found" 610]
noncomputable def q6_343 : Obj := qtup []
noncomputable def q6_344 : Obj := qf0 (mth 27 19) "Bank.make"
noncomputable def q6_345 : Obj := qcode [qs "make" 601, qs "Bank.make" 602, qs "/claim/cut.py" 603, qi 167 0, qi 5 0, qi 0 0, qi 0 0, qi 3 0, qr 340, .bool true, qi 181 0, qr 341, .none, qr 342, qr 343, qr 344, qi 611 0, qi 167 0, qs "/claim/cut.py" 612]
noncomputable def q6_346 : Obj := qfn (mth 27 19) "Bank.make" [] .none (qs "minismt.terms" 337) (qr 345) .none
noncomputable def q6_347 : Obj := qtup []
noncomputable def q6_348 : Obj := { cls := .none, data := Data.fields #[] }
noncomputable def q6_349 : Obj := qtup [qs "self" 617, qs "op" 618, qs "args" 619, qs "sort" 620, qs "data" 621]
noncomputable def q6_350 : Obj := qtup []
noncomputable def q6_351 : Obj := qf0 (mth 27 20) "Bank.find_made"
noncomputable def q6_352 : Obj := qcode [qs "find_made" 614, qs "Bank.find_made" 615, qs "/claim/cut.py" 616, qi 179 0, qi 5 0, qi 0 0, qi 0 0, qi 3 0, qr 347, .bool true, qi 181 0, qr 348, .none, qr 349, qr 350, qr 351, qi 622 0, qi 179 0, qs "/claim/cut.py" 623]
noncomputable def q6_353 : Obj := qfn (mth 27 20) "Bank.find_made" [] .none (qs "minismt.terms" 337) (qr 352) .none
noncomputable def q6_354 : Obj := qtup []
noncomputable def q6_355 : Obj := { cls := .none, data := Data.fields #[] }
noncomputable def q6_356 : Obj := qtup [qs "self" 628, qs "t" 629]
noncomputable def q6_357 : Obj := qtup []
noncomputable def q6_358 : Obj := qf0 (mth 27 21) "Bank.is_value"
noncomputable def q6_359 : Obj := qcode [qs "is_value" 625, qs "Bank.is_value" 626, qs "/claim/cut.py" 627, qi 182 0, qi 2 0, qi 0 0, qi 0 0, qi 3 0, qr 354, .bool true, qi 181 0, qr 355, .none, qr 356, qr 357, qr 358, qi 630 0, qi 182 0, qs "/claim/cut.py" 631]
noncomputable def q6_360 : Obj := qfn (mth 27 21) "Bank.is_value" [] .none (qs "minismt.terms" 337) (qr 359) .none
noncomputable def q6_361 : Obj := qtup []
noncomputable def q6_362 : Obj := { cls := .none, data := Data.fields #[] }
noncomputable def q6_363 : Obj := qtup [qs "self" 636, qs "t" 637, qs "s" 638, qs "where" 639]
noncomputable def q6_364 : Obj := qtup []
noncomputable def q6_365 : Obj := qf0 (mth 27 22) "Bank.want"
noncomputable def q6_366 : Obj := qcode [qs "want" 633, qs "Bank.want" 634, qs "/claim/cut.py" 635, qi 185 0, qi 4 0, qi 0 0, qi 0 0, qi 3 0, qr 361, .bool true, qi 181 0, qr 362, .none, qr 363, qr 364, qr 365, qi 640 0, qi 185 0, qs "/claim/cut.py" 641]
noncomputable def q6_367 : Obj := qfn (mth 27 22) "Bank.want" [] .none (qs "minismt.terms" 337) (qr 366) .none
noncomputable def q6_368 : Obj := qtup []
noncomputable def q6_369 : Obj := { cls := .none, data := Data.fields #[] }
noncomputable def q6_370 : Obj := qtup [qs "self" 646, qs "some" 647, qs "s" 648, qs "where" 649, qs "t" 650]
noncomputable def q6_371 : Obj := qtup []
noncomputable def q6_372 : Obj := qf0 (mth 27 23) "Bank.want_all"
noncomputable def q6_373 : Obj := qcode [qs "want_all" 643, qs "Bank.want_all" 644, qs "/claim/cut.py" 645, qi 189 0, qi 4 0, qi 0 0, qi 0 0, qi 3 0, qr 368, .bool true, qi 181 0, qr 369, .none, qr 370, qr 371, qr 372, qi 651 0, qi 189 0, qs "/claim/cut.py" 652]
noncomputable def q6_374 : Obj := qfn (mth 27 23) "Bank.want_all" [] .none (qs "minismt.terms" 337) (qr 373) .none
noncomputable def q6_375 : Obj := qtup []
noncomputable def q6_376 : Obj := { cls := .none, data := Data.fields #[] }
noncomputable def q6_377 : Obj := qtup [qs "self" 657]
noncomputable def q6_378 : Obj := qtup []
noncomputable def q6_379 : Obj := qf0 (mth 27 24) "Bank.true_term"
noncomputable def q6_380 : Obj := qcode [qs "true_term" 654, qs "Bank.true_term" 655, qs "/claim/cut.py" 656, qi 193 0, qi 1 0, qi 0 0, qi 0 0, qi 3 0, qr 375, .bool true, qi 181 0, qr 376, .none, qr 377, qr 378, qr 379, qi 658 0, qi 193 0, qs "/claim/cut.py" 659]
noncomputable def q6_381 : Obj := qfn (mth 27 24) "Bank.true_term" [] .none (qs "minismt.terms" 337) (qr 380) .none
noncomputable def q6_382 : Obj := qtup []
noncomputable def q6_383 : Obj := { cls := .none, data := Data.fields #[] }
noncomputable def q6_384 : Obj := qtup [qs "self" 664]
noncomputable def q6_385 : Obj := qtup []
noncomputable def q6_386 : Obj := qf0 (mth 27 25) "Bank.false_term"
noncomputable def q6_387 : Obj := qcode [qs "false_term" 661, qs "Bank.false_term" 662, qs "/claim/cut.py" 663, qi 196 0, qi 1 0, qi 0 0, qi 0 0, qi 3 0, qr 382, .bool true, qi 181 0, qr 383, .none, qr 384, qr 385, qr 386, qi 665 0, qi 196 0, qs "/claim/cut.py" 666]
noncomputable def q6_388 : Obj := qfn (mth 27 25) "Bank.false_term" [] .none (qs "minismt.terms" 337) (qr 387) .none
noncomputable def q6_389 : Obj := qtup []
noncomputable def q6_390 : Obj := { cls := .none, data := Data.fields #[] }
noncomputable def q6_391 : Obj := qtup [qs "self" 671, qs "holds" 672]
noncomputable def q6_392 : Obj := qtup []
noncomputable def q6_393 : Obj := qf0 (mth 27 26) "Bank.bool_term"
noncomputable def q6_394 : Obj := qcode [qs "bool_term" 668, qs "Bank.bool_term" 669, qs "/claim/cut.py" 670, qi 199 0, qi 2 0, qi 0 0, qi 0 0, qi 3 0, qr 389, .bool true, qi 181 0, qr 390, .none, qr 391, qr 392, qr 393, qi 673 0, qi 199 0, qs "/claim/cut.py" 674]
noncomputable def q6_395 : Obj := qfn (mth 27 26) "Bank.bool_term" [] .none (qs "minismt.terms" 337) (qr 394) .none
noncomputable def q6_396 : Obj := qtup []
noncomputable def q6_397 : Obj := { cls := .none, data := Data.fields #[] }
noncomputable def q6_398 : Obj := qtup [qs "self" 679, qs "t" 680]
noncomputable def q6_399 : Obj := qtup []
noncomputable def q6_400 : Obj := qf0 (mth 27 27) "Bank.parts"
noncomputable def q6_401 : Obj := qcode [qs "parts" 676, qs "Bank.parts" 677, qs "/claim/cut.py" 678, qi 202 0, qi 2 0, qi 0 0, qi 0 0, qi 3 0, qr 396, .bool true, qi 181 0, qr 397, .none, qr 398, qr 399, qr 400, qi 681 0, qi 202 0, qs "/claim/cut.py" 682]
noncomputable def q6_402 : Obj := qfn (mth 27 27) "Bank.parts" [] .none (qs "minismt.terms" 337) (qr 401) .none
noncomputable def q6_403 : Obj := qtup []
noncomputable def q6_404 : Obj := { cls := .none, data := Data.fields #[] }
noncomputable def q6_405 : Obj := qtup [qs "self" 687, qs "some" 688]
noncomputable def q6_406 : Obj := qtup []
noncomputable def q6_407 : Obj := qf0 (mth 27 28) "Bank.parts_of_all"
noncomputable def q6_408 : Obj := qcode [qs "parts_of_all" 684, qs "Bank.parts_of_all" 685, qs "/claim/cut.py" 686, qi 205 0, qi 2 0, qi 0 0, qi 0 0, qi 3 0, qr 403, .bool true, qi 181 0, qr 404, .none, qr 405, qr 406, qr 407, qi 689 0, qi 205 0, qs "/claim/cut.py" 690]
noncomputable def q6_409 : Obj := qfn (mth 27 28) "Bank.parts_of_all" [] .none (qs "minismt.terms" 337) (qr 408) .none
noncomputable def q6_410 : Obj := qtup [qs "false_number" 692, qs "fresh_count" 693, qs "fun_args" 694, qs "fun_names" 695, qs "fun_results" 696, qs "numbers" 697, qs "sort_names" 698, qs "sort_widths" 699, qs "term_args" 700, qs "term_datas" 701, qs "term_ops" 702, qs "term_sorts" 703, qs "true_number" 704]
noncomputable def q6_411 (P : Params) : Obj := qdict (qy "dict") [qe P "__module__" 442 (qs "minismt.terms" 337), qe P "__firstlineno__" 446 (qi 93 445), qe P "__init__" 453 (qr 213), qe P "sort_name" 461 (qr 220), qe P "declare_sort" 469 (qr 227), qe P "width_of" 477 (qr 234), qe P "is_number_sort" 485 (qr 241), qe P "is_free_sort" 493 (qr 248), qe P "declare_fun" 503 (qr 255), qe P "fresh_fun" 513 (qr 262), qe P "fresh_const" 522 (qr 269), qe P "fun_name" 530 (qr 276), qe P "fun_arg_sorts" 538 (qr 283), qe P "fun_result" 546 (qr 290), qe P "fun_count" 553 (qr 297), qe P "op" 561 (qr 304), qe P "args" 569 (qr 311), qe P "sort" 577 (qr 318), qe P "data" 585 (qr 325), qe P "width" 593 (qr 332), qe P "size" 600 (qr 339), qe P "make" 613 (qr 346), qe P "find_made" 624 (qr 353), qe P "is_value" 632 (qr 360), qe P "want" 642 (qr 367), qe P "want_all" 653 (qr 374), qe P "true_term" 660 (qr 381), qe P "false_term" 667 (qr 388), qe P "bool_term" 675 (qr 395), qe P "parts" 683 (qr 402), qe P "parts_of_all" 691 (qr 409), qe P "__static_attributes__" 705 (qr 410), qe P "__dict__" 707 (qr 413), qe P "__weakref__" 709 (qr 414), qe P "__doc__" 710 .none] 4
noncomputable def q6_412 : Obj := { cls := qy "type", data := Data.cls { name := qS "Bank", bases := [qy "object"], mro := [qr 412, qy "object"], ns := 411, qualname := qS "Bank" }, slots := #[none, none, some (qs "Bank" 435), some (qs "Bank" 443), some (qb "object.__new__"), some (.bool true)] }
noncomputable def q6_413 : Obj := { cls := qy "getset_descriptor", data := Data.fields #[qs "__dict__" 706, qr 412, qb "function.__dict__", qb "function.__dict__#set"] }
noncomputable def q6_414 : Obj := { cls := qy "getset_descriptor", data := Data.fields #[qs "__weakref__" 708, qr 412, qb "ExceptionGroup.__weakref__", .none] }
noncomputable def q6_415 : Obj := { cls := qy "super", data := Data.fields #[qr 412, qr 412, qr 412] }
noncomputable def q6_416 : Obj := { cls := qy "builtin_function_or_method", data := Data.fields #[qb "object.__init_subclass__", qr 412] }
noncomputable def qt6 (P : Params) : BT := qins (qt5 P) [(3, q6_3 P), (12, q6_12), (200, q6_200), (201, q6_201), (202, q6_202 P), (203, q6_203), (204, q6_204), (205, q6_205), (206, q6_206), (207, q6_207), (208, q6_208), (209, q6_209), (210, q6_210), (211, q6_211), (212, q6_212), (213, q6_213), (214, q6_214), (215, q6_215), (216, q6_216), (217, q6_217), (218, q6_218), (219, q6_219), (220, q6_220), (221, q6_221), (222, q6_222), (223, q6_223), (224, q6_224), (225, q6_225), (226, q6_226), (227, q6_227), (228, q6_228), (229, q6_229), (230, q6_230), (231, q6_231), (232, q6_232), (233, q6_233), (234, q6_234), (235, q6_235), (236, q6_236), (237, q6_237), (238, q6_238), (239, q6_239), (240, q6_240), (241, q6_241), (242, q6_242), (243, q6_243), (244, q6_244), (245, q6_245), (246, q6_246), (247, q6_247), (248, q6_248), (249, q6_249), (250, q6_250), (251, q6_251), (252, q6_252), (253, q6_253), (254, q6_254), (255, q6_255), (256, q6_256), (257, q6_257), (258, q6_258), (259, q6_259), (260, q6_260), (261, q6_261), (262, q6_262), (263, q6_263), (264, q6_264), (265, q6_265), (266, q6_266), (267, q6_267), (268, q6_268), (269, q6_269), (270, q6_270), (271, q6_271), (272, q6_272), (273, q6_273), (274, q6_274), (275, q6_275), (276, q6_276), (277, q6_277), (278, q6_278), (279, q6_279), (280, q6_280), (281, q6_281), (282, q6_282), (283, q6_283), (284, q6_284), (285, q6_285), (286, q6_286), (287, q6_287), (288, q6_288), (289, q6_289), (290, q6_290), (291, q6_291), (292, q6_292), (293, q6_293), (294, q6_294), (295, q6_295), (296, q6_296), (297, q6_297), (298, q6_298), (299, q6_299), (300, q6_300), (301, q6_301), (302, q6_302), (303, q6_303), (304, q6_304), (305, q6_305), (306, q6_306), (307, q6_307), (308, q6_308), (309, q6_309), (310, q6_310), (311, q6_311), (312, q6_312), (313, q6_313), (314, q6_314), (315, q6_315), (316, q6_316), (317, q6_317), (318, q6_318), (319, q6_319), (320, q6_320), (321, q6_321), (322, q6_322), (323, q6_323), (324, q6_324), (325, q6_325), (326, q6_326), (327, q6_327), (328, q6_328), (329, q6_329), (330, q6_330), (331, q6_331), (332, q6_332), (333, q6_333), (334, q6_334), (335, q6_335), (336, q6_336), (337, q6_337), (338, q6_338), (339, q6_339), (340, q6_340), (341, q6_341), (342, q6_342), (343, q6_343), (344, q6_344), (345, q6_345), (346, q6_346), (347, q6_347), (348, q6_348), (349, q6_349), (350, q6_350), (351, q6_351), (352, q6_352), (353, q6_353), (354, q6_354), (355, q6_355), (356, q6_356), (357, q6_357), (358, q6_358), (359, q6_359), (360, q6_360), (361, q6_361), (362, q6_362), (363, q6_363), (364, q6_364), (365, q6_365), (366, q6_366), (367, q6_367), (368, q6_368), (369, q6_369), (370, q6_370), (371, q6_371), (372, q6_372), (373, q6_373), (374, q6_374), (375, q6_375), (376, q6_376), (377, q6_377), (378, q6_378), (379, q6_379), (380, q6_380), (381, q6_381), (382, q6_382), (383, q6_383), (384, q6_384), (385, q6_385), (386, q6_386), (387, q6_387), (388, q6_388), (389, q6_389), (390, q6_390), (391, q6_391), (392, q6_392), (393, q6_393), (394, q6_394), (395, q6_395), (396, q6_396), (397, q6_397), (398, q6_398), (399, q6_399), (400, q6_400), (401, q6_401), (402, q6_402), (403, q6_403), (404, q6_404), (405, q6_405), (406, q6_406), (407, q6_407), (408, q6_408), (409, q6_409), (410, q6_410), (411, q6_411 P), (412, q6_412), (413, q6_413), (414, q6_414), (415, q6_415), (416, q6_416)]
theorem qp6 (w : World) : (fun os => segRunT treeTable prg w 11 (some (.ref 6)) 1 1144 (qsh (qt5 w.params) 200 435 os) (piecesOf (qcut 27 1) qenv qB ⟨92, 0, 92, 9⟩ qF)) = fun os => some (.next, qsh (qt6 w.params) 417 713 os, qB, ⟨93, 0, 206, 17⟩) := by
  rw [PySem.W.Fast.te10110043849684766642, PySem.W.Fast.te14364793385576792824]; kernel_rfl
noncomputable def q7_3 (P : Params) : Obj := qdict (qy "dict") [qe P "__name__" 165 (qs "minismt.terms" 337), qe P "__doc__" 166 .none, qe P "__package__" 167 .none, qe P "__loader__" 168 (qb "__main__.__loader__#opaque"), qe P "__spec__" 169 .none, qe P "__annotations__" 170 (qr 6), qe P "__builtins__" 171 (qr 4), qe P "__file__" 173 (qs "/claim/cut.py" 172), qe P "__cached__" 174 .none, qe P "_wall" 193 (qr 21), qe P "SmtError" 233 (qr 47), qe P "SortFault" 256 (qr 67), qe P "LimitFault" 279 (qr 86), qe P "ModelFault" 302 (qr 105), qe P "gcd_of" 312 (qr 114), qe P "ratio" 321 (qr 121), qe P "mul" 329 (qr 128), qe P "is_whole" 336 (qr 135), qe P "mask_of" 345 (qr 142), qe P "signed_of" 353 (qr 149), qe P "one_value" 362 (qr 156), qe P "divided_value" 371 (qr 163), qe P "rest_value" 379 (qr 170), qe P "shifted_value" 389 (qr 177), qe P "two_value" 399 (qr 184), qe P "extract_value" 408 (qr 191), qe P "sign_extended" 417 (qr 198), qe P "BOOL" 419 (qi 0 418), qe P "INT" 421 (qi 1 420), qe P "REAL" 423 (qi 2 422), qe P "WIDEST" 425 (qi 4096 424), qe P "MOST_BITS" 429 (qi 65536 428), qe P "VALUE_OPS" 434 (qr 199), qe P "Bank" 712 (qr 412), qe P "BoolBank" 845 (qr 517)] 35
noncomputable def q7_12 : Obj := { cls := .none, data := Data.fields #[qi 1 0, qi 0 0, qr 20, qi 5 0, qi 0 0, qr 28, qi 13 0, qi 0 0, qr 56, qi 17 0, qi 0 0, qr 75, qi 21 0, qi 0 0, qr 94, qi 26 0, qi 0 0, qr 113, qi 31 0, qi 0 0, qr 120, qi 38 0, qi 0 0, qr 127, qi 42 0, qi 0 0, qr 134, qi 45 0, qi 0 0, qr 141, qi 47 0, qi 0 0, qr 148, qi 49 0, qi 0 0, qr 155, qi 55 0, qi 0 0, qr 162, qi 57 0, qi 0 0, qr 169, qi 59 0, qi 0 0, qr 176, qi 63 0, qi 0 0, qr 183, qi 83 0, qi 0 0, qr 190, qi 85 0, qi 0 0, qr 197, qi 93 0, qi 0 0, qr 205, qi 207 0, qi 0 0, qr 422] }
noncomputable def q7_412 : Obj := { cls := qy "type", data := Data.cls { name := qS "Bank", bases := [qy "object"], mro := [qr 412, qy "object"], ns := 411, qualname := qS "Bank", subclasses := [qr 517] }, slots := #[none, none, some (qs "Bank" 435), some (qs "Bank" 443), some (qb "object.__new__"), some (.bool true)] }
noncomputable def q7_417 : Obj := qtup [qr 412]
noncomputable def q7_418 : Obj := { cls := qy "builtin_function_or_method", data := Data.fields #[qb "type.__prepare__", qy "type"] }
noncomputable def q7_419 (P : Params) : Obj := qdict (qy "dict") [qe P "__module__" 720 (qs "minismt.terms" 337), qe P "__qualname__" 722 (qs "BoolBank" 721), qe P "__firstlineno__" 724 (qi 207 723), qe P "not_of" 732 (qr 430), qe P "and_of" 740 (qr 437), qe P "or_of" 748 (qr 444), qe P "xor_of" 757 (qr 451), qe P "implies_of" 766 (qr 458), qe P "iff" 775 (qr 465), qe P "eq" 784 (qr 472), qe P "distinct" 792 (qr 479), qe P "ite" 802 (qr 486), qe P "app" 814 (qr 493), qe P "folded" 823 (qr 500), qe P "with_args" 832 (qr 507), qe P "replaced" 841 (qr 514), qe P "__static_attributes__" 842 (qr 515)] 17
noncomputable def q7_420 : Obj := qtup []
noncomputable def q7_421 : Obj := { cls := .none, data := Data.fields #[qi 209 0, qi 4 0, qr 429, qi 219 0, qi 4 0, qr 436, qi 225 0, qi 4 0, qr 443, qi 231 0, qi 4 0, qr 450, qi 234 0, qi 4 0, qr 457, qi 237 0, qi 4 0, qr 464, qi 241 0, qi 4 0, qr 471, qi 247 0, qi 4 0, qr 478, qi 250 0, qi 4 0, qr 485, qi 255 0, qi 4 0, qr 492, qi 263 0, qi 4 0, qr 499, qi 266 0, qi 4 0, qr 506, qi 269 0, qi 4 0, qr 513] }
noncomputable def q7_422 : Obj := qcode [qs "BoolBank" 715, qs "BoolBank" 716, qs "/claim/cut.py" 717, qi 207 0, qi 0 0, qi 0 0, qi 0 0, qi 0 0, qr 420, .bool false, qi 181 0, qr 421, .none, .none, .none, .none, qi 718 0, qi 207 0, qs "/claim/cut.py" 719]
noncomputable def q7_423 : Obj := { cls := qy "frame", slots := #[some (qr 422), some (qr 3), some (qr 419), none, some (qs "minismt.terms" 337), none, some (qr 0)] }
noncomputable def q7_424 : Obj := qtup []
noncomputable def q7_425 : Obj := { cls := .none, data := Data.fields #[] }
noncomputable def q7_426 : Obj := qtup [qs "self" 728, qs "t" 729]
noncomputable def q7_427 : Obj := qtup []
noncomputable def q7_428 : Obj := qf0 (mth 28 0) "BoolBank.not_of"
noncomputable def q7_429 : Obj := qcode [qs "not_of" 725, qs "BoolBank.not_of" 726, qs "/claim/cut.py" 727, qi 209 0, qi 2 0, qi 0 0, qi 0 0, qi 3 0, qr 424, .bool true, qi 181 0, qr 425, .none, qr 426, qr 427, qr 428, qi 730 0, qi 209 0, qs "/claim/cut.py" 731]
noncomputable def q7_430 : Obj := qfn (mth 28 0) "BoolBank.not_of" [] .none (qs "minismt.terms" 337) (qr 429) .none
noncomputable def q7_431 : Obj := qtup []
noncomputable def q7_432 : Obj := { cls := .none, data := Data.fields #[] }
noncomputable def q7_433 : Obj := qtup [qs "self" 736, qs "some" 737]
noncomputable def q7_434 : Obj := qtup []
noncomputable def q7_435 : Obj := qf0 (mth 28 1) "BoolBank.and_of"
noncomputable def q7_436 : Obj := qcode [qs "and_of" 733, qs "BoolBank.and_of" 734, qs "/claim/cut.py" 735, qi 219 0, qi 2 0, qi 0 0, qi 0 0, qi 3 0, qr 431, .bool true, qi 181 0, qr 432, .none, qr 433, qr 434, qr 435, qi 738 0, qi 219 0, qs "/claim/cut.py" 739]
noncomputable def q7_437 : Obj := qfn (mth 28 1) "BoolBank.and_of" [] .none (qs "minismt.terms" 337) (qr 436) .none
noncomputable def q7_438 : Obj := qtup []
noncomputable def q7_439 : Obj := { cls := .none, data := Data.fields #[] }
noncomputable def q7_440 : Obj := qtup [qs "self" 744, qs "some" 745]
noncomputable def q7_441 : Obj := qtup []
noncomputable def q7_442 : Obj := qf0 (mth 28 2) "BoolBank.or_of"
noncomputable def q7_443 : Obj := qcode [qs "or_of" 741, qs "BoolBank.or_of" 742, qs "/claim/cut.py" 743, qi 225 0, qi 2 0, qi 0 0, qi 0 0, qi 3 0, qr 438, .bool true, qi 181 0, qr 439, .none, qr 440, qr 441, qr 442, qi 746 0, qi 225 0, qs "/claim/cut.py" 747]
noncomputable def q7_444 : Obj := qfn (mth 28 2) "BoolBank.or_of" [] .none (qs "minismt.terms" 337) (qr 443) .none
noncomputable def q7_445 : Obj := qtup []
noncomputable def q7_446 : Obj := { cls := .none, data := Data.fields #[] }
noncomputable def q7_447 : Obj := qtup [qs "self" 752, qs "a" 753, qs "b" 754]
noncomputable def q7_448 : Obj := qtup []
noncomputable def q7_449 : Obj := qf0 (mth 28 3) "BoolBank.xor_of"
noncomputable def q7_450 : Obj := qcode [qs "xor_of" 749, qs "BoolBank.xor_of" 750, qs "/claim/cut.py" 751, qi 231 0, qi 3 0, qi 0 0, qi 0 0, qi 3 0, qr 445, .bool true, qi 181 0, qr 446, .none, qr 447, qr 448, qr 449, qi 755 0, qi 231 0, qs "/claim/cut.py" 756]
noncomputable def q7_451 : Obj := qfn (mth 28 3) "BoolBank.xor_of" [] .none (qs "minismt.terms" 337) (qr 450) .none
noncomputable def q7_452 : Obj := qtup []
noncomputable def q7_453 : Obj := { cls := .none, data := Data.fields #[] }
noncomputable def q7_454 : Obj := qtup [qs "self" 761, qs "a" 762, qs "b" 763]
noncomputable def q7_455 : Obj := qtup []
noncomputable def q7_456 : Obj := qf0 (mth 28 4) "BoolBank.implies_of"
noncomputable def q7_457 : Obj := qcode [qs "implies_of" 758, qs "BoolBank.implies_of" 759, qs "/claim/cut.py" 760, qi 234 0, qi 3 0, qi 0 0, qi 0 0, qi 3 0, qr 452, .bool true, qi 181 0, qr 453, .none, qr 454, qr 455, qr 456, qi 764 0, qi 234 0, qs "/claim/cut.py" 765]
noncomputable def q7_458 : Obj := qfn (mth 28 4) "BoolBank.implies_of" [] .none (qs "minismt.terms" 337) (qr 457) .none
noncomputable def q7_459 : Obj := qtup []
noncomputable def q7_460 : Obj := { cls := .none, data := Data.fields #[] }
noncomputable def q7_461 : Obj := qtup [qs "self" 770, qs "a" 771, qs "b" 772]
noncomputable def q7_462 : Obj := qtup []
noncomputable def q7_463 : Obj := qf0 (mth 28 5) "BoolBank.iff"
noncomputable def q7_464 : Obj := qcode [qs "iff" 767, qs "BoolBank.iff" 768, qs "/claim/cut.py" 769, qi 237 0, qi 3 0, qi 0 0, qi 0 0, qi 3 0, qr 459, .bool true, qi 181 0, qr 460, .none, qr 461, qr 462, qr 463, qi 773 0, qi 237 0, qs "/claim/cut.py" 774]
noncomputable def q7_465 : Obj := qfn (mth 28 5) "BoolBank.iff" [] .none (qs "minismt.terms" 337) (qr 464) .none
noncomputable def q7_466 : Obj := qtup []
noncomputable def q7_467 : Obj := { cls := .none, data := Data.fields #[] }
noncomputable def q7_468 : Obj := qtup [qs "self" 779, qs "a" 780, qs "b" 781]
noncomputable def q7_469 : Obj := qtup []
noncomputable def q7_470 : Obj := qf0 (mth 28 6) "BoolBank.eq"
noncomputable def q7_471 : Obj := qcode [qs "eq" 776, qs "BoolBank.eq" 777, qs "/claim/cut.py" 778, qi 241 0, qi 3 0, qi 0 0, qi 0 0, qi 3 0, qr 466, .bool true, qi 181 0, qr 467, .none, qr 468, qr 469, qr 470, qi 782 0, qi 241 0, qs "/claim/cut.py" 783]
noncomputable def q7_472 : Obj := qfn (mth 28 6) "BoolBank.eq" [] .none (qs "minismt.terms" 337) (qr 471) .none
noncomputable def q7_473 : Obj := qtup []
noncomputable def q7_474 : Obj := { cls := .none, data := Data.fields #[] }
noncomputable def q7_475 : Obj := qtup [qs "self" 788, qs "some" 789]
noncomputable def q7_476 : Obj := qtup []
noncomputable def q7_477 : Obj := qf0 (mth 28 7) "BoolBank.distinct"
noncomputable def q7_478 : Obj := qcode [qs "distinct" 785, qs "BoolBank.distinct" 786, qs "/claim/cut.py" 787, qi 247 0, qi 2 0, qi 0 0, qi 0 0, qi 3 0, qr 473, .bool true, qi 181 0, qr 474, .none, qr 475, qr 476, qr 477, qi 790 0, qi 247 0, qs "/claim/cut.py" 791]
noncomputable def q7_479 : Obj := qfn (mth 28 7) "BoolBank.distinct" [] .none (qs "minismt.terms" 337) (qr 478) .none
noncomputable def q7_480 : Obj := qtup []
noncomputable def q7_481 : Obj := { cls := .none, data := Data.fields #[] }
noncomputable def q7_482 : Obj := qtup [qs "self" 796, qs "c" 797, qs "a" 798, qs "b" 799]
noncomputable def q7_483 : Obj := qtup []
noncomputable def q7_484 : Obj := qf0 (mth 28 8) "BoolBank.ite"
noncomputable def q7_485 : Obj := qcode [qs "ite" 793, qs "BoolBank.ite" 794, qs "/claim/cut.py" 795, qi 250 0, qi 4 0, qi 0 0, qi 0 0, qi 3 0, qr 480, .bool true, qi 181 0, qr 481, .none, qr 482, qr 483, qr 484, qi 800 0, qi 250 0, qs "/claim/cut.py" 801]
noncomputable def q7_486 : Obj := qfn (mth 28 8) "BoolBank.ite" [] .none (qs "minismt.terms" 337) (qr 485) .none
noncomputable def q7_487 : Obj := qtup []
noncomputable def q7_488 : Obj := { cls := .none, data := Data.fields #[] }
noncomputable def q7_489 : Obj := qtup [qs "self" 806, qs "f" 807, qs "some" 808, qs "sorts" 809, qs "t" 810, qs "s" 811]
noncomputable def q7_490 : Obj := qtup []
noncomputable def q7_491 : Obj := qf0 (mth 28 9) "BoolBank.app"
noncomputable def q7_492 : Obj := qcode [qs "app" 803, qs "BoolBank.app" 804, qs "/claim/cut.py" 805, qi 255 0, qi 3 0, qi 0 0, qi 0 0, qi 3 0, qr 487, .bool true, qi 181 0, qr 488, .none, qr 489, qr 490, qr 491, qi 812 0, qi 255 0, qs "/claim/cut.py" 813]
noncomputable def q7_493 : Obj := qfn (mth 28 9) "BoolBank.app" [] .none (qs "minismt.terms" 337) (qr 492) .none
noncomputable def q7_494 : Obj := qtup []
noncomputable def q7_495 : Obj := { cls := .none, data := Data.fields #[] }
noncomputable def q7_496 : Obj := qtup [qs "self" 818, qs "t" 819, qs "args" 820]
noncomputable def q7_497 : Obj := qtup []
noncomputable def q7_498 : Obj := qf0 (mth 28 10) "BoolBank.folded"
noncomputable def q7_499 : Obj := qcode [qs "folded" 815, qs "BoolBank.folded" 816, qs "/claim/cut.py" 817, qi 263 0, qi 3 0, qi 0 0, qi 0 0, qi 3 0, qr 494, .bool true, qi 181 0, qr 495, .none, qr 496, qr 497, qr 498, qi 821 0, qi 263 0, qs "/claim/cut.py" 822]
noncomputable def q7_500 : Obj := qfn (mth 28 10) "BoolBank.folded" [] .none (qs "minismt.terms" 337) (qr 499) .none
noncomputable def q7_501 : Obj := qtup []
noncomputable def q7_502 : Obj := { cls := .none, data := Data.fields #[] }
noncomputable def q7_503 : Obj := qtup [qs "self" 827, qs "t" 828, qs "args" 829]
noncomputable def q7_504 : Obj := qtup []
noncomputable def q7_505 : Obj := qf0 (mth 28 11) "BoolBank.with_args"
noncomputable def q7_506 : Obj := qcode [qs "with_args" 824, qs "BoolBank.with_args" 825, qs "/claim/cut.py" 826, qi 266 0, qi 3 0, qi 0 0, qi 0 0, qi 3 0, qr 501, .bool true, qi 181 0, qr 502, .none, qr 503, qr 504, qr 505, qi 830 0, qi 266 0, qs "/claim/cut.py" 831]
noncomputable def q7_507 : Obj := qfn (mth 28 11) "BoolBank.with_args" [] .none (qs "minismt.terms" 337) (qr 506) .none
noncomputable def q7_508 : Obj := qtup []
noncomputable def q7_509 : Obj := { cls := .none, data := Data.fields #[] }
noncomputable def q7_510 : Obj := qtup [qs "self" 836, qs "t" 837, qs "table" 838]
noncomputable def q7_511 : Obj := qtup []
noncomputable def q7_512 : Obj := qf0 (mth 28 12) "BoolBank.replaced"
noncomputable def q7_513 : Obj := qcode [qs "replaced" 833, qs "BoolBank.replaced" 834, qs "/claim/cut.py" 835, qi 269 0, qi 3 0, qi 0 0, qi 0 0, qi 3 0, qr 508, .bool true, qi 181 0, qr 509, .none, qr 510, qr 511, qr 512, qi 839 0, qi 269 0, qs "/claim/cut.py" 840]
noncomputable def q7_514 : Obj := qfn (mth 28 12) "BoolBank.replaced" [] .none (qs "minismt.terms" 337) (qr 513) .none
noncomputable def q7_515 : Obj := qtup []
noncomputable def q7_516 (P : Params) : Obj := qdict (qy "dict") [qe P "__module__" 720 (qs "minismt.terms" 337), qe P "__firstlineno__" 724 (qi 207 723), qe P "not_of" 732 (qr 430), qe P "and_of" 740 (qr 437), qe P "or_of" 748 (qr 444), qe P "xor_of" 757 (qr 451), qe P "implies_of" 766 (qr 458), qe P "iff" 775 (qr 465), qe P "eq" 784 (qr 472), qe P "distinct" 792 (qr 479), qe P "ite" 802 (qr 486), qe P "app" 814 (qr 493), qe P "folded" 823 (qr 500), qe P "with_args" 832 (qr 507), qe P "replaced" 841 (qr 514), qe P "__static_attributes__" 842 (qr 515), qe P "__doc__" 843 .none] 2
noncomputable def q7_517 : Obj := { cls := qy "type", data := Data.cls { name := qS "BoolBank", bases := [qr 412], mro := [qr 517, qr 412, qy "object"], ns := 516, qualname := qS "BoolBank" }, slots := #[some (qr 417), none, some (qs "BoolBank" 713), some (qs "BoolBank" 721), some (qb "object.__new__"), some (.bool true)] }
noncomputable def q7_518 : Obj := { cls := qy "super", data := Data.fields #[qr 517, qr 517, qr 517] }
noncomputable def q7_519 : Obj := { cls := qy "builtin_function_or_method", data := Data.fields #[qb "object.__init_subclass__", qr 517] }
noncomputable def qt7 (P : Params) : BT := qins (qt6 P) [(3, q7_3 P), (12, q7_12), (412, q7_412), (417, q7_417), (418, q7_418), (419, q7_419 P), (420, q7_420), (421, q7_421), (422, q7_422), (423, q7_423), (424, q7_424), (425, q7_425), (426, q7_426), (427, q7_427), (428, q7_428), (429, q7_429), (430, q7_430), (431, q7_431), (432, q7_432), (433, q7_433), (434, q7_434), (435, q7_435), (436, q7_436), (437, q7_437), (438, q7_438), (439, q7_439), (440, q7_440), (441, q7_441), (442, q7_442), (443, q7_443), (444, q7_444), (445, q7_445), (446, q7_446), (447, q7_447), (448, q7_448), (449, q7_449), (450, q7_450), (451, q7_451), (452, q7_452), (453, q7_453), (454, q7_454), (455, q7_455), (456, q7_456), (457, q7_457), (458, q7_458), (459, q7_459), (460, q7_460), (461, q7_461), (462, q7_462), (463, q7_463), (464, q7_464), (465, q7_465), (466, q7_466), (467, q7_467), (468, q7_468), (469, q7_469), (470, q7_470), (471, q7_471), (472, q7_472), (473, q7_473), (474, q7_474), (475, q7_475), (476, q7_476), (477, q7_477), (478, q7_478), (479, q7_479), (480, q7_480), (481, q7_481), (482, q7_482), (483, q7_483), (484, q7_484), (485, q7_485), (486, q7_486), (487, q7_487), (488, q7_488), (489, q7_489), (490, q7_490), (491, q7_491), (492, q7_492), (493, q7_493), (494, q7_494), (495, q7_495), (496, q7_496), (497, q7_497), (498, q7_498), (499, q7_499), (500, q7_500), (501, q7_501), (502, q7_502), (503, q7_503), (504, q7_504), (505, q7_505), (506, q7_506), (507, q7_507), (508, q7_508), (509, q7_509), (510, q7_510), (511, q7_511), (512, q7_512), (513, q7_513), (514, q7_514), (515, q7_515), (516, q7_516 P), (517, q7_517), (518, q7_518), (519, q7_519)]
theorem qp7 (w : World) : (fun os => segRunT treeTable prg w 11 (some (.ref 6)) 1 642 (qsh (qt6 w.params) 417 713 os) (piecesOf (qcut 28 1) qenv qB ⟨93, 0, 206, 17⟩ qF)) = fun os => some (.next, qsh (qt7 w.params) 520 846 os, qB, ⟨207, 0, 270, 17⟩) := by
  rw [PySem.W.Fast.te10110043849684766642, PySem.W.Fast.te14364793385576792824]; kernel_rfl
noncomputable def q8_3 (P : Params) : Obj := qdict (qy "dict") [qe P "__name__" 165 (qs "minismt.terms" 337), qe P "__doc__" 166 .none, qe P "__package__" 167 .none, qe P "__loader__" 168 (qb "__main__.__loader__#opaque"), qe P "__spec__" 169 .none, qe P "__annotations__" 170 (qr 6), qe P "__builtins__" 171 (qr 4), qe P "__file__" 173 (qs "/claim/cut.py" 172), qe P "__cached__" 174 .none, qe P "_wall" 193 (qr 21), qe P "SmtError" 233 (qr 47), qe P "SortFault" 256 (qr 67), qe P "LimitFault" 279 (qr 86), qe P "ModelFault" 302 (qr 105), qe P "gcd_of" 312 (qr 114), qe P "ratio" 321 (qr 121), qe P "mul" 329 (qr 128), qe P "is_whole" 336 (qr 135), qe P "mask_of" 345 (qr 142), qe P "signed_of" 353 (qr 149), qe P "one_value" 362 (qr 156), qe P "divided_value" 371 (qr 163), qe P "rest_value" 379 (qr 170), qe P "shifted_value" 389 (qr 177), qe P "two_value" 399 (qr 184), qe P "extract_value" 408 (qr 191), qe P "sign_extended" 417 (qr 198), qe P "BOOL" 419 (qi 0 418), qe P "INT" 421 (qi 1 420), qe P "REAL" 423 (qi 2 422), qe P "WIDEST" 425 (qi 4096 424), qe P "MOST_BITS" 429 (qi 65536 428), qe P "VALUE_OPS" 434 (qr 199), qe P "Bank" 712 (qr 412), qe P "BoolBank" 845 (qr 517), qe P "want_small" 852 (qr 526)] 36
noncomputable def q8_12 : Obj := { cls := .none, data := Data.fields #[qi 1 0, qi 0 0, qr 20, qi 5 0, qi 0 0, qr 28, qi 13 0, qi 0 0, qr 56, qi 17 0, qi 0 0, qr 75, qi 21 0, qi 0 0, qr 94, qi 26 0, qi 0 0, qr 113, qi 31 0, qi 0 0, qr 120, qi 38 0, qi 0 0, qr 127, qi 42 0, qi 0 0, qr 134, qi 45 0, qi 0 0, qr 141, qi 47 0, qi 0 0, qr 148, qi 49 0, qi 0 0, qr 155, qi 55 0, qi 0 0, qr 162, qi 57 0, qi 0 0, qr 169, qi 59 0, qi 0 0, qr 176, qi 63 0, qi 0 0, qr 183, qi 83 0, qi 0 0, qr 190, qi 85 0, qi 0 0, qr 197, qi 93 0, qi 0 0, qr 205, qi 207 0, qi 0 0, qr 422, qi 271 0, qi 0 0, qr 525] }
noncomputable def q8_520 : Obj := qtup []
noncomputable def q8_521 : Obj := { cls := .none, data := Data.fields #[] }
noncomputable def q8_522 : Obj := qtup [qs "value" 849]
noncomputable def q8_523 : Obj := qtup []
noncomputable def q8_524 : Obj := qf0 (nthS top 29) "want_small"
noncomputable def q8_525 : Obj := qcode [qs "want_small" 846, qs "want_small" 847, qs "/claim/cut.py" 848, qi 271 0, qi 1 0, qi 0 0, qi 0 0, qi 3 0, qr 520, .bool true, qi 181 0, qr 521, .none, qr 522, qr 523, qr 524, qi 850 0, qi 271 0, qs "/claim/cut.py" 851]
noncomputable def q8_526 : Obj := qfn (nthS top 29) "want_small" [] .none (qs "minismt.terms" 337) (qr 525) .none
noncomputable def qt8 (P : Params) : BT := qins (qt7 P) [(3, q8_3 P), (12, q8_12), (520, q8_520), (521, q8_521), (522, q8_522), (523, q8_523), (524, q8_524), (525, q8_525), (526, q8_526)]
theorem qp8 (w : World) : (fun os => segRunT treeTable prg w 11 (some (.ref 6)) 1 30 (qsh (qt7 w.params) 520 846 os) (piecesOf (qcut 29 1) qenv qB ⟨207, 0, 270, 17⟩ qF)) = fun os => some (.next, qsh (qt8 w.params) 527 853 os, qB, ⟨271, 0, 273, 66⟩) := by
  rw [PySem.W.Fast.te10110043849684766642, PySem.W.Fast.te14364793385576792824]; kernel_rfl
noncomputable def q9_3 (P : Params) : Obj := qdict (qy "dict") [qe P "__name__" 165 (qs "minismt.terms" 337), qe P "__doc__" 166 .none, qe P "__package__" 167 .none, qe P "__loader__" 168 (qb "__main__.__loader__#opaque"), qe P "__spec__" 169 .none, qe P "__annotations__" 170 (qr 6), qe P "__builtins__" 171 (qr 4), qe P "__file__" 173 (qs "/claim/cut.py" 172), qe P "__cached__" 174 .none, qe P "_wall" 193 (qr 21), qe P "SmtError" 233 (qr 47), qe P "SortFault" 256 (qr 67), qe P "LimitFault" 279 (qr 86), qe P "ModelFault" 302 (qr 105), qe P "gcd_of" 312 (qr 114), qe P "ratio" 321 (qr 121), qe P "mul" 329 (qr 128), qe P "is_whole" 336 (qr 135), qe P "mask_of" 345 (qr 142), qe P "signed_of" 353 (qr 149), qe P "one_value" 362 (qr 156), qe P "divided_value" 371 (qr 163), qe P "rest_value" 379 (qr 170), qe P "shifted_value" 389 (qr 177), qe P "two_value" 399 (qr 184), qe P "extract_value" 408 (qr 191), qe P "sign_extended" 417 (qr 198), qe P "BOOL" 419 (qi 0 418), qe P "INT" 421 (qi 1 420), qe P "REAL" 423 (qi 2 422), qe P "WIDEST" 425 (qi 4096 424), qe P "MOST_BITS" 429 (qi 65536 428), qe P "VALUE_OPS" 434 (qr 199), qe P "Bank" 712 (qr 412), qe P "BoolBank" 845 (qr 517), qe P "want_small" 852 (qr 526), qe P "NumberBank" 966 (qr 613)] 37
noncomputable def q9_12 : Obj := { cls := .none, data := Data.fields #[qi 1 0, qi 0 0, qr 20, qi 5 0, qi 0 0, qr 28, qi 13 0, qi 0 0, qr 56, qi 17 0, qi 0 0, qr 75, qi 21 0, qi 0 0, qr 94, qi 26 0, qi 0 0, qr 113, qi 31 0, qi 0 0, qr 120, qi 38 0, qi 0 0, qr 127, qi 42 0, qi 0 0, qr 134, qi 45 0, qi 0 0, qr 141, qi 47 0, qi 0 0, qr 148, qi 49 0, qi 0 0, qr 155, qi 55 0, qi 0 0, qr 162, qi 57 0, qi 0 0, qr 169, qi 59 0, qi 0 0, qr 176, qi 63 0, qi 0 0, qr 183, qi 83 0, qi 0 0, qr 190, qi 85 0, qi 0 0, qr 197, qi 93 0, qi 0 0, qr 205, qi 207 0, qi 0 0, qr 422, qi 271 0, qi 0 0, qr 525, qi 274 0, qi 0 0, qr 532] }
noncomputable def q9_517 : Obj := { cls := qy "type", data := Data.cls { name := qS "BoolBank", bases := [qr 412], mro := [qr 517, qr 412, qy "object"], ns := 516, qualname := qS "BoolBank", subclasses := [qr 613] }, slots := #[some (qr 417), none, some (qs "BoolBank" 713), some (qs "BoolBank" 721), some (qb "object.__new__"), some (.bool true)] }
noncomputable def q9_527 : Obj := qtup [qr 517]
noncomputable def q9_528 : Obj := { cls := qy "builtin_function_or_method", data := Data.fields #[qb "type.__prepare__", qy "type"] }
noncomputable def q9_529 (P : Params) : Obj := qdict (qy "dict") [qe P "__module__" 860 (qs "minismt.terms" 337), qe P "__qualname__" 862 (qs "NumberBank" 861), qe P "__firstlineno__" 864 (qi 274 863), qe P "num" 873 (qr 540), qe P "want_number" 882 (qr 547), qe P "plus" 890 (qr 554), qe P "times_num" 900 (qr 561), qe P "times" 909 (qr 568), qe P "over_num" 918 (qr 575), qe P "negative" 926 (qr 582), qe P "minus" 935 (qr 589), qe P "le" 944 (qr 596), qe P "lt" 953 (qr 603), qe P "with_args" 962 (qr 610), qe P "__static_attributes__" 963 (qr 611)] 15
noncomputable def q9_530 : Obj := qtup []
noncomputable def q9_531 : Obj := { cls := .none, data := Data.fields #[qi 276 0, qi 4 0, qr 539, qi 284 0, qi 4 0, qr 546, qi 288 0, qi 4 0, qr 553, qi 291 0, qi 4 0, qr 560, qi 298 0, qi 4 0, qr 567, qi 307 0, qi 4 0, qr 574, qi 310 0, qi 4 0, qr 581, qi 313 0, qi 4 0, qr 588, qi 316 0, qi 4 0, qr 595, qi 319 0, qi 4 0, qr 602, qi 322 0, qi 4 0, qr 609] }
noncomputable def q9_532 : Obj := qcode [qs "NumberBank" 855, qs "NumberBank" 856, qs "/claim/cut.py" 857, qi 274 0, qi 0 0, qi 0 0, qi 0 0, qi 0 0, qr 530, .bool false, qi 181 0, qr 531, .none, .none, .none, .none, qi 858 0, qi 274 0, qs "/claim/cut.py" 859]
noncomputable def q9_533 : Obj := { cls := qy "frame", slots := #[some (qr 532), some (qr 3), some (qr 529), none, some (qs "minismt.terms" 337), none, some (qr 0)] }
noncomputable def q9_534 : Obj := qtup []
noncomputable def q9_535 : Obj := { cls := .none, data := Data.fields #[] }
noncomputable def q9_536 : Obj := qtup [qs "self" 868, qs "value" 869, qs "s" 870]
noncomputable def q9_537 : Obj := qtup []
noncomputable def q9_538 : Obj := qf0 (mth 30 0) "NumberBank.num"
noncomputable def q9_539 : Obj := qcode [qs "num" 865, qs "NumberBank.num" 866, qs "/claim/cut.py" 867, qi 276 0, qi 3 0, qi 0 0, qi 0 0, qi 3 0, qr 534, .bool true, qi 181 0, qr 535, .none, qr 536, qr 537, qr 538, qi 871 0, qi 276 0, qs "/claim/cut.py" 872]
noncomputable def q9_540 : Obj := qfn (mth 30 0) "NumberBank.num" [] .none (qs "minismt.terms" 337) (qr 539) .none
noncomputable def q9_541 : Obj := qtup []
noncomputable def q9_542 : Obj := { cls := .none, data := Data.fields #[] }
noncomputable def q9_543 : Obj := qtup [qs "self" 877, qs "t" 878, qs "where" 879]
noncomputable def q9_544 : Obj := qtup []
noncomputable def q9_545 : Obj := qf0 (mth 30 1) "NumberBank.want_number"
noncomputable def q9_546 : Obj := qcode [qs "want_number" 874, qs "NumberBank.want_number" 875, qs "/claim/cut.py" 876, qi 284 0, qi 3 0, qi 0 0, qi 0 0, qi 3 0, qr 541, .bool true, qi 181 0, qr 542, .none, qr 543, qr 544, qr 545, qi 880 0, qi 284 0, qs "/claim/cut.py" 881]
noncomputable def q9_547 : Obj := qfn (mth 30 1) "NumberBank.want_number" [] .none (qs "minismt.terms" 337) (qr 546) .none
noncomputable def q9_548 : Obj := qtup []
noncomputable def q9_549 : Obj := { cls := .none, data := Data.fields #[] }
noncomputable def q9_550 : Obj := qtup [qs "self" 886, qs "some" 887]
noncomputable def q9_551 : Obj := qtup []
noncomputable def q9_552 : Obj := qf0 (mth 30 2) "NumberBank.plus"
noncomputable def q9_553 : Obj := qcode [qs "plus" 883, qs "NumberBank.plus" 884, qs "/claim/cut.py" 885, qi 288 0, qi 2 0, qi 0 0, qi 0 0, qi 3 0, qr 548, .bool true, qi 181 0, qr 549, .none, qr 550, qr 551, qr 552, qi 888 0, qi 288 0, qs "/claim/cut.py" 889]
noncomputable def q9_554 : Obj := qfn (mth 30 2) "NumberBank.plus" [] .none (qs "minismt.terms" 337) (qr 553) .none
noncomputable def q9_555 : Obj := qtup []
noncomputable def q9_556 : Obj := { cls := .none, data := Data.fields #[] }
noncomputable def q9_557 : Obj := qtup [qs "self" 894, qs "value" 895, qs "t" 896, qs "s" 897]
noncomputable def q9_558 : Obj := qtup []
noncomputable def q9_559 : Obj := qf0 (mth 30 3) "NumberBank.times_num"
noncomputable def q9_560 : Obj := qcode [qs "times_num" 891, qs "NumberBank.times_num" 892, qs "/claim/cut.py" 893, qi 291 0, qi 3 0, qi 0 0, qi 0 0, qi 3 0, qr 555, .bool true, qi 181 0, qr 556, .none, qr 557, qr 558, qr 559, qi 898 0, qi 291 0, qs "/claim/cut.py" 899]
noncomputable def q9_561 : Obj := qfn (mth 30 3) "NumberBank.times_num" [] .none (qs "minismt.terms" 337) (qr 560) .none
noncomputable def q9_562 : Obj := qtup []
noncomputable def q9_563 : Obj := { cls := .none, data := Data.fields #[] }
noncomputable def q9_564 : Obj := qtup [qs "self" 904, qs "a" 905, qs "b" 906]
noncomputable def q9_565 : Obj := qtup []
noncomputable def q9_566 : Obj := qf0 (mth 30 4) "NumberBank.times"
noncomputable def q9_567 : Obj := qcode [qs "times" 901, qs "NumberBank.times" 902, qs "/claim/cut.py" 903, qi 298 0, qi 3 0, qi 0 0, qi 0 0, qi 3 0, qr 562, .bool true, qi 181 0, qr 563, .none, qr 564, qr 565, qr 566, qi 907 0, qi 298 0, qs "/claim/cut.py" 908]
noncomputable def q9_568 : Obj := qfn (mth 30 4) "NumberBank.times" [] .none (qs "minismt.terms" 337) (qr 567) .none
noncomputable def q9_569 : Obj := qtup []
noncomputable def q9_570 : Obj := { cls := .none, data := Data.fields #[] }
noncomputable def q9_571 : Obj := qtup [qs "self" 913, qs "t" 914, qs "value" 915]
noncomputable def q9_572 : Obj := qtup []
noncomputable def q9_573 : Obj := qf0 (mth 30 5) "NumberBank.over_num"
noncomputable def q9_574 : Obj := qcode [qs "over_num" 910, qs "NumberBank.over_num" 911, qs "/claim/cut.py" 912, qi 307 0, qi 3 0, qi 0 0, qi 0 0, qi 3 0, qr 569, .bool true, qi 181 0, qr 570, .none, qr 571, qr 572, qr 573, qi 916 0, qi 307 0, qs "/claim/cut.py" 917]
noncomputable def q9_575 : Obj := qfn (mth 30 5) "NumberBank.over_num" [] .none (qs "minismt.terms" 337) (qr 574) .none
noncomputable def q9_576 : Obj := qtup []
noncomputable def q9_577 : Obj := { cls := .none, data := Data.fields #[] }
noncomputable def q9_578 : Obj := qtup [qs "self" 922, qs "t" 923]
noncomputable def q9_579 : Obj := qtup []
noncomputable def q9_580 : Obj := qf0 (mth 30 6) "NumberBank.negative"
noncomputable def q9_581 : Obj := qcode [qs "negative" 919, qs "NumberBank.negative" 920, qs "/claim/cut.py" 921, qi 310 0, qi 2 0, qi 0 0, qi 0 0, qi 3 0, qr 576, .bool true, qi 181 0, qr 577, .none, qr 578, qr 579, qr 580, qi 924 0, qi 310 0, qs "/claim/cut.py" 925]
noncomputable def q9_582 : Obj := qfn (mth 30 6) "NumberBank.negative" [] .none (qs "minismt.terms" 337) (qr 581) .none
noncomputable def q9_583 : Obj := qtup []
noncomputable def q9_584 : Obj := { cls := .none, data := Data.fields #[] }
noncomputable def q9_585 : Obj := qtup [qs "self" 930, qs "a" 931, qs "b" 932]
noncomputable def q9_586 : Obj := qtup []
noncomputable def q9_587 : Obj := qf0 (mth 30 7) "NumberBank.minus"
noncomputable def q9_588 : Obj := qcode [qs "minus" 927, qs "NumberBank.minus" 928, qs "/claim/cut.py" 929, qi 313 0, qi 3 0, qi 0 0, qi 0 0, qi 3 0, qr 583, .bool true, qi 181 0, qr 584, .none, qr 585, qr 586, qr 587, qi 933 0, qi 313 0, qs "/claim/cut.py" 934]
noncomputable def q9_589 : Obj := qfn (mth 30 7) "NumberBank.minus" [] .none (qs "minismt.terms" 337) (qr 588) .none
noncomputable def q9_590 : Obj := qtup []
noncomputable def q9_591 : Obj := { cls := .none, data := Data.fields #[] }
noncomputable def q9_592 : Obj := qtup [qs "self" 939, qs "a" 940, qs "b" 941]
noncomputable def q9_593 : Obj := qtup []
noncomputable def q9_594 : Obj := qf0 (mth 30 8) "NumberBank.le"
noncomputable def q9_595 : Obj := qcode [qs "le" 936, qs "NumberBank.le" 937, qs "/claim/cut.py" 938, qi 316 0, qi 3 0, qi 0 0, qi 0 0, qi 3 0, qr 590, .bool true, qi 181 0, qr 591, .none, qr 592, qr 593, qr 594, qi 942 0, qi 316 0, qs "/claim/cut.py" 943]
noncomputable def q9_596 : Obj := qfn (mth 30 8) "NumberBank.le" [] .none (qs "minismt.terms" 337) (qr 595) .none
noncomputable def q9_597 : Obj := qtup []
noncomputable def q9_598 : Obj := { cls := .none, data := Data.fields #[] }
noncomputable def q9_599 : Obj := qtup [qs "self" 948, qs "a" 949, qs "b" 950]
noncomputable def q9_600 : Obj := qtup []
noncomputable def q9_601 : Obj := qf0 (mth 30 9) "NumberBank.lt"
noncomputable def q9_602 : Obj := qcode [qs "lt" 945, qs "NumberBank.lt" 946, qs "/claim/cut.py" 947, qi 319 0, qi 3 0, qi 0 0, qi 0 0, qi 3 0, qr 597, .bool true, qi 181 0, qr 598, .none, qr 599, qr 600, qr 601, qi 951 0, qi 319 0, qs "/claim/cut.py" 952]
noncomputable def q9_603 : Obj := qfn (mth 30 9) "NumberBank.lt" [] .none (qs "minismt.terms" 337) (qr 602) .none
noncomputable def q9_604 : Obj := qtup []
noncomputable def q9_605 : Obj := { cls := .none, data := Data.fields #[] }
noncomputable def q9_606 : Obj := qtup [qs "self" 957, qs "t" 958, qs "args" 959]
noncomputable def q9_607 : Obj := qtup []
noncomputable def q9_608 : Obj := qf0 (mth 30 10) "NumberBank.with_args"
noncomputable def q9_609 : Obj := qcode [qs "with_args" 954, qs "NumberBank.with_args" 955, qs "/claim/cut.py" 956, qi 322 0, qi 3 0, qi 0 0, qi 0 0, qi 3 0, qr 604, .bool true, qi 181 0, qr 605, .none, qr 606, qr 607, qr 608, qi 960 0, qi 322 0, qs "/claim/cut.py" 961]
noncomputable def q9_610 : Obj := qfn (mth 30 10) "NumberBank.with_args" [] .none (qs "minismt.terms" 337) (qr 609) .none
noncomputable def q9_611 : Obj := qtup []
noncomputable def q9_612 (P : Params) : Obj := qdict (qy "dict") [qe P "__module__" 860 (qs "minismt.terms" 337), qe P "__firstlineno__" 864 (qi 274 863), qe P "num" 873 (qr 540), qe P "want_number" 882 (qr 547), qe P "plus" 890 (qr 554), qe P "times_num" 900 (qr 561), qe P "times" 909 (qr 568), qe P "over_num" 918 (qr 575), qe P "negative" 926 (qr 582), qe P "minus" 935 (qr 589), qe P "le" 944 (qr 596), qe P "lt" 953 (qr 603), qe P "with_args" 962 (qr 610), qe P "__static_attributes__" 963 (qr 611), qe P "__doc__" 964 .none] 2
noncomputable def q9_613 : Obj := { cls := qy "type", data := Data.cls { name := qS "NumberBank", bases := [qr 517], mro := [qr 613, qr 517, qr 412, qy "object"], ns := 612, qualname := qS "NumberBank" }, slots := #[some (qr 527), none, some (qs "NumberBank" 853), some (qs "NumberBank" 861), some (qb "object.__new__"), some (.bool true)] }
noncomputable def q9_614 : Obj := { cls := qy "super", data := Data.fields #[qr 613, qr 613, qr 613] }
noncomputable def q9_615 : Obj := { cls := qy "builtin_function_or_method", data := Data.fields #[qb "object.__init_subclass__", qr 613] }
noncomputable def qt9 (P : Params) : BT := qins (qt8 P) [(3, q9_3 P), (12, q9_12), (517, q9_517), (527, q9_527), (528, q9_528), (529, q9_529 P), (530, q9_530), (531, q9_531), (532, q9_532), (533, q9_533), (534, q9_534), (535, q9_535), (536, q9_536), (537, q9_537), (538, q9_538), (539, q9_539), (540, q9_540), (541, q9_541), (542, q9_542), (543, q9_543), (544, q9_544), (545, q9_545), (546, q9_546), (547, q9_547), (548, q9_548), (549, q9_549), (550, q9_550), (551, q9_551), (552, q9_552), (553, q9_553), (554, q9_554), (555, q9_555), (556, q9_556), (557, q9_557), (558, q9_558), (559, q9_559), (560, q9_560), (561, q9_561), (562, q9_562), (563, q9_563), (564, q9_564), (565, q9_565), (566, q9_566), (567, q9_567), (568, q9_568), (569, q9_569), (570, q9_570), (571, q9_571), (572, q9_572), (573, q9_573), (574, q9_574), (575, q9_575), (576, q9_576), (577, q9_577), (578, q9_578), (579, q9_579), (580, q9_580), (581, q9_581), (582, q9_582), (583, q9_583), (584, q9_584), (585, q9_585), (586, q9_586), (587, q9_587), (588, q9_588), (589, q9_589), (590, q9_590), (591, q9_591), (592, q9_592), (593, q9_593), (594, q9_594), (595, q9_595), (596, q9_596), (597, q9_597), (598, q9_598), (599, q9_599), (600, q9_600), (601, q9_601), (602, q9_602), (603, q9_603), (604, q9_604), (605, q9_605), (606, q9_606), (607, q9_607), (608, q9_608), (609, q9_609), (610, q9_610), (611, q9_611), (612, q9_612 P), (613, q9_613), (614, q9_614), (615, q9_615)]
theorem qp9 (w : World) : (fun os => segRunT treeTable prg w 11 (some (.ref 6)) 1 589 (qsh (qt8 w.params) 527 853 os) (piecesOf (qcut 30 1) qenv qB ⟨271, 0, 273, 66⟩ qF)) = fun os => some (.next, qsh (qt9 w.params) 616 967 os, qB, ⟨274, 0, 323, 17⟩) := by
  rw [PySem.W.Fast.te10110043849684766642, PySem.W.Fast.te14364793385576792824]; kernel_rfl
noncomputable def q10_3 (P : Params) : Obj := qdict (qy "dict") [qe P "__name__" 165 (qs "minismt.terms" 337), qe P "__doc__" 166 .none, qe P "__package__" 167 .none, qe P "__loader__" 168 (qb "__main__.__loader__#opaque"), qe P "__spec__" 169 .none, qe P "__annotations__" 170 (qr 6), qe P "__builtins__" 171 (qr 4), qe P "__file__" 173 (qs "/claim/cut.py" 172), qe P "__cached__" 174 .none, qe P "_wall" 193 (qr 21), qe P "SmtError" 233 (qr 47), qe P "SortFault" 256 (qr 67), qe P "LimitFault" 279 (qr 86), qe P "ModelFault" 302 (qr 105), qe P "gcd_of" 312 (qr 114), qe P "ratio" 321 (qr 121), qe P "mul" 329 (qr 128), qe P "is_whole" 336 (qr 135), qe P "mask_of" 345 (qr 142), qe P "signed_of" 353 (qr 149), qe P "one_value" 362 (qr 156), qe P "divided_value" 371 (qr 163), qe P "rest_value" 379 (qr 170), qe P "shifted_value" 389 (qr 177), qe P "two_value" 399 (qr 184), qe P "extract_value" 408 (qr 191), qe P "sign_extended" 417 (qr 198), qe P "BOOL" 419 (qi 0 418), qe P "INT" 421 (qi 1 420), qe P "REAL" 423 (qi 2 422), qe P "WIDEST" 425 (qi 4096 424), qe P "MOST_BITS" 429 (qi 65536 428), qe P "VALUE_OPS" 434 (qr 199), qe P "Bank" 712 (qr 412), qe P "BoolBank" 845 (qr 517), qe P "want_small" 852 (qr 526), qe P "NumberBank" 966 (qr 613), qe P "TermBank" 1122 (qr 732)] 38
noncomputable def q10_12 : Obj := { cls := .none, data := Data.fields #[qi 1 0, qi 0 0, qr 20, qi 5 0, qi 0 0, qr 28, qi 13 0, qi 0 0, qr 56, qi 17 0, qi 0 0, qr 75, qi 21 0, qi 0 0, qr 94, qi 26 0, qi 0 0, qr 113, qi 31 0, qi 0 0, qr 120, qi 38 0, qi 0 0, qr 127, qi 42 0, qi 0 0, qr 134, qi 45 0, qi 0 0, qr 141, qi 47 0, qi 0 0, qr 148, qi 49 0, qi 0 0, qr 155, qi 55 0, qi 0 0, qr 162, qi 57 0, qi 0 0, qr 169, qi 59 0, qi 0 0, qr 176, qi 63 0, qi 0 0, qr 183, qi 83 0, qi 0 0, qr 190, qi 85 0, qi 0 0, qr 197, qi 93 0, qi 0 0, qr 205, qi 207 0, qi 0 0, qr 422, qi 271 0, qi 0 0, qr 525, qi 274 0, qi 0 0, qr 532, qi 324 0, qi 0 0, qr 622] }
noncomputable def q10_613 : Obj := { cls := qy "type", data := Data.cls { name := qS "NumberBank", bases := [qr 517], mro := [qr 613, qr 517, qr 412, qy "object"], ns := 612, qualname := qS "NumberBank", subclasses := [qr 732] }, slots := #[some (qr 527), none, some (qs "NumberBank" 853), some (qs "NumberBank" 861), some (qb "object.__new__"), some (.bool true)] }
noncomputable def q10_616 : Obj := qtup [qr 613]
noncomputable def q10_617 : Obj := { cls := qy "builtin_function_or_method", data := Data.fields #[qb "type.__prepare__", qy "type"] }
noncomputable def q10_618 (P : Params) : Obj := qdict (qy "dict") [qe P "__module__" 974 (qs "minismt.terms" 337), qe P "__qualname__" 976 (qs "TermBank" 975), qe P "__firstlineno__" 978 (qi 324 977), qe P "__init__" 986 (qr 631), qe P "bv_sort" 994 (qr 638), qe P "find_bv_sort" 1002 (qr 645), qe P "want_bits" 1011 (qr 652), qe P "bv_num" 1021 (qr 659), qe P "bv_one" 1030 (qr 666), qe P "bv_two" 1040 (qr 673), qe P "concat" 1049 (qr 680), qe P "extract" 1059 (qr 687), qe P "zero_extend" 1068 (qr 694), qe P "sign_extend" 1077 (qr 701), qe P "want_place" 1087 (qr 708), qe P "bit" 1096 (qr 715), qe P "carry" 1106 (qr 722), qe P "below" 1116 (qr 729), qe P "__static_attributes__" 1118 (qr 730), qe P "__classcell__" 1119 (qr 619)] 20
noncomputable def q10_619 : Obj := { cls := qy "cell", data := Data.cell (some (qr 732)) }
noncomputable def q10_620 : Obj := qtup []
noncomputable def q10_621 : Obj := { cls := .none, data := Data.fields #[qi 326 0, qi 4 0, qr 630, qi 330 0, qi 4 0, qr 637, qi 341 0, qi 4 0, qr 644, qi 344 0, qi 4 0, qr 651, qi 348 0, qi 4 0, qr 658, qi 352 0, qi 4 0, qr 665, qi 355 0, qi 4 0, qr 672, qi 358 0, qi 4 0, qr 679, qi 363 0, qi 4 0, qr 686, qi 366 0, qi 4 0, qr 693, qi 372 0, qi 4 0, qr 700, qi 378 0, qi 4 0, qr 707, qi 382 0, qi 4 0, qr 714, qi 388 0, qi 4 0, qr 721, qi 391 0, qi 4 0, qr 728] }
noncomputable def q10_622 : Obj := qcode [qs "TermBank" 969, qs "TermBank" 970, qs "/claim/cut.py" 971, qi 324 0, qi 0 0, qi 0 0, qi 0 0, qi 0 0, qr 620, .bool false, qi 181 0, qr 621, .none, .none, .none, .none, qi 972 0, qi 324 0, qs "/claim/cut.py" 973]
noncomputable def q10_623 : Obj := { cls := qy "frame", slots := #[some (qr 622), some (qr 3), some (qr 618), none, some (qs "minismt.terms" 337), none, some (qr 0)] }
noncomputable def q10_624 : Obj := qtup [qr 619]
noncomputable def q10_625 : Obj := qtup [qs "__class__" 982]
noncomputable def q10_626 : Obj := { cls := .none, data := Data.fields #[] }
noncomputable def q10_627 : Obj := qtup [qs "self" 983]
noncomputable def q10_628 : Obj := qtup []
noncomputable def q10_629 : Obj := qf0 (mth 31 0) "TermBank.__init__"
noncomputable def q10_630 : Obj := qcode [qs "__init__" 979, qs "TermBank.__init__" 980, qs "/claim/cut.py" 981, qi 326 0, qi 1 0, qi 0 0, qi 0 0, qi 3 0, qr 625, .bool true, qi 181 0, qr 626, .none, qr 627, qr 628, qr 629, qi 984 0, qi 326 0, qs "/claim/cut.py" 985]
noncomputable def q10_631 : Obj := qfn (mth 31 0) "TermBank.__init__" [(qS "__class__", 619)] .none (qs "minismt.terms" 337) (qr 630) (qr 624)
noncomputable def q10_632 : Obj := qtup []
noncomputable def q10_633 : Obj := { cls := .none, data := Data.fields #[] }
noncomputable def q10_634 : Obj := qtup [qs "self" 990, qs "width" 991]
noncomputable def q10_635 : Obj := qtup []
noncomputable def q10_636 : Obj := qf0 (mth 31 1) "TermBank.bv_sort"
noncomputable def q10_637 : Obj := qcode [qs "bv_sort" 987, qs "TermBank.bv_sort" 988, qs "/claim/cut.py" 989, qi 330 0, qi 2 0, qi 0 0, qi 0 0, qi 3 0, qr 632, .bool true, qi 181 0, qr 633, .none, qr 634, qr 635, qr 636, qi 992 0, qi 330 0, qs "/claim/cut.py" 993]
noncomputable def q10_638 : Obj := qfn (mth 31 1) "TermBank.bv_sort" [] .none (qs "minismt.terms" 337) (qr 637) .none
noncomputable def q10_639 : Obj := qtup []
noncomputable def q10_640 : Obj := { cls := .none, data := Data.fields #[] }
noncomputable def q10_641 : Obj := qtup [qs "self" 998, qs "width" 999]
noncomputable def q10_642 : Obj := qtup []
noncomputable def q10_643 : Obj := qf0 (mth 31 2) "TermBank.find_bv_sort"
noncomputable def q10_644 : Obj := qcode [qs "find_bv_sort" 995, qs "TermBank.find_bv_sort" 996, qs "/claim/cut.py" 997, qi 341 0, qi 2 0, qi 0 0, qi 0 0, qi 3 0, qr 639, .bool true, qi 181 0, qr 640, .none, qr 641, qr 642, qr 643, qi 1000 0, qi 341 0, qs "/claim/cut.py" 1001]
noncomputable def q10_645 : Obj := qfn (mth 31 2) "TermBank.find_bv_sort" [] .none (qs "minismt.terms" 337) (qr 644) .none
noncomputable def q10_646 : Obj := qtup []
noncomputable def q10_647 : Obj := { cls := .none, data := Data.fields #[] }
noncomputable def q10_648 : Obj := qtup [qs "self" 1006, qs "t" 1007, qs "where" 1008]
noncomputable def q10_649 : Obj := qtup []
noncomputable def q10_650 : Obj := qf0 (mth 31 3) "TermBank.want_bits"
noncomputable def q10_651 : Obj := qcode [qs "want_bits" 1003, qs "TermBank.want_bits" 1004, qs "/claim/cut.py" 1005, qi 344 0, qi 3 0, qi 0 0, qi 0 0, qi 3 0, qr 646, .bool true, qi 181 0, qr 647, .none, qr 648, qr 649, qr 650, qi 1009 0, qi 344 0, qs "/claim/cut.py" 1010]
noncomputable def q10_652 : Obj := qfn (mth 31 3) "TermBank.want_bits" [] .none (qs "minismt.terms" 337) (qr 651) .none
noncomputable def q10_653 : Obj := qtup []
noncomputable def q10_654 : Obj := { cls := .none, data := Data.fields #[] }
noncomputable def q10_655 : Obj := qtup [qs "self" 1015, qs "value" 1016, qs "width" 1017, qs "s" 1018]
noncomputable def q10_656 : Obj := qtup []
noncomputable def q10_657 : Obj := qf0 (mth 31 4) "TermBank.bv_num"
noncomputable def q10_658 : Obj := qcode [qs "bv_num" 1012, qs "TermBank.bv_num" 1013, qs "/claim/cut.py" 1014, qi 348 0, qi 3 0, qi 0 0, qi 0 0, qi 3 0, qr 653, .bool true, qi 181 0, qr 654, .none, qr 655, qr 656, qr 657, qi 1019 0, qi 348 0, qs "/claim/cut.py" 1020]
noncomputable def q10_659 : Obj := qfn (mth 31 4) "TermBank.bv_num" [] .none (qs "minismt.terms" 337) (qr 658) .none
noncomputable def q10_660 : Obj := qtup []
noncomputable def q10_661 : Obj := { cls := .none, data := Data.fields #[] }
noncomputable def q10_662 : Obj := qtup [qs "self" 1025, qs "op" 1026, qs "t" 1027]
noncomputable def q10_663 : Obj := qtup []
noncomputable def q10_664 : Obj := qf0 (mth 31 5) "TermBank.bv_one"
noncomputable def q10_665 : Obj := qcode [qs "bv_one" 1022, qs "TermBank.bv_one" 1023, qs "/claim/cut.py" 1024, qi 352 0, qi 3 0, qi 0 0, qi 0 0, qi 3 0, qr 660, .bool true, qi 181 0, qr 661, .none, qr 662, qr 663, qr 664, qi 1028 0, qi 352 0, qs "/claim/cut.py" 1029]
noncomputable def q10_666 : Obj := qfn (mth 31 5) "TermBank.bv_one" [] .none (qs "minismt.terms" 337) (qr 665) .none
noncomputable def q10_667 : Obj := qtup []
noncomputable def q10_668 : Obj := { cls := .none, data := Data.fields #[] }
noncomputable def q10_669 : Obj := qtup [qs "self" 1034, qs "op" 1035, qs "a" 1036, qs "b" 1037]
noncomputable def q10_670 : Obj := qtup []
noncomputable def q10_671 : Obj := qf0 (mth 31 6) "TermBank.bv_two"
noncomputable def q10_672 : Obj := qcode [qs "bv_two" 1031, qs "TermBank.bv_two" 1032, qs "/claim/cut.py" 1033, qi 355 0, qi 4 0, qi 0 0, qi 0 0, qi 3 0, qr 667, .bool true, qi 181 0, qr 668, .none, qr 669, qr 670, qr 671, qi 1038 0, qi 355 0, qs "/claim/cut.py" 1039]
noncomputable def q10_673 : Obj := qfn (mth 31 6) "TermBank.bv_two" [] .none (qs "minismt.terms" 337) (qr 672) .none
noncomputable def q10_674 : Obj := qtup []
noncomputable def q10_675 : Obj := { cls := .none, data := Data.fields #[] }
noncomputable def q10_676 : Obj := qtup [qs "self" 1044, qs "a" 1045, qs "b" 1046]
noncomputable def q10_677 : Obj := qtup []
noncomputable def q10_678 : Obj := qf0 (mth 31 7) "TermBank.concat"
noncomputable def q10_679 : Obj := qcode [qs "concat" 1041, qs "TermBank.concat" 1042, qs "/claim/cut.py" 1043, qi 358 0, qi 3 0, qi 0 0, qi 0 0, qi 3 0, qr 674, .bool true, qi 181 0, qr 675, .none, qr 676, qr 677, qr 678, qi 1047 0, qi 358 0, qs "/claim/cut.py" 1048]
noncomputable def q10_680 : Obj := qfn (mth 31 7) "TermBank.concat" [] .none (qs "minismt.terms" 337) (qr 679) .none
noncomputable def q10_681 : Obj := qtup []
noncomputable def q10_682 : Obj := { cls := .none, data := Data.fields #[] }
noncomputable def q10_683 : Obj := qtup [qs "self" 1053, qs "high" 1054, qs "low" 1055, qs "t" 1056]
noncomputable def q10_684 : Obj := qtup []
noncomputable def q10_685 : Obj := qf0 (mth 31 8) "TermBank.extract"
noncomputable def q10_686 : Obj := qcode [qs "extract" 1050, qs "TermBank.extract" 1051, qs "/claim/cut.py" 1052, qi 363 0, qi 4 0, qi 0 0, qi 0 0, qi 3 0, qr 681, .bool true, qi 181 0, qr 682, .none, qr 683, qr 684, qr 685, qi 1057 0, qi 363 0, qs "/claim/cut.py" 1058]
noncomputable def q10_687 : Obj := qfn (mth 31 8) "TermBank.extract" [] .none (qs "minismt.terms" 337) (qr 686) .none
noncomputable def q10_688 : Obj := qtup []
noncomputable def q10_689 : Obj := { cls := .none, data := Data.fields #[] }
noncomputable def q10_690 : Obj := qtup [qs "self" 1063, qs "many" 1064, qs "t" 1065]
noncomputable def q10_691 : Obj := qtup []
noncomputable def q10_692 : Obj := qf0 (mth 31 9) "TermBank.zero_extend"
noncomputable def q10_693 : Obj := qcode [qs "zero_extend" 1060, qs "TermBank.zero_extend" 1061, qs "/claim/cut.py" 1062, qi 366 0, qi 3 0, qi 0 0, qi 0 0, qi 3 0, qr 688, .bool true, qi 181 0, qr 689, .none, qr 690, qr 691, qr 692, qi 1066 0, qi 366 0, qs "/claim/cut.py" 1067]
noncomputable def q10_694 : Obj := qfn (mth 31 9) "TermBank.zero_extend" [] .none (qs "minismt.terms" 337) (qr 693) .none
noncomputable def q10_695 : Obj := qtup []
noncomputable def q10_696 : Obj := { cls := .none, data := Data.fields #[] }
noncomputable def q10_697 : Obj := qtup [qs "self" 1072, qs "many" 1073, qs "t" 1074]
noncomputable def q10_698 : Obj := qtup []
noncomputable def q10_699 : Obj := qf0 (mth 31 10) "TermBank.sign_extend"
noncomputable def q10_700 : Obj := qcode [qs "sign_extend" 1069, qs "TermBank.sign_extend" 1070, qs "/claim/cut.py" 1071, qi 372 0, qi 3 0, qi 0 0, qi 0 0, qi 3 0, qr 695, .bool true, qi 181 0, qr 696, .none, qr 697, qr 698, qr 699, qi 1075 0, qi 372 0, qs "/claim/cut.py" 1076]
noncomputable def q10_701 : Obj := qfn (mth 31 10) "TermBank.sign_extend" [] .none (qs "minismt.terms" 337) (qr 700) .none
noncomputable def q10_702 : Obj := qtup []
noncomputable def q10_703 : Obj := { cls := .none, data := Data.fields #[] }
noncomputable def q10_704 : Obj := qtup [qs "self" 1081, qs "i" 1082, qs "t" 1083, qs "where" 1084]
noncomputable def q10_705 : Obj := qtup []
noncomputable def q10_706 : Obj := qf0 (mth 31 11) "TermBank.want_place"
noncomputable def q10_707 : Obj := qcode [qs "want_place" 1078, qs "TermBank.want_place" 1079, qs "/claim/cut.py" 1080, qi 378 0, qi 4 0, qi 0 0, qi 0 0, qi 3 0, qr 702, .bool true, qi 181 0, qr 703, .none, qr 704, qr 705, qr 706, qi 1085 0, qi 378 0, qs "/claim/cut.py" 1086]
noncomputable def q10_708 : Obj := qfn (mth 31 11) "TermBank.want_place" [] .none (qs "minismt.terms" 337) (qr 707) .none
noncomputable def q10_709 : Obj := qtup []
noncomputable def q10_710 : Obj := { cls := .none, data := Data.fields #[] }
noncomputable def q10_711 : Obj := qtup [qs "self" 1091, qs "i" 1092, qs "t" 1093]
noncomputable def q10_712 : Obj := qtup []
noncomputable def q10_713 : Obj := qf0 (mth 31 12) "TermBank.bit"
noncomputable def q10_714 : Obj := qcode [qs "bit" 1088, qs "TermBank.bit" 1089, qs "/claim/cut.py" 1090, qi 382 0, qi 3 0, qi 0 0, qi 0 0, qi 3 0, qr 709, .bool true, qi 181 0, qr 710, .none, qr 711, qr 712, qr 713, qi 1094 0, qi 382 0, qs "/claim/cut.py" 1095]
noncomputable def q10_715 : Obj := qfn (mth 31 12) "TermBank.bit" [] .none (qs "minismt.terms" 337) (qr 714) .none
noncomputable def q10_716 : Obj := qtup []
noncomputable def q10_717 : Obj := { cls := .none, data := Data.fields #[] }
noncomputable def q10_718 : Obj := qtup [qs "self" 1100, qs "i" 1101, qs "a" 1102, qs "b" 1103]
noncomputable def q10_719 : Obj := qtup []
noncomputable def q10_720 : Obj := qf0 (mth 31 13) "TermBank.carry"
noncomputable def q10_721 : Obj := qcode [qs "carry" 1097, qs "TermBank.carry" 1098, qs "/claim/cut.py" 1099, qi 388 0, qi 4 0, qi 0 0, qi 0 0, qi 3 0, qr 716, .bool true, qi 181 0, qr 717, .none, qr 718, qr 719, qr 720, qi 1104 0, qi 388 0, qs "/claim/cut.py" 1105]
noncomputable def q10_722 : Obj := qfn (mth 31 13) "TermBank.carry" [] .none (qs "minismt.terms" 337) (qr 721) .none
noncomputable def q10_723 : Obj := qtup []
noncomputable def q10_724 : Obj := { cls := .none, data := Data.fields #[] }
noncomputable def q10_725 : Obj := qtup [qs "self" 1110, qs "i" 1111, qs "a" 1112, qs "b" 1113]
noncomputable def q10_726 : Obj := qtup []
noncomputable def q10_727 : Obj := qf0 (mth 31 14) "TermBank.below"
noncomputable def q10_728 : Obj := qcode [qs "below" 1107, qs "TermBank.below" 1108, qs "/claim/cut.py" 1109, qi 391 0, qi 4 0, qi 0 0, qi 0 0, qi 3 0, qr 723, .bool true, qi 181 0, qr 724, .none, qr 725, qr 726, qr 727, qi 1114 0, qi 391 0, qs "/claim/cut.py" 1115]
noncomputable def q10_729 : Obj := qfn (mth 31 14) "TermBank.below" [] .none (qs "minismt.terms" 337) (qr 728) .none
noncomputable def q10_730 : Obj := qtup [qs "bv_numbers" 1117]
noncomputable def q10_731 (P : Params) : Obj := qdict (qy "dict") [qe P "__module__" 974 (qs "minismt.terms" 337), qe P "__firstlineno__" 978 (qi 324 977), qe P "__init__" 986 (qr 631), qe P "bv_sort" 994 (qr 638), qe P "find_bv_sort" 1002 (qr 645), qe P "want_bits" 1011 (qr 652), qe P "bv_num" 1021 (qr 659), qe P "bv_one" 1030 (qr 666), qe P "bv_two" 1040 (qr 673), qe P "concat" 1049 (qr 680), qe P "extract" 1059 (qr 687), qe P "zero_extend" 1068 (qr 694), qe P "sign_extend" 1077 (qr 701), qe P "want_place" 1087 (qr 708), qe P "bit" 1096 (qr 715), qe P "carry" 1106 (qr 722), qe P "below" 1116 (qr 729), qe P "__static_attributes__" 1118 (qr 730), qe P "__doc__" 1120 .none] 3
noncomputable def q10_732 : Obj := { cls := qy "type", data := Data.cls { name := qS "TermBank", bases := [qr 613], mro := [qr 732, qr 613, qr 517, qr 412, qy "object"], ns := 731, qualname := qS "TermBank" }, slots := #[some (qr 616), none, some (qs "TermBank" 967), some (qs "TermBank" 975), some (qb "object.__new__"), some (.bool true)] }
noncomputable def q10_733 : Obj := { cls := qy "super", data := Data.fields #[qr 732, qr 732, qr 732] }
noncomputable def q10_734 : Obj := { cls := qy "builtin_function_or_method", data := Data.fields #[qb "object.__init_subclass__", qr 732] }
noncomputable def qt10 (P : Params) : BT := qins (qt9 P) [(3, q10_3 P), (12, q10_12), (613, q10_613), (616, q10_616), (617, q10_617), (618, q10_618 P), (619, q10_619), (620, q10_620), (621, q10_621), (622, q10_622), (623, q10_623), (624, q10_624), (625, q10_625), (626, q10_626), (627, q10_627), (628, q10_628), (629, q10_629), (630, q10_630), (631, q10_631), (632, q10_632), (633, q10_633), (634, q10_634), (635, q10_635), (636, q10_636), (637, q10_637), (638, q10_638), (639, q10_639), (640, q10_640), (641, q10_641), (642, q10_642), (643, q10_643), (644, q10_644), (645, q10_645), (646, q10_646), (647, q10_647), (648, q10_648), (649, q10_649), (650, q10_650), (651, q10_651), (652, q10_652), (653, q10_653), (654, q10_654), (655, q10_655), (656, q10_656), (657, q10_657), (658, q10_658), (659, q10_659), (660, q10_660), (661, q10_661), (662, q10_662), (663, q10_663), (664, q10_664), (665, q10_665), (666, q10_666), (667, q10_667), (668, q10_668), (669, q10_669), (670, q10_670), (671, q10_671), (672, q10_672), (673, q10_673), (674, q10_674), (675, q10_675), (676, q10_676), (677, q10_677), (678, q10_678), (679, q10_679), (680, q10_680), (681, q10_681), (682, q10_682), (683, q10_683), (684, q10_684), (685, q10_685), (686, q10_686), (687, q10_687), (688, q10_688), (689, q10_689), (690, q10_690), (691, q10_691), (692, q10_692), (693, q10_693), (694, q10_694), (695, q10_695), (696, q10_696), (697, q10_697), (698, q10_698), (699, q10_699), (700, q10_700), (701, q10_701), (702, q10_702), (703, q10_703), (704, q10_704), (705, q10_705), (706, q10_706), (707, q10_707), (708, q10_708), (709, q10_709), (710, q10_710), (711, q10_711), (712, q10_712), (713, q10_713), (714, q10_714), (715, q10_715), (716, q10_716), (717, q10_717), (718, q10_718), (719, q10_719), (720, q10_720), (721, q10_721), (722, q10_722), (723, q10_723), (724, q10_724), (725, q10_725), (726, q10_726), (727, q10_727), (728, q10_728), (729, q10_729), (730, q10_730), (731, q10_731 P), (732, q10_732), (733, q10_733), (734, q10_734)]
theorem qp10 (w : World) : (fun os => segRunT treeTable prg w 11 (some (.ref 6)) 1 755 (qsh (qt9 w.params) 616 967 os) (piecesOf (qcut 31 1) qenv qB ⟨274, 0, 323, 17⟩ qF)) = fun os => some (.next, qsh (qt10 w.params) 735 1123 os, qB, ⟨324, 0, 395, 50⟩) := by
  rw [PySem.W.Fast.te10110043849684766642, PySem.W.Fast.te14364793385576792824]; kernel_rfl
noncomputable def q11_3 (P : Params) : Obj := qdict (qy "dict") [qe P "__name__" 165 (qs "minismt.rewrite" 1123), qe P "__doc__" 166 .none, qe P "__package__" 167 .none, qe P "__loader__" 168 (qb "__main__.__loader__#opaque"), qe P "__spec__" 169 .none, qe P "__annotations__" 170 (qr 6), qe P "__builtins__" 171 (qr 4), qe P "__file__" 173 (qs "/claim/cut.py" 172), qe P "__cached__" 174 .none, qe P "_wall" 193 (qr 21), qe P "SmtError" 233 (qr 47), qe P "SortFault" 256 (qr 67), qe P "LimitFault" 279 (qr 86), qe P "ModelFault" 302 (qr 105), qe P "gcd_of" 312 (qr 114), qe P "ratio" 321 (qr 121), qe P "mul" 329 (qr 128), qe P "is_whole" 336 (qr 135), qe P "mask_of" 345 (qr 142), qe P "signed_of" 353 (qr 149), qe P "one_value" 362 (qr 156), qe P "divided_value" 371 (qr 163), qe P "rest_value" 379 (qr 170), qe P "shifted_value" 389 (qr 177), qe P "two_value" 399 (qr 184), qe P "extract_value" 408 (qr 191), qe P "sign_extended" 417 (qr 198), qe P "BOOL" 419 (qi 0 418), qe P "INT" 421 (qi 1 420), qe P "REAL" 423 (qi 2 422), qe P "WIDEST" 425 (qi 4096 424), qe P "MOST_BITS" 429 (qi 65536 428), qe P "VALUE_OPS" 434 (qr 199), qe P "Bank" 712 (qr 412), qe P "BoolBank" 845 (qr 517), qe P "want_small" 852 (qr 526), qe P "NumberBank" 966 (qr 613), qe P "TermBank" 1122 (qr 732), qe P "DEEPEST" 1126 (qi 50 1125)] 39
noncomputable def qt11 (P : Params) : BT := qins (qt10 P) [(3, q11_3 P)]
theorem qp11 (w : World) : (fun os => segRunT treeTable prg w 11 (some (.ref 6)) 1 19 (qsh (qt10 w.params) 735 1123 os) (piecesOf (qcut 32 2) qenv qB ⟨324, 0, 395, 50⟩ qF)) = fun os => some (.next, qsh (qt11 w.params) 735 1127 os, qB, ⟨397, 0, 397, 7⟩) := by
  rw [PySem.W.Fast.te10110043849684766642, PySem.W.Fast.te14364793385576792824]; kernel_rfl
noncomputable def q12_3 (P : Params) : Obj := qdict (qy "dict") [qe P "__name__" 165 (qs "minismt.rewrite" 1123), qe P "__doc__" 166 .none, qe P "__package__" 167 .none, qe P "__loader__" 168 (qb "__main__.__loader__#opaque"), qe P "__spec__" 169 .none, qe P "__annotations__" 170 (qr 6), qe P "__builtins__" 171 (qr 4), qe P "__file__" 173 (qs "/claim/cut.py" 172), qe P "__cached__" 174 .none, qe P "_wall" 193 (qr 21), qe P "SmtError" 233 (qr 47), qe P "SortFault" 256 (qr 67), qe P "LimitFault" 279 (qr 86), qe P "ModelFault" 302 (qr 105), qe P "gcd_of" 312 (qr 114), qe P "ratio" 321 (qr 121), qe P "mul" 329 (qr 128), qe P "is_whole" 336 (qr 135), qe P "mask_of" 345 (qr 142), qe P "signed_of" 353 (qr 149), qe P "one_value" 362 (qr 156), qe P "divided_value" 371 (qr 163), qe P "rest_value" 379 (qr 170), qe P "shifted_value" 389 (qr 177), qe P "two_value" 399 (qr 184), qe P "extract_value" 408 (qr 191), qe P "sign_extended" 417 (qr 198), qe P "BOOL" 419 (qi 0 418), qe P "INT" 421 (qi 1 420), qe P "REAL" 423 (qi 2 422), qe P "WIDEST" 425 (qi 4096 424), qe P "MOST_BITS" 429 (qi 65536 428), qe P "VALUE_OPS" 434 (qr 199), qe P "Bank" 712 (qr 412), qe P "BoolBank" 845 (qr 517), qe P "want_small" 852 (qr 526), qe P "NumberBank" 966 (qr 613), qe P "TermBank" 1122 (qr 732), qe P "DEEPEST" 1126 (qi 50 1125), qe P "BoolRewriter" 1310 (qr 857)] 40
noncomputable def q12_12 : Obj := { cls := .none, data := Data.fields #[qi 1 0, qi 0 0, qr 20, qi 5 0, qi 0 0, qr 28, qi 13 0, qi 0 0, qr 56, qi 17 0, qi 0 0, qr 75, qi 21 0, qi 0 0, qr 94, qi 26 0, qi 0 0, qr 113, qi 31 0, qi 0 0, qr 120, qi 38 0, qi 0 0, qr 127, qi 42 0, qi 0 0, qr 134, qi 45 0, qi 0 0, qr 141, qi 47 0, qi 0 0, qr 148, qi 49 0, qi 0 0, qr 155, qi 55 0, qi 0 0, qr 162, qi 57 0, qi 0 0, qr 169, qi 59 0, qi 0 0, qr 176, qi 63 0, qi 0 0, qr 183, qi 83 0, qi 0 0, qr 190, qi 85 0, qi 0 0, qr 197, qi 93 0, qi 0 0, qr 205, qi 207 0, qi 0 0, qr 422, qi 271 0, qi 0 0, qr 525, qi 274 0, qi 0 0, qr 532, qi 324 0, qi 0 0, qr 622, qi 398 0, qi 0 0, qr 740] }
noncomputable def q12_735 : Obj := qtup []
noncomputable def q12_736 : Obj := { cls := qy "builtin_function_or_method", data := Data.fields #[qb "type.__prepare__", qy "type"] }
noncomputable def q12_737 (P : Params) : Obj := qdict (qy "dict") [qe P "__module__" 1134 (qs "minismt.rewrite" 1123), qe P "__qualname__" 1136 (qs "BoolRewriter" 1135), qe P "__firstlineno__" 1138 (qi 398 1137), qe P "__init__" 1146 (qr 748), qe P "simplify" 1154 (qr 755), qe P "made" 1163 (qr 762), qe P "flat" 1177 (qr 769), qe P "thinned" 1183 (qr 774), qe P "joined" 1196 (qr 781), qe P "negated" 1204 (qr 788), qe P "parity" 1212 (qr 795), qe P "same" 1223 (qr 802), qe P "chosen_bool" 1233 (qr 809), qe P "chosen" 1243 (qr 816), qe P "equal" 1256 (qr 824), qe P "equal_others" 1267 (qr 832), qe P "equal_chosen" 1281 (qr 840), qe P "are_too_many" 1289 (qr 847), qe P "apart" 1298 (qr 854), qe P "__static_attributes__" 1303 (qr 855)] 20
noncomputable def q12_738 : Obj := qtup []
noncomputable def q12_739 : Obj := { cls := .none, data := Data.fields #[qi 400 0, qi 4 0, qr 747, qi 406 0, qi 4 0, qr 754, qi 409 0, qi 4 0, qr 761, qi 412 0, qi 4 0, qr 768, qi 427 0, qi 4 0, qr 773, qi 439 0, qi 4 0, qr 780, qi 449 0, qi 4 0, qr 787, qi 452 0, qi 4 0, qr 794, qi 455 0, qi 4 0, qr 801, qi 469 0, qi 4 0, qr 808, qi 482 0, qi 4 0, qr 815, qi 495 0, qi 4 0, qr 823, qi 507 0, qi 4 0, qr 831, qi 510 0, qi 4 0, qr 839, qi 516 0, qi 4 0, qr 846, qi 519 0, qi 4 0, qr 853] }
noncomputable def q12_740 : Obj := qcode [qs "BoolRewriter" 1129, qs "BoolRewriter" 1130, qs "/claim/cut.py" 1131, qi 398 0, qi 0 0, qi 0 0, qi 0 0, qi 0 0, qr 738, .bool false, qi 181 0, qr 739, .none, .none, .none, .none, qi 1132 0, qi 398 0, qs "/claim/cut.py" 1133]
noncomputable def q12_741 : Obj := { cls := qy "frame", slots := #[some (qr 740), some (qr 3), some (qr 737), none, some (qs "minismt.rewrite" 1123), none, some (qr 0)] }
noncomputable def q12_742 : Obj := qtup []
noncomputable def q12_743 : Obj := { cls := .none, data := Data.fields #[] }
noncomputable def q12_744 : Obj := qtup [qs "self" 1142, qs "bank" 1143]
noncomputable def q12_745 : Obj := qtup []
noncomputable def q12_746 : Obj := qf0 (mth 34 0) "BoolRewriter.__init__"
noncomputable def q12_747 : Obj := qcode [qs "__init__" 1139, qs "BoolRewriter.__init__" 1140, qs "/claim/cut.py" 1141, qi 400 0, qi 2 0, qi 0 0, qi 0 0, qi 3 0, qr 742, .bool true, qi 181 0, qr 743, .none, qr 744, qr 745, qr 746, qi 1144 0, qi 400 0, qs "/claim/cut.py" 1145]
noncomputable def q12_748 : Obj := qfn (mth 34 0) "BoolRewriter.__init__" [] .none (qs "minismt.rewrite" 1123) (qr 747) .none
noncomputable def q12_749 : Obj := qtup []
noncomputable def q12_750 : Obj := { cls := .none, data := Data.fields #[] }
noncomputable def q12_751 : Obj := qtup [qs "self" 1150, qs "t" 1151]
noncomputable def q12_752 : Obj := qtup []
noncomputable def q12_753 : Obj := qf0 (mth 34 1) "BoolRewriter.simplify"
noncomputable def q12_754 : Obj := qcode [qs "simplify" 1147, qs "BoolRewriter.simplify" 1148, qs "/claim/cut.py" 1149, qi 406 0, qi 2 0, qi 0 0, qi 0 0, qi 3 0, qr 749, .bool true, qi 181 0, qr 750, .none, qr 751, qr 752, qr 753, qi 1152 0, qi 406 0, qs "/claim/cut.py" 1153]
noncomputable def q12_755 : Obj := qfn (mth 34 1) "BoolRewriter.simplify" [] .none (qs "minismt.rewrite" 1123) (qr 754) .none
noncomputable def q12_756 : Obj := qtup []
noncomputable def q12_757 : Obj := { cls := .none, data := Data.fields #[] }
noncomputable def q12_758 : Obj := qtup [qs "self" 1158, qs "t" 1159, qs "args" 1160]
noncomputable def q12_759 : Obj := qtup []
noncomputable def q12_760 : Obj := qf0 (mth 34 2) "BoolRewriter.made"
noncomputable def q12_761 : Obj := qcode [qs "made" 1155, qs "BoolRewriter.made" 1156, qs "/claim/cut.py" 1157, qi 409 0, qi 3 0, qi 0 0, qi 0 0, qi 3 0, qr 756, .bool true, qi 181 0, qr 757, .none, qr 758, qr 759, qr 760, qi 1161 0, qi 409 0, qs "/claim/cut.py" 1162]
noncomputable def q12_762 : Obj := qfn (mth 34 2) "BoolRewriter.made" [] .none (qs "minismt.rewrite" 1123) (qr 761) .none
noncomputable def q12_763 : Obj := qtup []
noncomputable def q12_764 : Obj := { cls := .none, data := Data.fields #[] }
noncomputable def q12_765 : Obj := qtup [qs "self" 1167, qs "op" 1168, qs "some" 1169, qs "unit" 1170, qs "settling" 1171, qs "found" 1172, qs "stack" 1173, qs "t" 1174]
noncomputable def q12_766 : Obj := qtup []
noncomputable def q12_767 : Obj := qf0 (mth 34 3) "BoolRewriter.flat"
noncomputable def q12_768 : Obj := qcode [qs "flat" 1164, qs "BoolRewriter.flat" 1165, qs "/claim/cut.py" 1166, qi 412 0, qi 3 0, qi 0 0, qi 0 0, qi 3 0, qr 763, .bool true, qi 181 0, qr 764, .none, qr 765, qr 766, qr 767, qi 1175 0, qi 412 0, qs "/claim/cut.py" 1176]
noncomputable def q12_769 : Obj := qfn (mth 34 3) "BoolRewriter.flat" [] .none (qs "minismt.rewrite" 1123) (qr 768) .none
noncomputable def q12_770 : Obj := qtup []
noncomputable def q12_771 : Obj := { cls := .none, data := Data.fields #[] }
noncomputable def q12_772 : Obj := qf0 (mth 34 4) "BoolRewriter.thinned"
noncomputable def q12_773 : Obj := qcode [qs "thinned" 1178, qs "BoolRewriter.thinned" 1179, qs "/claim/cut.py" 1180, qi 427 0, qi 3 0, qi 0 0, qi 0 0, qi 3 0, qr 770, .bool true, qi 181 0, qr 771, .none, .none, .none, qr 772, qi 1181 0, qi 427 0, qs "/claim/cut.py" 1182]
noncomputable def q12_774 : Obj := qfn (mth 34 4) "BoolRewriter.thinned" [] .none (qs "minismt.rewrite" 1123) (qr 773) .none
noncomputable def q12_775 : Obj := qtup []
noncomputable def q12_776 : Obj := { cls := .none, data := Data.fields #[] }
noncomputable def q12_777 : Obj := qtup [qs "self" 1187, qs "op" 1188, qs "some" 1189, qs "settling" 1190, qs "other" 1191, qs "found" 1192, qs "kept" 1193]
noncomputable def q12_778 : Obj := qtup []
noncomputable def q12_779 : Obj := qf0 (mth 34 5) "BoolRewriter.joined"
noncomputable def q12_780 : Obj := qcode [qs "joined" 1184, qs "BoolRewriter.joined" 1185, qs "/claim/cut.py" 1186, qi 439 0, qi 3 0, qi 0 0, qi 0 0, qi 3 0, qr 775, .bool true, qi 181 0, qr 776, .none, qr 777, qr 778, qr 779, qi 1194 0, qi 439 0, qs "/claim/cut.py" 1195]
noncomputable def q12_781 : Obj := qfn (mth 34 5) "BoolRewriter.joined" [] .none (qs "minismt.rewrite" 1123) (qr 780) .none
noncomputable def q12_782 : Obj := qtup []
noncomputable def q12_783 : Obj := { cls := .none, data := Data.fields #[] }
noncomputable def q12_784 : Obj := qtup [qs "self" 1200, qs "t" 1201]
noncomputable def q12_785 : Obj := qtup []
noncomputable def q12_786 : Obj := qf0 (mth 34 6) "BoolRewriter.negated"
noncomputable def q12_787 : Obj := qcode [qs "negated" 1197, qs "BoolRewriter.negated" 1198, qs "/claim/cut.py" 1199, qi 449 0, qi 2 0, qi 0 0, qi 0 0, qi 3 0, qr 782, .bool true, qi 181 0, qr 783, .none, qr 784, qr 785, qr 786, qi 1202 0, qi 449 0, qs "/claim/cut.py" 1203]
noncomputable def q12_788 : Obj := qfn (mth 34 6) "BoolRewriter.negated" [] .none (qs "minismt.rewrite" 1123) (qr 787) .none
noncomputable def q12_789 : Obj := qtup []
noncomputable def q12_790 : Obj := { cls := .none, data := Data.fields #[] }
noncomputable def q12_791 : Obj := qtup [qs "self" 1208, qs "some" 1209]
noncomputable def q12_792 : Obj := qtup []
noncomputable def q12_793 : Obj := qf0 (mth 34 7) "BoolRewriter.parity"
noncomputable def q12_794 : Obj := qcode [qs "parity" 1205, qs "BoolRewriter.parity" 1206, qs "/claim/cut.py" 1207, qi 452 0, qi 2 0, qi 0 0, qi 0 0, qi 3 0, qr 789, .bool true, qi 181 0, qr 790, .none, qr 791, qr 792, qr 793, qi 1210 0, qi 452 0, qs "/claim/cut.py" 1211]
noncomputable def q12_795 : Obj := qfn (mth 34 7) "BoolRewriter.parity" [] .none (qs "minismt.rewrite" 1123) (qr 794) .none
noncomputable def q12_796 : Obj := qtup []
noncomputable def q12_797 : Obj := { cls := .none, data := Data.fields #[] }
noncomputable def q12_798 : Obj := qtup [qs "self" 1216, qs "a" 1217, qs "b" 1218, qs "is_odd" 1219, qs "result" 1220]
noncomputable def q12_799 : Obj := qtup []
noncomputable def q12_800 : Obj := qf0 (mth 34 8) "BoolRewriter.same"
noncomputable def q12_801 : Obj := qcode [qs "same" 1213, qs "BoolRewriter.same" 1214, qs "/claim/cut.py" 1215, qi 455 0, qi 3 0, qi 0 0, qi 0 0, qi 3 0, qr 796, .bool true, qi 181 0, qr 797, .none, qr 798, qr 799, qr 800, qi 1221 0, qi 455 0, qs "/claim/cut.py" 1222]
noncomputable def q12_802 : Obj := qfn (mth 34 8) "BoolRewriter.same" [] .none (qs "minismt.rewrite" 1123) (qr 801) .none
noncomputable def q12_803 : Obj := qtup []
noncomputable def q12_804 : Obj := { cls := .none, data := Data.fields #[] }
noncomputable def q12_805 : Obj := qtup [qs "self" 1227, qs "c" 1228, qs "a" 1229, qs "b" 1230]
noncomputable def q12_806 : Obj := qtup []
noncomputable def q12_807 : Obj := qf0 (mth 34 9) "BoolRewriter.chosen_bool"
noncomputable def q12_808 : Obj := qcode [qs "chosen_bool" 1224, qs "BoolRewriter.chosen_bool" 1225, qs "/claim/cut.py" 1226, qi 469 0, qi 4 0, qi 0 0, qi 0 0, qi 3 0, qr 803, .bool true, qi 181 0, qr 804, .none, qr 805, qr 806, qr 807, qi 1231 0, qi 469 0, qs "/claim/cut.py" 1232]
noncomputable def q12_809 : Obj := qfn (mth 34 9) "BoolRewriter.chosen_bool" [] .none (qs "minismt.rewrite" 1123) (qr 808) .none
noncomputable def q12_810 : Obj := qtup []
noncomputable def q12_811 : Obj := { cls := .none, data := Data.fields #[] }
noncomputable def q12_812 : Obj := qtup [qs "self" 1237, qs "c" 1238, qs "a" 1239, qs "b" 1240]
noncomputable def q12_813 : Obj := qtup []
noncomputable def q12_814 : Obj := qf0 (mth 34 10) "BoolRewriter.chosen"
noncomputable def q12_815 : Obj := qcode [qs "chosen" 1234, qs "BoolRewriter.chosen" 1235, qs "/claim/cut.py" 1236, qi 482 0, qi 4 0, qi 0 0, qi 0 0, qi 3 0, qr 810, .bool true, qi 181 0, qr 811, .none, qr 812, qr 813, qr 814, qi 1241 0, qi 482 0, qs "/claim/cut.py" 1242]
noncomputable def q12_816 : Obj := qfn (mth 34 10) "BoolRewriter.chosen" [] .none (qs "minismt.rewrite" 1123) (qr 815) .none
noncomputable def q12_817 : Obj := qtup [qi 0 1244]
noncomputable def q12_818 : Obj := qtup []
noncomputable def q12_819 : Obj := { cls := .none, data := Data.fields #[] }
noncomputable def q12_820 : Obj := qtup [qs "self" 1248, qs "a" 1249, qs "b" 1250, qs "deep" 1251, qs "value" 1252, qs "other" 1253]
noncomputable def q12_821 : Obj := qtup []
noncomputable def q12_822 : Obj := qf0 (mth 34 11) "BoolRewriter.equal"
noncomputable def q12_823 : Obj := qcode [qs "equal" 1245, qs "BoolRewriter.equal" 1246, qs "/claim/cut.py" 1247, qi 495 0, qi 4 0, qi 0 0, qi 0 0, qi 3 0, qr 818, .bool true, qi 181 0, qr 819, .none, qr 820, qr 821, qr 822, qi 1254 0, qi 495 0, qs "/claim/cut.py" 1255]
noncomputable def q12_824 : Obj := qfn (mth 34 11) "BoolRewriter.equal" [] (qr 817) (qs "minismt.rewrite" 1123) (qr 823) .none
noncomputable def q12_825 : Obj := qtup [qi 0 1257]
noncomputable def q12_826 : Obj := qtup []
noncomputable def q12_827 : Obj := { cls := .none, data := Data.fields #[] }
noncomputable def q12_828 : Obj := qtup [qs "self" 1261, qs "a" 1262, qs "b" 1263, qs "deep" 1264]
noncomputable def q12_829 : Obj := qtup []
noncomputable def q12_830 : Obj := qf0 (mth 34 12) "BoolRewriter.equal_others"
noncomputable def q12_831 : Obj := qcode [qs "equal_others" 1258, qs "BoolRewriter.equal_others" 1259, qs "/claim/cut.py" 1260, qi 507 0, qi 4 0, qi 0 0, qi 0 0, qi 3 0, qr 826, .bool true, qi 181 0, qr 827, .none, qr 828, qr 829, qr 830, qi 1265 0, qi 507 0, qs "/claim/cut.py" 1266]
noncomputable def q12_832 : Obj := qfn (mth 34 12) "BoolRewriter.equal_others" [] (qr 825) (qs "minismt.rewrite" 1123) (qr 831) .none
noncomputable def q12_833 : Obj := qtup [qi 0 1268]
noncomputable def q12_834 : Obj := qtup []
noncomputable def q12_835 : Obj := { cls := .none, data := Data.fields #[] }
noncomputable def q12_836 : Obj := qtup [qs "self" 1272, qs "value" 1273, qs "b" 1274, qs "deep" 1275, qs "c" 1276, qs "first" 1277, qs "second" 1278]
noncomputable def q12_837 : Obj := qtup []
noncomputable def q12_838 : Obj := qf0 (mth 34 13) "BoolRewriter.equal_chosen"
noncomputable def q12_839 : Obj := qcode [qs "equal_chosen" 1269, qs "BoolRewriter.equal_chosen" 1270, qs "/claim/cut.py" 1271, qi 510 0, qi 4 0, qi 0 0, qi 0 0, qi 3 0, qr 834, .bool true, qi 181 0, qr 835, .none, qr 836, qr 837, qr 838, qi 1279 0, qi 510 0, qs "/claim/cut.py" 1280]
noncomputable def q12_840 : Obj := qfn (mth 34 13) "BoolRewriter.equal_chosen" [] (qr 833) (qs "minismt.rewrite" 1123) (qr 839) .none
noncomputable def q12_841 : Obj := qtup []
noncomputable def q12_842 : Obj := { cls := .none, data := Data.fields #[] }
noncomputable def q12_843 : Obj := qtup [qs "self" 1285, qs "args" 1286]
noncomputable def q12_844 : Obj := qtup []
noncomputable def q12_845 : Obj := qf0 (mth 34 14) "BoolRewriter.are_too_many"
noncomputable def q12_846 : Obj := qcode [qs "are_too_many" 1282, qs "BoolRewriter.are_too_many" 1283, qs "/claim/cut.py" 1284, qi 516 0, qi 2 0, qi 0 0, qi 0 0, qi 3 0, qr 841, .bool true, qi 181 0, qr 842, .none, qr 843, qr 844, qr 845, qi 1287 0, qi 516 0, qs "/claim/cut.py" 1288]
noncomputable def q12_847 : Obj := qfn (mth 34 14) "BoolRewriter.are_too_many" [] .none (qs "minismt.rewrite" 1123) (qr 846) .none
noncomputable def q12_848 : Obj := qtup []
noncomputable def q12_849 : Obj := { cls := .none, data := Data.fields #[] }
noncomputable def q12_850 : Obj := qtup [qs "self" 1293, qs "t" 1294, qs "args" 1295]
noncomputable def q12_851 : Obj := qtup []
noncomputable def q12_852 : Obj := qf0 (mth 34 15) "BoolRewriter.apart"
noncomputable def q12_853 : Obj := qcode [qs "apart" 1290, qs "BoolRewriter.apart" 1291, qs "/claim/cut.py" 1292, qi 519 0, qi 3 0, qi 0 0, qi 0 0, qi 3 0, qr 848, .bool true, qi 181 0, qr 849, .none, qr 850, qr 851, qr 852, qi 1296 0, qi 519 0, qs "/claim/cut.py" 1297]
noncomputable def q12_854 : Obj := qfn (mth 34 15) "BoolRewriter.apart" [] .none (qs "minismt.rewrite" 1123) (qr 853) .none
noncomputable def q12_855 : Obj := qtup [qs "bank" 1299, qs "known" 1300, qs "no" 1301, qs "yes" 1302]
noncomputable def q12_856 (P : Params) : Obj := qdict (qy "dict") [qe P "__module__" 1134 (qs "minismt.rewrite" 1123), qe P "__firstlineno__" 1138 (qi 398 1137), qe P "__init__" 1146 (qr 748), qe P "simplify" 1154 (qr 755), qe P "made" 1163 (qr 762), qe P "flat" 1177 (qr 769), qe P "thinned" 1183 (qr 774), qe P "joined" 1196 (qr 781), qe P "negated" 1204 (qr 788), qe P "parity" 1212 (qr 795), qe P "same" 1223 (qr 802), qe P "chosen_bool" 1233 (qr 809), qe P "chosen" 1243 (qr 816), qe P "equal" 1256 (qr 824), qe P "equal_others" 1267 (qr 832), qe P "equal_chosen" 1281 (qr 840), qe P "are_too_many" 1289 (qr 847), qe P "apart" 1298 (qr 854), qe P "__static_attributes__" 1303 (qr 855), qe P "__dict__" 1305 (qr 858), qe P "__weakref__" 1307 (qr 859), qe P "__doc__" 1308 .none] 4
noncomputable def q12_857 : Obj := { cls := qy "type", data := Data.cls { name := qS "BoolRewriter", bases := [qy "object"], mro := [qr 857, qy "object"], ns := 856, qualname := qS "BoolRewriter" }, slots := #[none, none, some (qs "BoolRewriter" 1127), some (qs "BoolRewriter" 1135), some (qb "object.__new__"), some (.bool true)] }
noncomputable def q12_858 : Obj := { cls := qy "getset_descriptor", data := Data.fields #[qs "__dict__" 1304, qr 857, qb "function.__dict__", qb "function.__dict__#set"] }
noncomputable def q12_859 : Obj := { cls := qy "getset_descriptor", data := Data.fields #[qs "__weakref__" 1306, qr 857, qb "ExceptionGroup.__weakref__", .none] }
noncomputable def q12_860 : Obj := { cls := qy "super", data := Data.fields #[qr 857, qr 857, qr 857] }
noncomputable def q12_861 : Obj := { cls := qy "builtin_function_or_method", data := Data.fields #[qb "object.__init_subclass__", qr 857] }
noncomputable def qt12 (P : Params) : BT := qins (qt11 P) [(3, q12_3 P), (12, q12_12), (735, q12_735), (736, q12_736), (737, q12_737 P), (738, q12_738), (739, q12_739), (740, q12_740), (741, q12_741), (742, q12_742), (743, q12_743), (744, q12_744), (745, q12_745), (746, q12_746), (747, q12_747), (748, q12_748), (749, q12_749), (750, q12_750), (751, q12_751), (752, q12_752), (753, q12_753), (754, q12_754), (755, q12_755), (756, q12_756), (757, q12_757), (758, q12_758), (759, q12_759), (760, q12_760), (761, q12_761), (762, q12_762), (763, q12_763), (764, q12_764), (765, q12_765), (766, q12_766), (767, q12_767), (768, q12_768), (769, q12_769), (770, q12_770), (771, q12_771), (772, q12_772), (773, q12_773), (774, q12_774), (775, q12_775), (776, q12_776), (777, q12_777), (778, q12_778), (779, q12_779), (780, q12_780), (781, q12_781), (782, q12_782), (783, q12_783), (784, q12_784), (785, q12_785), (786, q12_786), (787, q12_787), (788, q12_788), (789, q12_789), (790, q12_790), (791, q12_791), (792, q12_792), (793, q12_793), (794, q12_794), (795, q12_795), (796, q12_796), (797, q12_797), (798, q12_798), (799, q12_799), (800, q12_800), (801, q12_801), (802, q12_802), (803, q12_803), (804, q12_804), (805, q12_805), (806, q12_806), (807, q12_807), (808, q12_808), (809, q12_809), (810, q12_810), (811, q12_811), (812, q12_812), (813, q12_813), (814, q12_814), (815, q12_815), (816, q12_816), (817, q12_817), (818, q12_818), (819, q12_819), (820, q12_820), (821, q12_821), (822, q12_822), (823, q12_823), (824, q12_824), (825, q12_825), (826, q12_826), (827, q12_827), (828, q12_828), (829, q12_829), (830, q12_830), (831, q12_831), (832, q12_832), (833, q12_833), (834, q12_834), (835, q12_835), (836, q12_836), (837, q12_837), (838, q12_838), (839, q12_839), (840, q12_840), (841, q12_841), (842, q12_842), (843, q12_843), (844, q12_844), (845, q12_845), (846, q12_846), (847, q12_847), (848, q12_848), (849, q12_849), (850, q12_850), (851, q12_851), (852, q12_852), (853, q12_853), (854, q12_854), (855, q12_855), (856, q12_856 P), (857, q12_857), (858, q12_858), (859, q12_859), (860, q12_860), (861, q12_861)]
theorem qp12 (w : World) : (fun os => segRunT treeTable prg w 11 (some (.ref 6)) 1 739 (qsh (qt11 w.params) 735 1127 os) (piecesOf (qcut 34 1) qenv qB ⟨397, 0, 397, 7⟩ qF)) = fun os => some (.next, qsh (qt12 w.params) 862 1311 os, qB, ⟨398, 0, 520, 17⟩) := by
  rw [PySem.W.Fast.te10110043849684766642, PySem.W.Fast.te14364793385576792824]; kernel_rfl
noncomputable def q13_3 (P : Params) : Obj := qdict (qy "dict") [qe P "__name__" 165 (qs "minismt.rewrite" 1123), qe P "__doc__" 166 .none, qe P "__package__" 167 .none, qe P "__loader__" 168 (qb "__main__.__loader__#opaque"), qe P "__spec__" 169 .none, qe P "__annotations__" 170 (qr 6), qe P "__builtins__" 171 (qr 4), qe P "__file__" 173 (qs "/claim/cut.py" 172), qe P "__cached__" 174 .none, qe P "_wall" 193 (qr 21), qe P "SmtError" 233 (qr 47), qe P "SortFault" 256 (qr 67), qe P "LimitFault" 279 (qr 86), qe P "ModelFault" 302 (qr 105), qe P "gcd_of" 312 (qr 114), qe P "ratio" 321 (qr 121), qe P "mul" 329 (qr 128), qe P "is_whole" 336 (qr 135), qe P "mask_of" 345 (qr 142), qe P "signed_of" 353 (qr 149), qe P "one_value" 362 (qr 156), qe P "divided_value" 371 (qr 163), qe P "rest_value" 379 (qr 170), qe P "shifted_value" 389 (qr 177), qe P "two_value" 399 (qr 184), qe P "extract_value" 408 (qr 191), qe P "sign_extended" 417 (qr 198), qe P "BOOL" 419 (qi 0 418), qe P "INT" 421 (qi 1 420), qe P "REAL" 423 (qi 2 422), qe P "WIDEST" 425 (qi 4096 424), qe P "MOST_BITS" 429 (qi 65536 428), qe P "VALUE_OPS" 434 (qr 199), qe P "Bank" 712 (qr 412), qe P "BoolBank" 845 (qr 517), qe P "want_small" 852 (qr 526), qe P "NumberBank" 966 (qr 613), qe P "TermBank" 1122 (qr 732), qe P "DEEPEST" 1126 (qi 50 1125), qe P "BoolRewriter" 1310 (qr 857), qe P "BitsRewriter" 1580 (qr 1051)] 41
noncomputable def q13_12 : Obj := { cls := .none, data := Data.fields #[qi 1 0, qi 0 0, qr 20, qi 5 0, qi 0 0, qr 28, qi 13 0, qi 0 0, qr 56, qi 17 0, qi 0 0, qr 75, qi 21 0, qi 0 0, qr 94, qi 26 0, qi 0 0, qr 113, qi 31 0, qi 0 0, qr 120, qi 38 0, qi 0 0, qr 127, qi 42 0, qi 0 0, qr 134, qi 45 0, qi 0 0, qr 141, qi 47 0, qi 0 0, qr 148, qi 49 0, qi 0 0, qr 155, qi 55 0, qi 0 0, qr 162, qi 57 0, qi 0 0, qr 169, qi 59 0, qi 0 0, qr 176, qi 63 0, qi 0 0, qr 183, qi 83 0, qi 0 0, qr 190, qi 85 0, qi 0 0, qr 197, qi 93 0, qi 0 0, qr 205, qi 207 0, qi 0 0, qr 422, qi 271 0, qi 0 0, qr 525, qi 274 0, qi 0 0, qr 532, qi 324 0, qi 0 0, qr 622, qi 398 0, qi 0 0, qr 740, qi 521 0, qi 0 0, qr 868] }
noncomputable def q13_857 : Obj := { cls := qy "type", data := Data.cls { name := qS "BoolRewriter", bases := [qy "object"], mro := [qr 857, qy "object"], ns := 856, qualname := qS "BoolRewriter", subclasses := [qr 1051] }, slots := #[none, none, some (qs "BoolRewriter" 1127), some (qs "BoolRewriter" 1135), some (qb "object.__new__"), some (.bool true)] }
noncomputable def q13_862 : Obj := qtup [qr 857]
noncomputable def q13_863 : Obj := { cls := qy "builtin_function_or_method", data := Data.fields #[qb "type.__prepare__", qy "type"] }
noncomputable def q13_864 (P : Params) : Obj := qdict (qy "dict") [qe P "__module__" 1318 (qs "minismt.rewrite" 1123), qe P "__qualname__" 1320 (qs "BitsRewriter" 1319), qe P "__firstlineno__" 1322 (qi 521 1321), qe P "made" 1331 (qr 876), qe P "equal_others" 1343 (qr 885), qe P "are_too_many" 1351 (qr 892), qe P "is_bits" 1359 (qr 899), qe P "value_or" 1368 (qr 906), qe P "number" 1377 (qr 913), qe P "one_bits" 1386 (qr 920), qe P "two_bits" 1396 (qr 927), qe P "mixed_bits" 1406 (qr 934), qe P "is_turned" 1416 (qr 941), qe P "mixed_number" 1426 (qr 948), qe P "less_bits" 1435 (qr 955), qe P "shifted_bits" 1445 (qr 962), qe P "divided_bits" 1455 (qr 969), qe P "asked_bits" 1465 (qr 976), qe P "put_together" 1474 (qr 983), qe P "cut_out" 1484 (qr 990), qe P "cut_within" 1494 (qr 997), qe P "cut_here" 1504 (qr 1004), qe P "wider" 1513 (qr 1011), qe P "wider_signed" 1522 (qr 1018), qe P "equal_bits" 1533 (qr 1026), qe P "equal_number" 1557 (qr 1034), qe P "bit_of" 1566 (qr 1041), qe P "bit_within" 1575 (qr 1048), qe P "__static_attributes__" 1576 (qr 1049), qe P "__classcell__" 1577 (qr 865)] 30
noncomputable def q13_865 : Obj := { cls := qy "cell", data := Data.cell (some (qr 1051)) }
noncomputable def q13_866 : Obj := qtup []
noncomputable def q13_867 : Obj := { cls := .none, data := Data.fields #[qi 523 0, qi 4 0, qr 875, qi 526 0, qi 4 0, qr 884, qi 529 0, qi 4 0, qr 891, qi 532 0, qi 4 0, qr 898, qi 535 0, qi 4 0, qr 905, qi 538 0, qi 4 0, qr 912, qi 541 0, qi 4 0, qr 919, qi 544 0, qi 4 0, qr 926, qi 547 0, qi 4 0, qr 933, qi 550 0, qi 4 0, qr 940, qi 555 0, qi 4 0, qr 947, qi 558 0, qi 4 0, qr 954, qi 561 0, qi 4 0, qr 961, qi 564 0, qi 4 0, qr 968, qi 567 0, qi 4 0, qr 975, qi 570 0, qi 4 0, qr 982, qi 573 0, qi 4 0, qr 989, qi 576 0, qi 4 0, qr 996, qi 579 0, qi 4 0, qr 1003, qi 582 0, qi 4 0, qr 1010, qi 585 0, qi 4 0, qr 1017, qi 588 0, qi 4 0, qr 1025, qi 599 0, qi 4 0, qr 1033, qi 628 0, qi 4 0, qr 1040, qi 631 0, qi 4 0, qr 1047] }
noncomputable def q13_868 : Obj := qcode [qs "BitsRewriter" 1313, qs "BitsRewriter" 1314, qs "/claim/cut.py" 1315, qi 521 0, qi 0 0, qi 0 0, qi 0 0, qi 0 0, qr 866, .bool false, qi 181 0, qr 867, .none, .none, .none, .none, qi 1316 0, qi 521 0, qs "/claim/cut.py" 1317]
noncomputable def q13_869 : Obj := { cls := qy "frame", slots := #[some (qr 868), some (qr 3), some (qr 864), none, some (qs "minismt.rewrite" 1123), none, some (qr 0)] }
noncomputable def q13_870 : Obj := qtup []
noncomputable def q13_871 : Obj := { cls := .none, data := Data.fields #[] }
noncomputable def q13_872 : Obj := qtup [qs "self" 1326, qs "t" 1327, qs "args" 1328]
noncomputable def q13_873 : Obj := qtup []
noncomputable def q13_874 : Obj := qf0 (mth 35 0) "BitsRewriter.made"
noncomputable def q13_875 : Obj := qcode [qs "made" 1323, qs "BitsRewriter.made" 1324, qs "/claim/cut.py" 1325, qi 523 0, qi 3 0, qi 0 0, qi 0 0, qi 3 0, qr 870, .bool true, qi 181 0, qr 871, .none, qr 872, qr 873, qr 874, qi 1329 0, qi 523 0, qs "/claim/cut.py" 1330]
noncomputable def q13_876 : Obj := qfn (mth 35 0) "BitsRewriter.made" [] .none (qs "minismt.rewrite" 1123) (qr 875) .none
noncomputable def q13_877 : Obj := qtup [qi 0 1332]
noncomputable def q13_878 : Obj := qtup [qr 865]
noncomputable def q13_879 : Obj := qtup [qs "__class__" 1336]
noncomputable def q13_880 : Obj := { cls := .none, data := Data.fields #[] }
noncomputable def q13_881 : Obj := qtup [qs "self" 1337, qs "a" 1338, qs "b" 1339, qs "deep" 1340]
noncomputable def q13_882 : Obj := qtup []
noncomputable def q13_883 : Obj := qf0 (mth 35 1) "BitsRewriter.equal_others"
noncomputable def q13_884 : Obj := qcode [qs "equal_others" 1333, qs "BitsRewriter.equal_others" 1334, qs "/claim/cut.py" 1335, qi 526 0, qi 4 0, qi 0 0, qi 0 0, qi 3 0, qr 879, .bool true, qi 181 0, qr 880, .none, qr 881, qr 882, qr 883, qi 1341 0, qi 526 0, qs "/claim/cut.py" 1342]
noncomputable def q13_885 : Obj := qfn (mth 35 1) "BitsRewriter.equal_others" [(qS "__class__", 865)] (qr 877) (qs "minismt.rewrite" 1123) (qr 884) (qr 878)
noncomputable def q13_886 : Obj := qtup []
noncomputable def q13_887 : Obj := { cls := .none, data := Data.fields #[] }
noncomputable def q13_888 : Obj := qtup [qs "self" 1347, qs "args" 1348]
noncomputable def q13_889 : Obj := qtup []
noncomputable def q13_890 : Obj := qf0 (mth 35 2) "BitsRewriter.are_too_many"
noncomputable def q13_891 : Obj := qcode [qs "are_too_many" 1344, qs "BitsRewriter.are_too_many" 1345, qs "/claim/cut.py" 1346, qi 529 0, qi 2 0, qi 0 0, qi 0 0, qi 3 0, qr 886, .bool true, qi 181 0, qr 887, .none, qr 888, qr 889, qr 890, qi 1349 0, qi 529 0, qs "/claim/cut.py" 1350]
noncomputable def q13_892 : Obj := qfn (mth 35 2) "BitsRewriter.are_too_many" [] .none (qs "minismt.rewrite" 1123) (qr 891) .none
noncomputable def q13_893 : Obj := qtup []
noncomputable def q13_894 : Obj := { cls := .none, data := Data.fields #[] }
noncomputable def q13_895 : Obj := qtup [qs "self" 1355, qs "t" 1356]
noncomputable def q13_896 : Obj := qtup []
noncomputable def q13_897 : Obj := qf0 (mth 35 3) "BitsRewriter.is_bits"
noncomputable def q13_898 : Obj := qcode [qs "is_bits" 1352, qs "BitsRewriter.is_bits" 1353, qs "/claim/cut.py" 1354, qi 532 0, qi 2 0, qi 0 0, qi 0 0, qi 3 0, qr 893, .bool true, qi 181 0, qr 894, .none, qr 895, qr 896, qr 897, qi 1357 0, qi 532 0, qs "/claim/cut.py" 1358]
noncomputable def q13_899 : Obj := qfn (mth 35 3) "BitsRewriter.is_bits" [] .none (qs "minismt.rewrite" 1123) (qr 898) .none
noncomputable def q13_900 : Obj := qtup []
noncomputable def q13_901 : Obj := { cls := .none, data := Data.fields #[] }
noncomputable def q13_902 : Obj := qtup [qs "self" 1363, qs "t" 1364, qs "other" 1365]
noncomputable def q13_903 : Obj := qtup []
noncomputable def q13_904 : Obj := qf0 (mth 35 4) "BitsRewriter.value_or"
noncomputable def q13_905 : Obj := qcode [qs "value_or" 1360, qs "BitsRewriter.value_or" 1361, qs "/claim/cut.py" 1362, qi 535 0, qi 3 0, qi 0 0, qi 0 0, qi 3 0, qr 900, .bool true, qi 181 0, qr 901, .none, qr 902, qr 903, qr 904, qi 1366 0, qi 535 0, qs "/claim/cut.py" 1367]
noncomputable def q13_906 : Obj := qfn (mth 35 4) "BitsRewriter.value_or" [] .none (qs "minismt.rewrite" 1123) (qr 905) .none
noncomputable def q13_907 : Obj := qtup []
noncomputable def q13_908 : Obj := { cls := .none, data := Data.fields #[] }
noncomputable def q13_909 : Obj := qtup [qs "self" 1372, qs "value" 1373, qs "like" 1374]
noncomputable def q13_910 : Obj := qtup []
noncomputable def q13_911 : Obj := qf0 (mth 35 5) "BitsRewriter.number"
noncomputable def q13_912 : Obj := qcode [qs "number" 1369, qs "BitsRewriter.number" 1370, qs "/claim/cut.py" 1371, qi 538 0, qi 3 0, qi 0 0, qi 0 0, qi 3 0, qr 907, .bool true, qi 181 0, qr 908, .none, qr 909, qr 910, qr 911, qi 1375 0, qi 538 0, qs "/claim/cut.py" 1376]
noncomputable def q13_913 : Obj := qfn (mth 35 5) "BitsRewriter.number" [] .none (qs "minismt.rewrite" 1123) (qr 912) .none
noncomputable def q13_914 : Obj := qtup []
noncomputable def q13_915 : Obj := { cls := .none, data := Data.fields #[] }
noncomputable def q13_916 : Obj := qtup [qs "self" 1381, qs "op" 1382, qs "a" 1383]
noncomputable def q13_917 : Obj := qtup []
noncomputable def q13_918 : Obj := qf0 (mth 35 6) "BitsRewriter.one_bits"
noncomputable def q13_919 : Obj := qcode [qs "one_bits" 1378, qs "BitsRewriter.one_bits" 1379, qs "/claim/cut.py" 1380, qi 541 0, qi 3 0, qi 0 0, qi 0 0, qi 3 0, qr 914, .bool true, qi 181 0, qr 915, .none, qr 916, qr 917, qr 918, qi 1384 0, qi 541 0, qs "/claim/cut.py" 1385]
noncomputable def q13_920 : Obj := qfn (mth 35 6) "BitsRewriter.one_bits" [] .none (qs "minismt.rewrite" 1123) (qr 919) .none
noncomputable def q13_921 : Obj := qtup []
noncomputable def q13_922 : Obj := { cls := .none, data := Data.fields #[] }
noncomputable def q13_923 : Obj := qtup [qs "self" 1390, qs "op" 1391, qs "a" 1392, qs "b" 1393]
noncomputable def q13_924 : Obj := qtup []
noncomputable def q13_925 : Obj := qf0 (mth 35 7) "BitsRewriter.two_bits"
noncomputable def q13_926 : Obj := qcode [qs "two_bits" 1387, qs "BitsRewriter.two_bits" 1388, qs "/claim/cut.py" 1389, qi 544 0, qi 4 0, qi 0 0, qi 0 0, qi 3 0, qr 921, .bool true, qi 181 0, qr 922, .none, qr 923, qr 924, qr 925, qi 1394 0, qi 544 0, qs "/claim/cut.py" 1395]
noncomputable def q13_927 : Obj := qfn (mth 35 7) "BitsRewriter.two_bits" [] .none (qs "minismt.rewrite" 1123) (qr 926) .none
noncomputable def q13_928 : Obj := qtup []
noncomputable def q13_929 : Obj := { cls := .none, data := Data.fields #[] }
noncomputable def q13_930 : Obj := qtup [qs "self" 1400, qs "op" 1401, qs "a" 1402, qs "b" 1403]
noncomputable def q13_931 : Obj := qtup []
noncomputable def q13_932 : Obj := qf0 (mth 35 8) "BitsRewriter.mixed_bits"
noncomputable def q13_933 : Obj := qcode [qs "mixed_bits" 1397, qs "BitsRewriter.mixed_bits" 1398, qs "/claim/cut.py" 1399, qi 547 0, qi 4 0, qi 0 0, qi 0 0, qi 3 0, qr 928, .bool true, qi 181 0, qr 929, .none, qr 930, qr 931, qr 932, qi 1404 0, qi 547 0, qs "/claim/cut.py" 1405]
noncomputable def q13_934 : Obj := qfn (mth 35 8) "BitsRewriter.mixed_bits" [] .none (qs "minismt.rewrite" 1123) (qr 933) .none
noncomputable def q13_935 : Obj := qtup []
noncomputable def q13_936 : Obj := { cls := .none, data := Data.fields #[] }
noncomputable def q13_937 : Obj := qtup [qs "self" 1410, qs "op" 1411, qs "a" 1412, qs "b" 1413]
noncomputable def q13_938 : Obj := qtup []
noncomputable def q13_939 : Obj := qf0 (mth 35 9) "BitsRewriter.is_turned"
noncomputable def q13_940 : Obj := qcode [qs "is_turned" 1407, qs "BitsRewriter.is_turned" 1408, qs "/claim/cut.py" 1409, qi 550 0, qi 4 0, qi 0 0, qi 0 0, qi 3 0, qr 935, .bool true, qi 181 0, qr 936, .none, qr 937, qr 938, qr 939, qi 1414 0, qi 550 0, qs "/claim/cut.py" 1415]
noncomputable def q13_941 : Obj := qfn (mth 35 9) "BitsRewriter.is_turned" [] .none (qs "minismt.rewrite" 1123) (qr 940) .none
noncomputable def q13_942 : Obj := qtup []
noncomputable def q13_943 : Obj := { cls := .none, data := Data.fields #[] }
noncomputable def q13_944 : Obj := qtup [qs "self" 1420, qs "op" 1421, qs "value" 1422, qs "b" 1423]
noncomputable def q13_945 : Obj := qtup []
noncomputable def q13_946 : Obj := qf0 (mth 35 10) "BitsRewriter.mixed_number"
noncomputable def q13_947 : Obj := qcode [qs "mixed_number" 1417, qs "BitsRewriter.mixed_number" 1418, qs "/claim/cut.py" 1419, qi 555 0, qi 4 0, qi 0 0, qi 0 0, qi 3 0, qr 942, .bool true, qi 181 0, qr 943, .none, qr 944, qr 945, qr 946, qi 1424 0, qi 555 0, qs "/claim/cut.py" 1425]
noncomputable def q13_948 : Obj := qfn (mth 35 10) "BitsRewriter.mixed_number" [] .none (qs "minismt.rewrite" 1123) (qr 947) .none
noncomputable def q13_949 : Obj := qtup []
noncomputable def q13_950 : Obj := { cls := .none, data := Data.fields #[] }
noncomputable def q13_951 : Obj := qtup [qs "self" 1430, qs "a" 1431, qs "b" 1432]
noncomputable def q13_952 : Obj := qtup []
noncomputable def q13_953 : Obj := qf0 (mth 35 11) "BitsRewriter.less_bits"
noncomputable def q13_954 : Obj := qcode [qs "less_bits" 1427, qs "BitsRewriter.less_bits" 1428, qs "/claim/cut.py" 1429, qi 558 0, qi 3 0, qi 0 0, qi 0 0, qi 3 0, qr 949, .bool true, qi 181 0, qr 950, .none, qr 951, qr 952, qr 953, qi 1433 0, qi 558 0, qs "/claim/cut.py" 1434]
noncomputable def q13_955 : Obj := qfn (mth 35 11) "BitsRewriter.less_bits" [] .none (qs "minismt.rewrite" 1123) (qr 954) .none
noncomputable def q13_956 : Obj := qtup []
noncomputable def q13_957 : Obj := { cls := .none, data := Data.fields #[] }
noncomputable def q13_958 : Obj := qtup [qs "self" 1439, qs "op" 1440, qs "a" 1441, qs "b" 1442]
noncomputable def q13_959 : Obj := qtup []
noncomputable def q13_960 : Obj := qf0 (mth 35 12) "BitsRewriter.shifted_bits"
noncomputable def q13_961 : Obj := qcode [qs "shifted_bits" 1436, qs "BitsRewriter.shifted_bits" 1437, qs "/claim/cut.py" 1438, qi 561 0, qi 4 0, qi 0 0, qi 0 0, qi 3 0, qr 956, .bool true, qi 181 0, qr 957, .none, qr 958, qr 959, qr 960, qi 1443 0, qi 561 0, qs "/claim/cut.py" 1444]
noncomputable def q13_962 : Obj := qfn (mth 35 12) "BitsRewriter.shifted_bits" [] .none (qs "minismt.rewrite" 1123) (qr 961) .none
noncomputable def q13_963 : Obj := qtup []
noncomputable def q13_964 : Obj := { cls := .none, data := Data.fields #[] }
noncomputable def q13_965 : Obj := qtup [qs "self" 1449, qs "op" 1450, qs "a" 1451, qs "b" 1452]
noncomputable def q13_966 : Obj := qtup []
noncomputable def q13_967 : Obj := qf0 (mth 35 13) "BitsRewriter.divided_bits"
noncomputable def q13_968 : Obj := qcode [qs "divided_bits" 1446, qs "BitsRewriter.divided_bits" 1447, qs "/claim/cut.py" 1448, qi 564 0, qi 4 0, qi 0 0, qi 0 0, qi 3 0, qr 963, .bool true, qi 181 0, qr 964, .none, qr 965, qr 966, qr 967, qi 1453 0, qi 564 0, qs "/claim/cut.py" 1454]
noncomputable def q13_969 : Obj := qfn (mth 35 13) "BitsRewriter.divided_bits" [] .none (qs "minismt.rewrite" 1123) (qr 968) .none
noncomputable def q13_970 : Obj := qtup []
noncomputable def q13_971 : Obj := { cls := .none, data := Data.fields #[] }
noncomputable def q13_972 : Obj := qtup [qs "self" 1459, qs "op" 1460, qs "a" 1461, qs "b" 1462]
noncomputable def q13_973 : Obj := qtup []
noncomputable def q13_974 : Obj := qf0 (mth 35 14) "BitsRewriter.asked_bits"
noncomputable def q13_975 : Obj := qcode [qs "asked_bits" 1456, qs "BitsRewriter.asked_bits" 1457, qs "/claim/cut.py" 1458, qi 567 0, qi 4 0, qi 0 0, qi 0 0, qi 3 0, qr 970, .bool true, qi 181 0, qr 971, .none, qr 972, qr 973, qr 974, qi 1463 0, qi 567 0, qs "/claim/cut.py" 1464]
noncomputable def q13_976 : Obj := qfn (mth 35 14) "BitsRewriter.asked_bits" [] .none (qs "minismt.rewrite" 1123) (qr 975) .none
noncomputable def q13_977 : Obj := qtup []
noncomputable def q13_978 : Obj := { cls := .none, data := Data.fields #[] }
noncomputable def q13_979 : Obj := qtup [qs "self" 1469, qs "a" 1470, qs "b" 1471]
noncomputable def q13_980 : Obj := qtup []
noncomputable def q13_981 : Obj := qf0 (mth 35 15) "BitsRewriter.put_together"
noncomputable def q13_982 : Obj := qcode [qs "put_together" 1466, qs "BitsRewriter.put_together" 1467, qs "/claim/cut.py" 1468, qi 570 0, qi 3 0, qi 0 0, qi 0 0, qi 3 0, qr 977, .bool true, qi 181 0, qr 978, .none, qr 979, qr 980, qr 981, qi 1472 0, qi 570 0, qs "/claim/cut.py" 1473]
noncomputable def q13_983 : Obj := qfn (mth 35 15) "BitsRewriter.put_together" [] .none (qs "minismt.rewrite" 1123) (qr 982) .none
noncomputable def q13_984 : Obj := qtup []
noncomputable def q13_985 : Obj := { cls := .none, data := Data.fields #[] }
noncomputable def q13_986 : Obj := qtup [qs "self" 1478, qs "high" 1479, qs "low" 1480, qs "a" 1481]
noncomputable def q13_987 : Obj := qtup []
noncomputable def q13_988 : Obj := qf0 (mth 35 16) "BitsRewriter.cut_out"
noncomputable def q13_989 : Obj := qcode [qs "cut_out" 1475, qs "BitsRewriter.cut_out" 1476, qs "/claim/cut.py" 1477, qi 573 0, qi 4 0, qi 0 0, qi 0 0, qi 3 0, qr 984, .bool true, qi 181 0, qr 985, .none, qr 986, qr 987, qr 988, qi 1482 0, qi 573 0, qs "/claim/cut.py" 1483]
noncomputable def q13_990 : Obj := qfn (mth 35 16) "BitsRewriter.cut_out" [] .none (qs "minismt.rewrite" 1123) (qr 989) .none
noncomputable def q13_991 : Obj := qtup []
noncomputable def q13_992 : Obj := { cls := .none, data := Data.fields #[] }
noncomputable def q13_993 : Obj := qtup [qs "self" 1488, qs "high" 1489, qs "low" 1490, qs "a" 1491]
noncomputable def q13_994 : Obj := qtup []
noncomputable def q13_995 : Obj := qf0 (mth 35 17) "BitsRewriter.cut_within"
noncomputable def q13_996 : Obj := qcode [qs "cut_within" 1485, qs "BitsRewriter.cut_within" 1486, qs "/claim/cut.py" 1487, qi 576 0, qi 4 0, qi 0 0, qi 0 0, qi 3 0, qr 991, .bool true, qi 181 0, qr 992, .none, qr 993, qr 994, qr 995, qi 1492 0, qi 576 0, qs "/claim/cut.py" 1493]
noncomputable def q13_997 : Obj := qfn (mth 35 17) "BitsRewriter.cut_within" [] .none (qs "minismt.rewrite" 1123) (qr 996) .none
noncomputable def q13_998 : Obj := qtup []
noncomputable def q13_999 : Obj := { cls := .none, data := Data.fields #[] }
noncomputable def q13_1000 : Obj := qtup [qs "self" 1498, qs "high" 1499, qs "low" 1500, qs "a" 1501]
noncomputable def q13_1001 : Obj := qtup []
noncomputable def q13_1002 : Obj := qf0 (mth 35 18) "BitsRewriter.cut_here"
noncomputable def q13_1003 : Obj := qcode [qs "cut_here" 1495, qs "BitsRewriter.cut_here" 1496, qs "/claim/cut.py" 1497, qi 579 0, qi 4 0, qi 0 0, qi 0 0, qi 3 0, qr 998, .bool true, qi 181 0, qr 999, .none, qr 1000, qr 1001, qr 1002, qi 1502 0, qi 579 0, qs "/claim/cut.py" 1503]
noncomputable def q13_1004 : Obj := qfn (mth 35 18) "BitsRewriter.cut_here" [] .none (qs "minismt.rewrite" 1123) (qr 1003) .none
noncomputable def q13_1005 : Obj := qtup []
noncomputable def q13_1006 : Obj := { cls := .none, data := Data.fields #[] }
noncomputable def q13_1007 : Obj := qtup [qs "self" 1508, qs "many" 1509, qs "a" 1510]
noncomputable def q13_1008 : Obj := qtup []
noncomputable def q13_1009 : Obj := qf0 (mth 35 19) "BitsRewriter.wider"
noncomputable def q13_1010 : Obj := qcode [qs "wider" 1505, qs "BitsRewriter.wider" 1506, qs "/claim/cut.py" 1507, qi 582 0, qi 3 0, qi 0 0, qi 0 0, qi 3 0, qr 1005, .bool true, qi 181 0, qr 1006, .none, qr 1007, qr 1008, qr 1009, qi 1511 0, qi 582 0, qs "/claim/cut.py" 1512]
noncomputable def q13_1011 : Obj := qfn (mth 35 19) "BitsRewriter.wider" [] .none (qs "minismt.rewrite" 1123) (qr 1010) .none
noncomputable def q13_1012 : Obj := qtup []
noncomputable def q13_1013 : Obj := { cls := .none, data := Data.fields #[] }
noncomputable def q13_1014 : Obj := qtup [qs "self" 1517, qs "many" 1518, qs "a" 1519]
noncomputable def q13_1015 : Obj := qtup []
noncomputable def q13_1016 : Obj := qf0 (mth 35 20) "BitsRewriter.wider_signed"
noncomputable def q13_1017 : Obj := qcode [qs "wider_signed" 1514, qs "BitsRewriter.wider_signed" 1515, qs "/claim/cut.py" 1516, qi 585 0, qi 3 0, qi 0 0, qi 0 0, qi 3 0, qr 1012, .bool true, qi 181 0, qr 1013, .none, qr 1014, qr 1015, qr 1016, qi 1520 0, qi 585 0, qs "/claim/cut.py" 1521]
noncomputable def q13_1018 : Obj := qfn (mth 35 20) "BitsRewriter.wider_signed" [] .none (qs "minismt.rewrite" 1123) (qr 1017) .none
noncomputable def q13_1019 : Obj := qtup [qi 0 1523]
noncomputable def q13_1020 : Obj := qtup []
noncomputable def q13_1021 : Obj := { cls := .none, data := Data.fields #[] }
noncomputable def q13_1022 : Obj := qtup [qs "self" 1527, qs "a" 1528, qs "b" 1529, qs "deep" 1530]
noncomputable def q13_1023 : Obj := qtup []
noncomputable def q13_1024 : Obj := qf0 (mth 35 21) "BitsRewriter.equal_bits"
noncomputable def q13_1025 : Obj := qcode [qs "equal_bits" 1524, qs "BitsRewriter.equal_bits" 1525, qs "/claim/cut.py" 1526, qi 588 0, qi 4 0, qi 0 0, qi 0 0, qi 3 0, qr 1020, .bool true, qi 181 0, qr 1021, .none, qr 1022, qr 1023, qr 1024, qi 1531 0, qi 588 0, qs "/claim/cut.py" 1532]
noncomputable def q13_1026 : Obj := qfn (mth 35 21) "BitsRewriter.equal_bits" [] (qr 1019) (qs "minismt.rewrite" 1123) (qr 1025) .none
noncomputable def q13_1027 : Obj := qtup [qi 0 1534]
noncomputable def q13_1028 : Obj := qtup []
noncomputable def q13_1029 : Obj := { cls := .none, data := Data.fields #[] }
noncomputable def q13_1030 : Obj := qtup [qs "self" 1538, qs "value" 1539, qs "b" 1540, qs "deep" 1541, qs "kind" 1542, qs "args" 1543, qs "width" 1544, qs "back" 1545, qs "seam" 1546, qs "high" 1547, qs "low" 1548, qs "both" 1549, qs "part" 1550, qs "wanted" 1551, qs "known" 1552, qs "inner" 1553, qs "is_right" 1554]
noncomputable def q13_1031 : Obj := qtup []
noncomputable def q13_1032 : Obj := qf0 (mth 35 22) "BitsRewriter.equal_number"
noncomputable def q13_1033 : Obj := qcode [qs "equal_number" 1535, qs "BitsRewriter.equal_number" 1536, qs "/claim/cut.py" 1537, qi 599 0, qi 4 0, qi 0 0, qi 0 0, qi 3 0, qr 1028, .bool true, qi 181 0, qr 1029, .none, qr 1030, qr 1031, qr 1032, qi 1555 0, qi 599 0, qs "/claim/cut.py" 1556]
noncomputable def q13_1034 : Obj := qfn (mth 35 22) "BitsRewriter.equal_number" [] (qr 1027) (qs "minismt.rewrite" 1123) (qr 1033) .none
noncomputable def q13_1035 : Obj := qtup []
noncomputable def q13_1036 : Obj := { cls := .none, data := Data.fields #[] }
noncomputable def q13_1037 : Obj := qtup [qs "self" 1561, qs "i" 1562, qs "a" 1563]
noncomputable def q13_1038 : Obj := qtup []
noncomputable def q13_1039 : Obj := qf0 (mth 35 23) "BitsRewriter.bit_of"
noncomputable def q13_1040 : Obj := qcode [qs "bit_of" 1558, qs "BitsRewriter.bit_of" 1559, qs "/claim/cut.py" 1560, qi 628 0, qi 3 0, qi 0 0, qi 0 0, qi 3 0, qr 1035, .bool true, qi 181 0, qr 1036, .none, qr 1037, qr 1038, qr 1039, qi 1564 0, qi 628 0, qs "/claim/cut.py" 1565]
noncomputable def q13_1041 : Obj := qfn (mth 35 23) "BitsRewriter.bit_of" [] .none (qs "minismt.rewrite" 1123) (qr 1040) .none
noncomputable def q13_1042 : Obj := qtup []
noncomputable def q13_1043 : Obj := { cls := .none, data := Data.fields #[] }
noncomputable def q13_1044 : Obj := qtup [qs "self" 1570, qs "i" 1571, qs "a" 1572]
noncomputable def q13_1045 : Obj := qtup []
noncomputable def q13_1046 : Obj := qf0 (mth 35 24) "BitsRewriter.bit_within"
noncomputable def q13_1047 : Obj := qcode [qs "bit_within" 1567, qs "BitsRewriter.bit_within" 1568, qs "/claim/cut.py" 1569, qi 631 0, qi 3 0, qi 0 0, qi 0 0, qi 3 0, qr 1042, .bool true, qi 181 0, qr 1043, .none, qr 1044, qr 1045, qr 1046, qi 1573 0, qi 631 0, qs "/claim/cut.py" 1574]
noncomputable def q13_1048 : Obj := qfn (mth 35 24) "BitsRewriter.bit_within" [] .none (qs "minismt.rewrite" 1123) (qr 1047) .none
noncomputable def q13_1049 : Obj := qtup []
noncomputable def q13_1050 (P : Params) : Obj := qdict (qy "dict") [qe P "__module__" 1318 (qs "minismt.rewrite" 1123), qe P "__firstlineno__" 1322 (qi 521 1321), qe P "made" 1331 (qr 876), qe P "equal_others" 1343 (qr 885), qe P "are_too_many" 1351 (qr 892), qe P "is_bits" 1359 (qr 899), qe P "value_or" 1368 (qr 906), qe P "number" 1377 (qr 913), qe P "one_bits" 1386 (qr 920), qe P "two_bits" 1396 (qr 927), qe P "mixed_bits" 1406 (qr 934), qe P "is_turned" 1416 (qr 941), qe P "mixed_number" 1426 (qr 948), qe P "less_bits" 1435 (qr 955), qe P "shifted_bits" 1445 (qr 962), qe P "divided_bits" 1455 (qr 969), qe P "asked_bits" 1465 (qr 976), qe P "put_together" 1474 (qr 983), qe P "cut_out" 1484 (qr 990), qe P "cut_within" 1494 (qr 997), qe P "cut_here" 1504 (qr 1004), qe P "wider" 1513 (qr 1011), qe P "wider_signed" 1522 (qr 1018), qe P "equal_bits" 1533 (qr 1026), qe P "equal_number" 1557 (qr 1034), qe P "bit_of" 1566 (qr 1041), qe P "bit_within" 1575 (qr 1048), qe P "__static_attributes__" 1576 (qr 1049), qe P "__doc__" 1578 .none] 3
noncomputable def q13_1051 : Obj := { cls := qy "type", data := Data.cls { name := qS "BitsRewriter", bases := [qr 857], mro := [qr 1051, qr 857, qy "object"], ns := 1050, qualname := qS "BitsRewriter" }, slots := #[some (qr 862), none, some (qs "BitsRewriter" 1311), some (qs "BitsRewriter" 1319), some (qb "object.__new__"), some (.bool true)] }
noncomputable def q13_1052 : Obj := { cls := qy "super", data := Data.fields #[qr 1051, qr 1051, qr 1051] }
noncomputable def q13_1053 : Obj := { cls := qy "builtin_function_or_method", data := Data.fields #[qb "object.__init_subclass__", qr 1051] }
noncomputable def qt13 (P : Params) : BT := qins (qt12 P) [(3, q13_3 P), (12, q13_12), (857, q13_857), (862, q13_862), (863, q13_863), (864, q13_864 P), (865, q13_865), (866, q13_866), (867, q13_867), (868, q13_868), (869, q13_869), (870, q13_870), (871, q13_871), (872, q13_872), (873, q13_873), (874, q13_874), (875, q13_875), (876, q13_876), (877, q13_877), (878, q13_878), (879, q13_879), (880, q13_880), (881, q13_881), (882, q13_882), (883, q13_883), (884, q13_884), (885, q13_885), (886, q13_886), (887, q13_887), (888, q13_888), (889, q13_889), (890, q13_890), (891, q13_891), (892, q13_892), (893, q13_893), (894, q13_894), (895, q13_895), (896, q13_896), (897, q13_897), (898, q13_898), (899, q13_899), (900, q13_900), (901, q13_901), (902, q13_902), (903, q13_903), (904, q13_904), (905, q13_905), (906, q13_906), (907, q13_907), (908, q13_908), (909, q13_909), (910, q13_910), (911, q13_911), (912, q13_912), (913, q13_913), (914, q13_914), (915, q13_915), (916, q13_916), (917, q13_917), (918, q13_918), (919, q13_919), (920, q13_920), (921, q13_921), (922, q13_922), (923, q13_923), (924, q13_924), (925, q13_925), (926, q13_926), (927, q13_927), (928, q13_928), (929, q13_929), (930, q13_930), (931, q13_931), (932, q13_932), (933, q13_933), (934, q13_934), (935, q13_935), (936, q13_936), (937, q13_937), (938, q13_938), (939, q13_939), (940, q13_940), (941, q13_941), (942, q13_942), (943, q13_943), (944, q13_944), (945, q13_945), (946, q13_946), (947, q13_947), (948, q13_948), (949, q13_949), (950, q13_950), (951, q13_951), (952, q13_952), (953, q13_953), (954, q13_954), (955, q13_955), (956, q13_956), (957, q13_957), (958, q13_958), (959, q13_959), (960, q13_960), (961, q13_961), (962, q13_962), (963, q13_963), (964, q13_964), (965, q13_965), (966, q13_966), (967, q13_967), (968, q13_968), (969, q13_969), (970, q13_970), (971, q13_971), (972, q13_972), (973, q13_973), (974, q13_974), (975, q13_975), (976, q13_976), (977, q13_977), (978, q13_978), (979, q13_979), (980, q13_980), (981, q13_981), (982, q13_982), (983, q13_983), (984, q13_984), (985, q13_985), (986, q13_986), (987, q13_987), (988, q13_988), (989, q13_989), (990, q13_990), (991, q13_991), (992, q13_992), (993, q13_993), (994, q13_994), (995, q13_995), (996, q13_996), (997, q13_997), (998, q13_998), (999, q13_999), (1000, q13_1000), (1001, q13_1001), (1002, q13_1002), (1003, q13_1003), (1004, q13_1004), (1005, q13_1005), (1006, q13_1006), (1007, q13_1007), (1008, q13_1008), (1009, q13_1009), (1010, q13_1010), (1011, q13_1011), (1012, q13_1012), (1013, q13_1013), (1014, q13_1014), (1015, q13_1015), (1016, q13_1016), (1017, q13_1017), (1018, q13_1018), (1019, q13_1019), (1020, q13_1020), (1021, q13_1021), (1022, q13_1022), (1023, q13_1023), (1024, q13_1024), (1025, q13_1025), (1026, q13_1026), (1027, q13_1027), (1028, q13_1028), (1029, q13_1029), (1030, q13_1030), (1031, q13_1031), (1032, q13_1032), (1033, q13_1033), (1034, q13_1034), (1035, q13_1035), (1036, q13_1036), (1037, q13_1037), (1038, q13_1038), (1039, q13_1039), (1040, q13_1040), (1041, q13_1041), (1042, q13_1042), (1043, q13_1043), (1044, q13_1044), (1045, q13_1045), (1046, q13_1046), (1047, q13_1047), (1048, q13_1048), (1049, q13_1049), (1050, q13_1050 P), (1051, q13_1051), (1052, q13_1052), (1053, q13_1053)]
theorem qp13 (w : World) : (fun os => segRunT treeTable prg w 11 (some (.ref 6)) 1 1084 (qsh (qt12 w.params) 862 1311 os) (piecesOf (qcut 35 1) qenv qB ⟨398, 0, 520, 17⟩ qF)) = fun os => some (.next, qsh (qt13 w.params) 1054 1581 os, qB, ⟨521, 0, 632, 17⟩) := by
  rw [PySem.W.Fast.te10110043849684766642, PySem.W.Fast.te14364793385576792824]; kernel_rfl
noncomputable def q14_3 (P : Params) : Obj := qdict (qy "dict") [qe P "__name__" 165 (qs "law_sj0105_02" 1581), qe P "__doc__" 166 .none, qe P "__package__" 167 .none, qe P "__loader__" 168 (qb "__main__.__loader__#opaque"), qe P "__spec__" 169 .none, qe P "__annotations__" 170 (qr 6), qe P "__builtins__" 171 (qr 4), qe P "__file__" 173 (qs "/claim/cut.py" 172), qe P "__cached__" 174 .none, qe P "_wall" 193 (qr 21), qe P "SmtError" 233 (qr 47), qe P "SortFault" 256 (qr 67), qe P "LimitFault" 279 (qr 86), qe P "ModelFault" 302 (qr 105), qe P "gcd_of" 312 (qr 114), qe P "ratio" 321 (qr 121), qe P "mul" 329 (qr 128), qe P "is_whole" 336 (qr 135), qe P "mask_of" 345 (qr 142), qe P "signed_of" 353 (qr 149), qe P "one_value" 362 (qr 156), qe P "divided_value" 371 (qr 163), qe P "rest_value" 379 (qr 170), qe P "shifted_value" 389 (qr 177), qe P "two_value" 399 (qr 184), qe P "extract_value" 408 (qr 191), qe P "sign_extended" 417 (qr 198), qe P "BOOL" 419 (qi 0 418), qe P "INT" 421 (qi 1 420), qe P "REAL" 423 (qi 2 422), qe P "WIDEST" 425 (qi 4096 424), qe P "MOST_BITS" 429 (qi 65536 428), qe P "VALUE_OPS" 434 (qr 199), qe P "Bank" 712 (qr 412), qe P "BoolBank" 845 (qr 517), qe P "want_small" 852 (qr 526), qe P "NumberBank" 966 (qr 613), qe P "TermBank" 1122 (qr 732), qe P "DEEPEST" 1126 (qi 50 1125), qe P "BoolRewriter" 1310 (qr 857), qe P "BitsRewriter" 1580 (qr 1051), qe P "_law_draw" 1592 (qr 1060), qe P "_law_turns" 1604 (qr 1067), qe P "_law_turn" 1614 (qr 1074), qe P "_law_values" 1620 (qr 1079), qe P "_law_joined" 1626 (qr 1084), qe P "_law_truths" 1632 (qr 1089), qe P "law" 1638 (qr 1094)] 48
noncomputable def q14_12 : Obj := { cls := .none, data := Data.fields #[qi 1 0, qi 0 0, qr 20, qi 5 0, qi 0 0, qr 28, qi 13 0, qi 0 0, qr 56, qi 17 0, qi 0 0, qr 75, qi 21 0, qi 0 0, qr 94, qi 26 0, qi 0 0, qr 113, qi 31 0, qi 0 0, qr 120, qi 38 0, qi 0 0, qr 127, qi 42 0, qi 0 0, qr 134, qi 45 0, qi 0 0, qr 141, qi 47 0, qi 0 0, qr 148, qi 49 0, qi 0 0, qr 155, qi 55 0, qi 0 0, qr 162, qi 57 0, qi 0 0, qr 169, qi 59 0, qi 0 0, qr 176, qi 63 0, qi 0 0, qr 183, qi 83 0, qi 0 0, qr 190, qi 85 0, qi 0 0, qr 197, qi 93 0, qi 0 0, qr 205, qi 207 0, qi 0 0, qr 422, qi 271 0, qi 0 0, qr 525, qi 274 0, qi 0 0, qr 532, qi 324 0, qi 0 0, qr 622, qi 398 0, qi 0 0, qr 740, qi 521 0, qi 0 0, qr 868, qi 634 0, qi 0 0, qr 1059, qi 638 0, qi 0 0, qr 1066, qi 653 0, qi 0 0, qr 1073, qi 661 0, qi 0 0, qr 1078, qi 673 0, qi 0 0, qr 1083, qi 683 0, qi 0 0, qr 1088, qi 696 0, qi 0 0, qr 1093] }
noncomputable def q14_1054 : Obj := qtup []
noncomputable def q14_1055 : Obj := { cls := .none, data := Data.fields #[] }
noncomputable def q14_1056 : Obj := qtup [qs "feed" 1586, qs "many" 1587, qs "cells" 1588, qs "spot" 1589]
noncomputable def q14_1057 : Obj := qtup []
noncomputable def q14_1058 : Obj := qf0 (nthS top 37) "_law_draw"
noncomputable def q14_1059 : Obj := qcode [qs "_law_draw" 1583, qs "_law_draw" 1584, qs "/claim/cut.py" 1585, qi 634 0, qi 2 0, qi 0 0, qi 0 0, qi 3 0, qr 1054, .bool true, qi 181 0, qr 1055, .none, qr 1056, qr 1057, qr 1058, qi 1590 0, qi 634 0, qs "/claim/cut.py" 1591]
noncomputable def q14_1060 : Obj := qfn (nthS top 37) "_law_draw" [] .none (qs "law_sj0105_02" 1581) (qr 1059) .none
noncomputable def q14_1061 : Obj := qtup []
noncomputable def q14_1062 : Obj := { cls := .none, data := Data.fields #[] }
noncomputable def q14_1063 : Obj := qtup [qs "feed" 1596, qs "full" 1597, qs "kinds" 1598, qs "lap" 1599, qs "found" 1600, qs "kind" 1601]
noncomputable def q14_1064 : Obj := qtup []
noncomputable def q14_1065 : Obj := qf0 (nthS top 38) "_law_turns"
noncomputable def q14_1066 : Obj := qcode [qs "_law_turns" 1593, qs "_law_turns" 1594, qs "/claim/cut.py" 1595, qi 638 0, qi 2 0, qi 0 0, qi 0 0, qi 3 0, qr 1061, .bool true, qi 181 0, qr 1062, .none, qr 1063, qr 1064, qr 1065, qi 1602 0, qi 638 0, qs "/claim/cut.py" 1603]
noncomputable def q14_1067 : Obj := qfn (nthS top 38) "_law_turns" [] .none (qs "law_sj0105_02" 1581) (qr 1066) .none
noncomputable def q14_1068 : Obj := qtup []
noncomputable def q14_1069 : Obj := { cls := .none, data := Data.fields #[] }
noncomputable def q14_1070 : Obj := qtup [qs "op" 1608, qs "number" 1609, qs "here" 1610, qs "full" 1611]
noncomputable def q14_1071 : Obj := qtup []
noncomputable def q14_1072 : Obj := qf0 (nthS top 39) "_law_turn"
noncomputable def q14_1073 : Obj := qcode [qs "_law_turn" 1605, qs "_law_turn" 1606, qs "/claim/cut.py" 1607, qi 653 0, qi 4 0, qi 0 0, qi 0 0, qi 3 0, qr 1068, .bool true, qi 181 0, qr 1069, .none, qr 1070, qr 1071, qr 1072, qi 1612 0, qi 653 0, qs "/claim/cut.py" 1613]
noncomputable def q14_1074 : Obj := qfn (nthS top 39) "_law_turn" [] .none (qs "law_sj0105_02" 1581) (qr 1073) .none
noncomputable def q14_1075 : Obj := qtup []
noncomputable def q14_1076 : Obj := { cls := .none, data := Data.fields #[] }
noncomputable def q14_1077 : Obj := qf0 (nthS top 40) "_law_values"
noncomputable def q14_1078 : Obj := qcode [qs "_law_values" 1615, qs "_law_values" 1616, qs "/claim/cut.py" 1617, qi 661 0, qi 3 0, qi 0 0, qi 0 0, qi 3 0, qr 1075, .bool true, qi 181 0, qr 1076, .none, .none, .none, qr 1077, qi 1618 0, qi 661 0, qs "/claim/cut.py" 1619]
noncomputable def q14_1079 : Obj := qfn (nthS top 40) "_law_values" [] .none (qs "law_sj0105_02" 1581) (qr 1078) .none
noncomputable def q14_1080 : Obj := qtup []
noncomputable def q14_1081 : Obj := { cls := .none, data := Data.fields #[] }
noncomputable def q14_1082 : Obj := qf0 (nthS top 41) "_law_joined"
noncomputable def q14_1083 : Obj := qcode [qs "_law_joined" 1621, qs "_law_joined" 1622, qs "/claim/cut.py" 1623, qi 673 0, qi 4 0, qi 0 0, qi 0 0, qi 3 0, qr 1080, .bool true, qi 181 0, qr 1081, .none, .none, .none, qr 1082, qi 1624 0, qi 673 0, qs "/claim/cut.py" 1625]
noncomputable def q14_1084 : Obj := qfn (nthS top 41) "_law_joined" [] .none (qs "law_sj0105_02" 1581) (qr 1083) .none
noncomputable def q14_1085 : Obj := qtup []
noncomputable def q14_1086 : Obj := { cls := .none, data := Data.fields #[] }
noncomputable def q14_1087 : Obj := qf0 (nthS top 42) "_law_truths"
noncomputable def q14_1088 : Obj := qcode [qs "_law_truths" 1627, qs "_law_truths" 1628, qs "/claim/cut.py" 1629, qi 683 0, qi 5 0, qi 0 0, qi 0 0, qi 3 0, qr 1085, .bool true, qi 181 0, qr 1086, .none, .none, .none, qr 1087, qi 1630 0, qi 683 0, qs "/claim/cut.py" 1631]
noncomputable def q14_1089 : Obj := qfn (nthS top 42) "_law_truths" [] .none (qs "law_sj0105_02" 1581) (qr 1088) .none
noncomputable def q14_1090 : Obj := qtup []
noncomputable def q14_1091 : Obj := { cls := .none, data := Data.fields #[] }
noncomputable def q14_1092 : Obj := qf0 (nthS top 43) "law"
noncomputable def q14_1093 : Obj := qcode [qs "law" 1633, qs "law" 1634, qs "/claim/cut.py" 1635, qi 696 0, qi 1 0, qi 0 0, qi 0 0, qi 3 0, qr 1090, .bool true, qi 181 0, qr 1091, .none, .none, .none, qr 1092, qi 1636 0, qi 696 0, qs "/claim/cut.py" 1637]
noncomputable def q14_1094 : Obj := qfn (nthS top 43) "law" [] .none (qs "law_sj0105_02" 1581) (qr 1093) .none
noncomputable def qt14 (P : Params) : BT := qins (qt13 P) [(3, q14_3 P), (12, q14_12), (1054, q14_1054), (1055, q14_1055), (1056, q14_1056), (1057, q14_1057), (1058, q14_1058), (1059, q14_1059), (1060, q14_1060), (1061, q14_1061), (1062, q14_1062), (1063, q14_1063), (1064, q14_1064), (1065, q14_1065), (1066, q14_1066), (1067, q14_1067), (1068, q14_1068), (1069, q14_1069), (1070, q14_1070), (1071, q14_1071), (1072, q14_1072), (1073, q14_1073), (1074, q14_1074), (1075, q14_1075), (1076, q14_1076), (1077, q14_1077), (1078, q14_1078), (1079, q14_1079), (1080, q14_1080), (1081, q14_1081), (1082, q14_1082), (1083, q14_1083), (1084, q14_1084), (1085, q14_1085), (1086, q14_1086), (1087, q14_1087), (1088, q14_1088), (1089, q14_1089), (1090, q14_1090), (1091, q14_1091), (1092, q14_1092), (1093, q14_1093), (1094, q14_1094)]
theorem qp14 (w : World) : (fun os => segRunT treeTable prg w 11 (some (.ref 6)) 1 212 (qsh (qt13 w.params) 1054 1581 os) (piecesOf (qcut 36 8) qenv qB ⟨521, 0, 632, 17⟩ qF)) = fun os => some (.next, qsh (qt14 w.params) 1095 1639 os, qB, ⟨696, 0, 717, 15⟩) := by
  rw [PySem.W.Fast.te10110043849684766642, PySem.W.Fast.te14364793385576792824]; kernel_rfl
noncomputable def qH (P : Params) : Heap := absHeap (qt14 P) 1095 {}
noncomputable abbrev qZ (w : World) (os : OsState) : Shared := { heap := qH w.params, gens := { toList := [] }, drawn := { }, toks := 1639, os := os }
noncomputable def qK (P : Params) : Frag := [(2, q1_2 P), (3, q14_3 P), (141, q5_141), (142, q5_142), (155, q5_155), (156, q5_156), (183, q5_183), (184, q5_184), (212, q6_212), (213, q6_213), (254, q6_254), (255, q6_255), (268, q6_268), (269, q6_269), (303, q6_303), (304, q6_304), (310, q6_310), (311, q6_311), (324, q6_324), (325, q6_325), (331, q6_331), (332, q6_332), (345, q6_345), (346, q6_346), (366, q6_366), (367, q6_367), (380, q6_380), (381, q6_381), (387, q6_387), (388, q6_388), (411, q6_411 P), (412, q7_412), (471, q7_471), (472, q7_472), (516, q7_516 P), (517, q9_517), (612, q9_612 P), (613, q10_613), (619, q10_619), (630, q10_630), (631, q10_631), (637, q10_637), (638, q10_638), (658, q10_658), (659, q10_659), (731, q10_731 P), (732, q10_732), (747, q12_747), (748, q12_748), (856, q12_856 P), (857, q13_857), (898, q13_898), (899, q13_899), (912, q13_912), (913, q13_913), (1027, q13_1027), (1033, q13_1033), (1034, q13_1034), (1050, q13_1050 P), (1051, q13_1051), (1059, q14_1059), (1060, q14_1060), (1066, q14_1066), (1067, q14_1067), (1073, q14_1073), (1074, q14_1074), (1078, q14_1078), (1079, q14_1079), (1083, q14_1083), (1084, q14_1084), (1088, q14_1088), (1089, q14_1089), (1093, q14_1093), (1094, q14_1094)]
noncomputable def qas : List Addr := [2, 3, 141, 142, 155, 156, 183, 184, 212, 213, 254, 255, 268, 269, 303, 304, 310, 311, 324, 325, 331, 332, 345, 346, 366, 367, 380, 381, 387, 388, 411, 412, 471, 472, 516, 517, 612, 613, 619, 630, 631, 637, 638, 658, 659, 731, 732, 747, 748, 856, 857, 898, 899, 912, 913, 1027, 1033, 1034, 1050, 1051, 1059, 1060, 1066, 1067, 1073, 1074, 1078, 1079, 1083, 1084, 1088, 1089, 1093, 1094]
theorem qase : ∀ P, qas = (qK P).map (·.1) := fun _ => by kernel_rfl
noncomputable abbrev qhook : Hook := kHook qK qas qase
noncomputable abbrev qS0 (w : World) (os : OsState) : Shared := { heap := boot_heap w.params, gens := Array.mk [], drawn := boot_drawn, toks := boot_toks, os := os }
theorem qpre (w : World) : (fun os => topGo treeTable prg w 11 (some (.ref 6)) 12 (qS0 w os) (topStub prg)) = fun os => some ((qsh (qt0 w.params) 15 187 os).abs, { cur := denote treeTable qB, code := qB, pos := ⟨0, 0, 0, 0⟩, stack := qF }) := by
  rw [PySem.W.Fast.te15667345088766844465, PySem.W.Fast.te14364793385576792824, PySem.W.Fast.te11892475500146522536]; kernel_rfl
theorem qblk (w : World) : (fun os => segRun treeTable prg w 11 (some (.ref 6)) 1 1 (qsh (qt0 w.params) 15 187 os).abs (blockOf (behindTheImports prg) qenv qB ⟨0, 0, 0, 0⟩ qF)) = fun os => some (.next, (qsh (qt0 w.params) 15 187 os).abs, qB, ⟨0, 0, 0, 0⟩) := by
  rw [PySem.W.Fast.te14374325043358763698, PySem.W.Fast.te14364793385576792824]; kernel_rfl
theorem qend (w : World) : (fun os => topRun treeTable prg w 11 (some (.ref 6)) 2 (qsh (qt14 w.params) 1095 1639 os).abs { cur := doneF .next, code := qB, pos := ⟨696, 0, 717, 15⟩, stack := qF }) = fun os => some (qZ w os) := by
  rw [PySem.W.Fast.te14082659384304107361, PySem.W.Fast.te14364793385576792824]; kernel_rfl
theorem qbody : behindTheImports prg = qcut 0 3 ++ (qcut 3 1 ++ (qcut 4 1 ++ (qcut 5 7 ++ (qcut 12 15 ++ (qcut 27 1 ++ (qcut 28 1 ++ (qcut 29 1 ++ (qcut 30 1 ++ (qcut 31 1 ++ (qcut 32 2 ++ (qcut 34 1 ++ (qcut 35 1 ++ (qcut 36 8 ++ ([])))))))))))))) := by kernel_rfl
theorem qrun (w : World) (os : OsState) : topRun treeTable prg w 11 (some (.ref 6)) (12 + (1 + (314 + (244 + (244 + (382 + (343 + (1144 + (642 + (30 + (589 + (755 + (19 + (739 + (1084 + (212 + 2)))))))))))))))) (qS0 w os) (topStub prg) = some (qZ w os) := by
  refine go_top (congrFun (qpre w) os) (piece_block (congrFun (qblk w) os) ?_)
  have e : restOf (behindTheImports prg) qenv qB ⟨0, 0, 0, 0⟩ qF = restOf (qcut 0 3 ++ (qcut 3 1 ++ (qcut 4 1 ++ (qcut 5 7 ++ (qcut 12 15 ++ (qcut 27 1 ++ (qcut 28 1 ++ (qcut 29 1 ++ (qcut 30 1 ++ (qcut 31 1 ++ (qcut 32 2 ++ (qcut 34 1 ++ (qcut 35 1 ++ (qcut 36 8 ++ ([]))))))))))))))) qenv qB ⟨0, 0, 0, 0⟩ qF := congrArg (fun l => restOf l qenv qB ⟨0, 0, 0, 0⟩ qF) qbody
  rw [e]
  refine piece_app (segRun_of (congrFun (qp1 w) os)) ?_
  refine piece_app (segRun_of (congrFun (qp2 w) os)) ?_
  refine piece_app (segRun_of (congrFun (qp3 w) os)) ?_
  refine piece_app (segRun_of (congrFun (qp4 w) os)) ?_
  refine piece_app (segRun_of (congrFun (qp5 w) os)) ?_
  refine piece_app (segRun_of (congrFun (qp6 w) os)) ?_
  refine piece_app (segRun_of (congrFun (qp7 w) os)) ?_
  refine piece_app (segRun_of (congrFun (qp8 w) os)) ?_
  refine piece_app (segRun_of (congrFun (qp9 w) os)) ?_
  refine piece_app (segRun_of (congrFun (qp10 w) os)) ?_
  refine piece_app (segRun_of (congrFun (qp11 w) os)) ?_
  refine piece_app (segRun_of (congrFun (qp12 w) os)) ?_
  refine piece_app (segRun_of (congrFun (qp13 w) os)) ?_
  refine piece_app (segRun_of (congrFun (qp14 w) os)) ?_
  exact congrFun (qend w) os
noncomputable def qview : Program := { prg with main := { prg.main with body := [0, 2, 3, 4, 5, 7, 8, 9, 10, 12, 13, 14, 15, 16, 17, 18, 19, 20, 21, 22, 23, 24, 25, 26, 27, 28, 29, 30, 31, 33, 34, 35, 37, 38, 39, 40, 41, 42, 43].map (nthS top) } }
noncomputable def qloose : List Str := [Str.ofString "MOST_BITS", Str.ofString "BitsRewriter"]
noncomputable def qlv : List (Str × WData) := [(Str.ofString "MOST_BITS", .int 65536)]
noncomputable abbrev qrow := PySem.Challenge.rw_sj0105_02.row
theorem qsize (w : World) : ((boot_heap w.params).isNs mainGlobals && (Array.mk [] : Array GenState).size == 0, (boot_heap w.params).objs.size, (boot_heap w.params).nsMap mainGlobals "__annotations__") = (true, 11, some (.ref 6)) := by
  rw [PySem.W.Fast.te8920871248978507458]; kernel_rfl
theorem ql1 (w : World) (os : OsState) : (staticsOk (importedModules prg.main.body) (boot_heap w.params) (qH w.params) && namesBound prg (qH w.params) && gensDone (qZ w os) && laidKept (boot_heap w.params) (qH w.params)) = true := by
  rw [PySem.W.Fast.te5923862056798008813]; kernel_rfl
theorem ql2 (w : World) (os : OsState) : PyProof.Rows.seen (List.map (fun x => x.name) (recsOf qview)) (ownsOf qview) [] { qZ w os with gens := #[] } = expectedOf qview := by
  rw [PySem.W.Fast.te5160383126252970620, PySem.W.Fast.te3399658132070893891, PySem.W.Fast.te5991557255702980513]; kernel_rfl
theorem ql3 (w : World) (os : OsState) : (qZ w os).heap.bltView = bltViewBooted := by kernel_rfl
theorem ql5 (w : World) (os : OsState) : tabsOk qview (qZ w os) = true := by
  rw [PySem.W.Fast.te479339242167458305]; kernel_rfl
theorem ql6 (w : World) (os : OsState) : pinSeenD qview (drecsOf qview) (qZ w os) = pinGoodD (drecsOf qview) := by
  rw [PySem.W.Fast.te16090120013241838585, PySem.W.Fast.te3247288618530077131]; kernel_rfl
theorem ql7 (w : World) (os : OsState) : plainSeenE qview (looseW qview qloose) (qZ w os) = plainGoodE qview (looseW qview qloose) := by
  rw [PySem.W.Fast.te2386780881361962483, PySem.W.Fast.te821141287760084731]; kernel_rfl
theorem ql8 (w : World) (os : OsState) : plainSeenD qview qloose (qZ w os) = plainGoodD qview qloose := by
  rw [PySem.W.Fast.te11698064438423848299]; kernel_rfl
theorem ql9 (w : World) (os : OsState) : wideSeen qview (qZ w os) = wideGood qview := by
  rw [PySem.W.Fast.te7317090234206586261]; kernel_rfl
theorem ql10 (w : World) (os : OsState) : clsSeenW qview qloose (qZ w os) = clsGoodW qview qloose := by
  rw [PySem.W.Fast.te7369524293546568484]; kernel_rfl
theorem ql11 (w : World) (os : OsState) : qhook.obs (qZ w os) = qhook.val w := by kernel_rfl
theorem ql0 (w : World) (os : OsState) : openSeen qview qloose (importedModules prg.main.body) (fun s => xlAt qview qlv s && recOk qrow.records s) true (qZ w os) = openGood qview qloose := by
  refine looks_pair (ql2 w os) (looks_pair (ql3 w os) (looks_pair ?_ (looks_pair (ql5 w os) (looks_pair (ql6 w os) (looks_pair (ql7 w os) (looks_pair (ql8 w os) (looks_pair (ql9 w os) (ql10 w os))))))))
  rw [PySem.W.Fast.te10880121769531294198, PySem.W.Fast.te821141287760084731, PySem.W.Fast.te3399658132070893891, PySem.W.Fast.te7409074990110511671, PySem.W.Fast.te13664370479719496447, PySem.W.Fast.te14722251495701143533, PySem.W.Fast.te5923862056798008813, PySem.W.Fast.te10994771534591457954]; kernel_rfl
theorem qleft : LeftO prg qview qloose (fun s => xlAt qview qlv s && recOk qrow.records s) qhook.obs qhook.val 13580 :=
  LeftO.of_pieces (boot_open (by kernel_rfl) (by kernel_rfl) (fun s => rfl)) qsize qrun (by kernel_rfl) (fun w => funext fun os => looks_pair (ql1 w os) (looks_pair (ql0 w os) (ql11 w os)))
noncomputable def qd : DefRec := { name := Str.ofString "law", params := qfA (nthS top 43), body := fnBody (nthS top 43), scope := qfS (nthS top 43), pos := ⟨696, 0, 717, 15⟩ }
theorem qs1 : noRoadLSs { strict := !(importedModules PySem.Challenge.rw_sj0105_02.row.prog.main.body).all cThrough.contains, foot := none, bare := (["vars", "dir", "locals"] : List Str).filter (readsOut PySem.Challenge.rw_sj0105_02.row.prog PySem.Challenge.rw_sj0105_02.row.prog.main.body) } PySem.Challenge.rw_sj0105_02.row.prog.main.body = true := by
  rw [PySem.W.Fast.te8326940854005059898]; kernel_rfl
theorem qs2 : namesResolve PySem.Challenge.rw_sj0105_02.row.prog = true := by
  rw [PySem.W.Fast.te8377067652309620493]; kernel_rfl
theorem qs3 : (namesMeet PySem.Challenge.rw_sj0105_02.row.prog PySem.Challenge.rw_sj0105_02.row.prog.main.body fun _ n => attrL n) = true := by
  rw [PySem.W.Fast.te17119622794617984870]; kernel_rfl
theorem qs4 : namesMeet PySem.Challenge.rw_sj0105_02.prog PySem.Challenge.rw_sj0105_02.above (fun _ n => !PySem.Challenge.rw_sj0105_02.own.contains n) = true := by
  rw [PySem.W.Fast.te17119622794617984870]; kernel_rfl
theorem qsaid : OpenLaw.wellSaid PySem.Challenge.rw_sj0105_02 = true := by
  unfold OpenLaw.wellSaid OpenRow.wellSaid OpenRow.partSaid looksOpen
  repeat' (with_reducible refine look_both ?_ ?_)
  all_goals first | with_reducible exact qs1 | with_reducible exact qs2 | with_reducible exact qs3 | with_reducible exact qs4 | (rw [PySem.W.Fast.te8326940854005059898]; kernel_rfl) | (rw [PySem.W.Fast.te17119622794617984870]; kernel_rfl) | kernel_rfl
theorem hd (walk : WalkO qview qloose (XL qview qlv) qhook.says qrow.toRowW qd [] fun f vs => call f vs) : PySem.Challenge.rw_sj0105_02.Holds :=
  holds_law qsaid fun said => holds_open (q := qview) (loose := qloose) (Xt := fun s => xlAt qview qlv s && recOk qrow.records s) (XP := XL qview qlv) (Yf := qhook.obs) (Ya := qhook.val) (YP := qhook.says) (d := qd) (kwd := []) (N := 13580) qleft qhook.of qhook.keeps (fun s e => xl_of s (Bool.and_eq_true_iff.mp e).1) XL.keeps
    (by kernel_rfl) (by kernel_rfl) (by kernel_rfl) (fun s e => recFacts_of (Bool.and_eq_true_iff.mp e).2) (by kernel_rfl) said (by kernel_rfl) ⟨rfl, rfl, rfl, rfl, rfl, by decide +kernel⟩ ⟨[.list []], by decide +kernel, by decide +kernel⟩ walk
noncomputable def AllLen {α : Type} : Nat → (List α → Prop) → Prop
  | 0, p => p []
  | n + 1, p => ∀ a, AllLen n (fun l => p (a :: l))
theorem allLen {α : Type} : ∀ (n : Nat) {p : List α → Prop}, AllLen n p → ∀ xs : List α, xs.length = n → p xs
  | 0, _, H, [], _ => H
  | n + 1, _, H, a :: l, h => allLen n (H a) l (Nat.succ.inj h)
theorem len1 {α : Type} {p : List α → Prop} (H : ∀ a, p [a]) : ∀ xs : List α, xs.length = 1 → p xs := allLen 1 H
theorem len2 {α : Type} {p : List α → Prop} (H : ∀ a b, p [a, b]) : ∀ xs : List α, xs.length = 2 → p xs := allLen 2 H
theorem len3 {α : Type} {p : List α → Prop} (H : ∀ a b c, p [a, b, c]) : ∀ xs : List α, xs.length = 3 → p xs := allLen 3 H
theorem len4 {α : Type} {p : List α → Prop} (H : ∀ a b c d, p [a, b, c, d]) : ∀ xs : List α, xs.length = 4 → p xs := allLen 4 H
theorem len5 {α : Type} {p : List α → Prop} (H : ∀ a b c d e, p [a, b, c, d, e]) : ∀ xs : List α, xs.length = 5 → p xs := allLen 5 H
theorem fn_Bank_init {w : World} {B : Heap} (X : (qK w.params).In B) (lim : B.NoLimit) : FnIs B 213 ps_Bank_init [] nm_Bank_init bd_Bank_init :=
  fnIs_of X lim (by kernel_rfl) (by kernel_rfl) (by kernel_rfl) (by kernel_rfl) (len1 fun _ => by kernel_rfl) rfl (by decide +kernel) (by decide +kernel) (by decide +kernel)
theorem fn_Bank_declare_fun {w : World} {B : Heap} (X : (qK w.params).In B) (lim : B.NoLimit) : FnIs B 255 ps_Bank_declare_fun [] nm_Bank_declare_fun bd_Bank_declare_fun :=
  fnIs_of X lim (by kernel_rfl) (by kernel_rfl) (by kernel_rfl) (by kernel_rfl) (len4 fun _ _ _ _ => by kernel_rfl) rfl (by decide +kernel) (by decide +kernel) (by decide +kernel)
theorem fn_Bank_fresh_const {w : World} {B : Heap} (X : (qK w.params).In B) (lim : B.NoLimit) : FnIs B 269 ps_Bank_fresh_const [] nm_Bank_fresh_const bd_Bank_fresh_const :=
  fnIs_of X lim (by kernel_rfl) (by kernel_rfl) (by kernel_rfl) (by kernel_rfl) (len3 fun _ _ _ => by kernel_rfl) rfl (by decide +kernel) (by decide +kernel) (by decide +kernel)
theorem fn_Bank_op {w : World} {B : Heap} (X : (qK w.params).In B) (lim : B.NoLimit) : FnIs B 304 ps_Bank_op [] nm_Bank_op bd_Bank_op :=
  fnIs_of X lim (by kernel_rfl) (by kernel_rfl) (by kernel_rfl) (by kernel_rfl) (len2 fun _ _ => by kernel_rfl) rfl (by decide +kernel) (by decide +kernel) (by decide +kernel)
theorem fn_Bank_args {w : World} {B : Heap} (X : (qK w.params).In B) (lim : B.NoLimit) : FnIs B 311 ps_Bank_args [] nm_Bank_args bd_Bank_args :=
  fnIs_of X lim (by kernel_rfl) (by kernel_rfl) (by kernel_rfl) (by kernel_rfl) (len2 fun _ _ => by kernel_rfl) rfl (by decide +kernel) (by decide +kernel) (by decide +kernel)
theorem fn_Bank_data {w : World} {B : Heap} (X : (qK w.params).In B) (lim : B.NoLimit) : FnIs B 325 ps_Bank_data [] nm_Bank_data bd_Bank_data :=
  fnIs_of X lim (by kernel_rfl) (by kernel_rfl) (by kernel_rfl) (by kernel_rfl) (len2 fun _ _ => by kernel_rfl) rfl (by decide +kernel) (by decide +kernel) (by decide +kernel)
theorem fn_Bank_width {w : World} {B : Heap} (X : (qK w.params).In B) (lim : B.NoLimit) : FnIs B 332 ps_Bank_width [] nm_Bank_width bd_Bank_width :=
  fnIs_of X lim (by kernel_rfl) (by kernel_rfl) (by kernel_rfl) (by kernel_rfl) (len2 fun _ _ => by kernel_rfl) rfl (by decide +kernel) (by decide +kernel) (by decide +kernel)
theorem fn_Bank_make {w : World} {B : Heap} (X : (qK w.params).In B) (lim : B.NoLimit) : FnIs B 346 ps_Bank_make [] nm_Bank_make bd_Bank_make :=
  fnIs_of X lim (by kernel_rfl) (by kernel_rfl) (by kernel_rfl) (by kernel_rfl) (len5 fun _ _ _ _ _ => by kernel_rfl) rfl (by decide +kernel) (by decide +kernel) (by decide +kernel)
theorem fn_Bank_want {w : World} {B : Heap} (X : (qK w.params).In B) (lim : B.NoLimit) : FnIs B 367 ps_Bank_want [] nm_Bank_want bd_Bank_want :=
  fnIs_of X lim (by kernel_rfl) (by kernel_rfl) (by kernel_rfl) (by kernel_rfl) (len4 fun _ _ _ _ => by kernel_rfl) rfl (by decide +kernel) (by decide +kernel) (by decide +kernel)
theorem fn_Bank_false_term {w : World} {B : Heap} (X : (qK w.params).In B) (lim : B.NoLimit) : FnIs B 388 ps_Bank_false_term [] nm_Bank_false_term bd_Bank_false_term :=
  fnIs_of X lim (by kernel_rfl) (by kernel_rfl) (by kernel_rfl) (by kernel_rfl) (len1 fun _ => by kernel_rfl) rfl (by decide +kernel) (by decide +kernel) (by decide +kernel)
theorem fn_Bank_true_term {w : World} {B : Heap} (X : (qK w.params).In B) (lim : B.NoLimit) : FnIs B 381 ps_Bank_true_term [] nm_Bank_true_term bd_Bank_true_term :=
  fnIs_of X lim (by kernel_rfl) (by kernel_rfl) (by kernel_rfl) (by kernel_rfl) (len1 fun _ => by kernel_rfl) rfl (by decide +kernel) (by decide +kernel) (by decide +kernel)
theorem fn_TermBank_bv_sort {w : World} {B : Heap} (X : (qK w.params).In B) (lim : B.NoLimit) : FnIs B 638 ps_TermBank_bv_sort [] nm_TermBank_bv_sort bd_TermBank_bv_sort :=
  fnIs_of X lim (by kernel_rfl) (by kernel_rfl) (by kernel_rfl) (by kernel_rfl) (len2 fun _ _ => by kernel_rfl) rfl (by decide +kernel) (by decide +kernel) (by decide +kernel)
theorem fn_TermBank_bv_num {w : World} {B : Heap} (X : (qK w.params).In B) (lim : B.NoLimit) : FnIs B 659 ps_TermBank_bv_num [] nm_TermBank_bv_num bd_TermBank_bv_num :=
  fnIs_of X lim (by kernel_rfl) (by kernel_rfl) (by kernel_rfl) (by kernel_rfl) (len3 fun _ _ _ => by kernel_rfl) rfl (by decide +kernel) (by decide +kernel) (by decide +kernel)
theorem fn_BoolBank_eq {w : World} {B : Heap} (X : (qK w.params).In B) (lim : B.NoLimit) : FnIs B 472 ps_BoolBank_eq [] nm_BoolBank_eq bd_BoolBank_eq :=
  fnIs_of X lim (by kernel_rfl) (by kernel_rfl) (by kernel_rfl) (by kernel_rfl) (len3 fun _ _ _ => by kernel_rfl) rfl (by decide +kernel) (by decide +kernel) (by decide +kernel)
theorem fn_BoolRewriter_init {w : World} {B : Heap} (X : (qK w.params).In B) (lim : B.NoLimit) : FnIs B 748 ps_BoolRewriter_init [] nm_BoolRewriter_init bd_BoolRewriter_init :=
  fnIs_of X lim (by kernel_rfl) (by kernel_rfl) (by kernel_rfl) (by kernel_rfl) (len2 fun _ _ => by kernel_rfl) rfl (by decide +kernel) (by decide +kernel) (by decide +kernel)
theorem fn_BitsRewriter_is_bits {w : World} {B : Heap} (X : (qK w.params).In B) (lim : B.NoLimit) : FnIs B 899 ps_BitsRewriter_is_bits [] nm_BitsRewriter_is_bits bd_BitsRewriter_is_bits :=
  fnIs_of X lim (by kernel_rfl) (by kernel_rfl) (by kernel_rfl) (by kernel_rfl) (len2 fun _ _ => by kernel_rfl) rfl (by decide +kernel) (by decide +kernel) (by decide +kernel)
theorem fn_BitsRewriter_number {w : World} {B : Heap} (X : (qK w.params).In B) (lim : B.NoLimit) : FnIs B 913 ps_BitsRewriter_number [] nm_BitsRewriter_number bd_BitsRewriter_number :=
  fnIs_of X lim (by kernel_rfl) (by kernel_rfl) (by kernel_rfl) (by kernel_rfl) (len3 fun _ _ _ => by kernel_rfl) rfl (by decide +kernel) (by decide +kernel) (by decide +kernel)
theorem fn_BitsRewriter_equal_number {w : World} {B : Heap} (X : (qK w.params).In B) (lim : B.NoLimit) : FnIs B 1034 ps_BitsRewriter_equal_number [.int 0] nm_BitsRewriter_equal_number bd_BitsRewriter_equal_number :=
  fnIs_ofDK (T := 1027) (o := { cls := .type "tuple", data := .seq #[.int 0 1534] }) X lim (by kernel_rfl) (by kernel_rfl) (by kernel_rfl) (by kernel_rfl) (by kernel_rfl) (by kernel_rfl) rfl (fun _ _ => .int 0 1534) (len3 fun _ _ _ => by kernel_rfl) rfl rfl (by decide +kernel) (by decide +kernel) (by decide +kernel)
theorem fn0_BitsRewriter_equal_number {w : World} {B : Heap} (X : (qK w.params).In B) (lim : B.NoLimit) : FnIs B 1034 ps_BitsRewriter_equal_number [] nm_BitsRewriter_equal_number bd_BitsRewriter_equal_number :=
  fnIs_of0D (T := 1027) (o := { cls := .type "tuple", data := .seq #[.int 0 1534] }) X lim (by kernel_rfl) (by kernel_rfl) (by kernel_rfl) (by kernel_rfl) (by kernel_rfl) (by kernel_rfl) rfl (len4 fun _ _ _ _ => by kernel_rfl) rfl (by decide +kernel) (by decide +kernel) (by decide +kernel)
theorem fn_mask_of {w : World} {B : Heap} (X : (qK w.params).In B) (lim : B.NoLimit) : FnIs B 142 ps_mask_of [] nm_mask_of bd_mask_of :=
  fnIs_of X lim (by kernel_rfl) (by kernel_rfl) (by kernel_rfl) (by kernel_rfl) (len1 fun _ => by kernel_rfl) rfl (by decide +kernel) (by decide +kernel) (by decide +kernel)
theorem fn_one_value {w : World} {B : Heap} (X : (qK w.params).In B) (lim : B.NoLimit) : FnIs B 156 ps_one_value [] nm_one_value bd_one_value :=
  fnIs_of X lim (by kernel_rfl) (by kernel_rfl) (by kernel_rfl) (by kernel_rfl) (len3 fun _ _ _ => by kernel_rfl) rfl (by decide +kernel) (by decide +kernel) (by decide +kernel)
theorem fn_two_value {w : World} {B : Heap} (X : (qK w.params).In B) (lim : B.NoLimit) : FnIs B 184 ps_two_value [] nm_two_value bd_two_value :=
  fnIs_of X lim (by kernel_rfl) (by kernel_rfl) (by kernel_rfl) (by kernel_rfl) (len4 fun _ _ _ _ => by kernel_rfl) rfl (by decide +kernel) (by decide +kernel) (by decide +kernel)
theorem fn_law_draw {w : World} {B : Heap} (X : (qK w.params).In B) (lim : B.NoLimit) : FnIs B 1060 ps_law_draw [] nm_law_draw bd_law_draw :=
  fnIs_of X lim (by kernel_rfl) (by kernel_rfl) (by kernel_rfl) (by kernel_rfl) (len2 fun _ _ => by kernel_rfl) rfl (by decide +kernel) (by decide +kernel) (by decide +kernel)
theorem fn_law_turns {w : World} {B : Heap} (X : (qK w.params).In B) (lim : B.NoLimit) : FnIs B 1067 ps_law_turns [] nm_law_turns bd_law_turns :=
  fnIs_of X lim (by kernel_rfl) (by kernel_rfl) (by kernel_rfl) (by kernel_rfl) (len2 fun _ _ => by kernel_rfl) rfl (by decide +kernel) (by decide +kernel) (by decide +kernel)
theorem fn_law_turn {w : World} {B : Heap} (X : (qK w.params).In B) (lim : B.NoLimit) : FnIs B 1074 ps_law_turn [] nm_law_turn bd_law_turn :=
  fnIs_of X lim (by kernel_rfl) (by kernel_rfl) (by kernel_rfl) (by kernel_rfl) (len4 fun _ _ _ _ => by kernel_rfl) rfl (by decide +kernel) (by decide +kernel) (by decide +kernel)
theorem fn_law_values {w : World} {B : Heap} (X : (qK w.params).In B) (lim : B.NoLimit) : FnIs B 1079 ps_law_values [] nm_law_values bd_law_values :=
  fnIs_of X lim (by kernel_rfl) (by kernel_rfl) (by kernel_rfl) (by kernel_rfl) (len3 fun _ _ _ => by kernel_rfl) rfl (by decide +kernel) (by decide +kernel) (by decide +kernel)
theorem fn_law_joined {w : World} {B : Heap} (X : (qK w.params).In B) (lim : B.NoLimit) : FnIs B 1084 ps_law_joined [] nm_law_joined bd_law_joined :=
  fnIs_of X lim (by kernel_rfl) (by kernel_rfl) (by kernel_rfl) (by kernel_rfl) (len4 fun _ _ _ _ => by kernel_rfl) rfl (by decide +kernel) (by decide +kernel) (by decide +kernel)
theorem fn_law_truths {w : World} {B : Heap} (X : (qK w.params).In B) (lim : B.NoLimit) : FnIs B 1089 ps_law_truths [] nm_law_truths bd_law_truths :=
  fnIs_of X lim (by kernel_rfl) (by kernel_rfl) (by kernel_rfl) (by kernel_rfl) (len5 fun _ _ _ _ _ => by kernel_rfl) rfl (by decide +kernel) (by decide +kernel) (by decide +kernel)
theorem supBody : ∃ p0 p1 apos cpos epos : Pos, bd_TermBank_init = .Expr (.Call (.Attribute (.Call (.Name (Str.ofString "super") p0) [] [] p1) (Str.ofString "__init__") apos) [] [] cpos) epos :: bd_TermBank_init.tail ∧ (apos.endLine == cpos.line) = true := ⟨_, _, _, _, _, rfl, rfl⟩
theorem supOf {w : World} : SuperIs prg (qK w.params) 732 631 213 bd_TermBank_init.tail :=
  ⟨by kernel_rfl, (let ⟨p0, p1, apos, cpos, epos, h1, h2⟩ := supBody; ⟨p0, p1, apos, cpos, epos, (show _ = FuncBody.stmts bd_TermBank_init by kernel_rfl).trans (congrArg _ h1), h2⟩), by kernel_rfl, by kernel_rfl, fun x => by kernel_rfl, by kernel_rfl, by kernel_rfl, by kernel_rfl, by kernel_rfl, by kernel_rfl, by kernel_rfl, by kernel_rfl, by kernel_rfl, by kernel_rfl, by kernel_rfl, by kernel_rfl, by kernel_rfl⟩
theorem cxOf {w : World} {B : Heap} {p : Program} {loose : List Str} {mg mb : Str → Option Value} (X : (qK w.params).In B) (T : TopRead p loose mg mb B) : Nonempty (Cx B) := ⟨{
  K := (qK w.params)
  X := X
  cTB := 732
  cBR := 1051
  f_Bank_init := 213
  F_Bank_init := fn_Bank_init X T.nolimit
  f_Bank_declare_fun := 255
  F_Bank_declare_fun := fn_Bank_declare_fun X T.nolimit
  f_Bank_fresh_const := 269
  F_Bank_fresh_const := fn_Bank_fresh_const X T.nolimit
  f_Bank_op := 304
  F_Bank_op := fn_Bank_op X T.nolimit
  f_Bank_args := 311
  F_Bank_args := fn_Bank_args X T.nolimit
  f_Bank_data := 325
  F_Bank_data := fn_Bank_data X T.nolimit
  f_Bank_width := 332
  F_Bank_width := fn_Bank_width X T.nolimit
  f_Bank_make := 346
  F_Bank_make := fn_Bank_make X T.nolimit
  f_Bank_want := 367
  F_Bank_want := fn_Bank_want X T.nolimit
  f_Bank_false_term := 388
  F_Bank_false_term := fn_Bank_false_term X T.nolimit
  f_Bank_true_term := 381
  F_Bank_true_term := fn_Bank_true_term X T.nolimit
  f_TermBank_init := 631
  f_TermBank_bv_sort := 638
  F_TermBank_bv_sort := fn_TermBank_bv_sort X T.nolimit
  f_TermBank_bv_num := 659
  F_TermBank_bv_num := fn_TermBank_bv_num X T.nolimit
  f_BoolBank_eq := 472
  F_BoolBank_eq := fn_BoolBank_eq X T.nolimit
  f_BoolRewriter_init := 748
  F_BoolRewriter_init := fn_BoolRewriter_init X T.nolimit
  f_BitsRewriter_is_bits := 899
  F_BitsRewriter_is_bits := fn_BitsRewriter_is_bits X T.nolimit
  f_BitsRewriter_number := 913
  F_BitsRewriter_number := fn_BitsRewriter_number X T.nolimit
  f_BitsRewriter_equal_number := 1034
  F0_BitsRewriter_equal_number := fn0_BitsRewriter_equal_number X T.nolimit
  F_BitsRewriter_equal_number := fn_BitsRewriter_equal_number X T.nolimit
  f_mask_of := 142
  F_mask_of := fn_mask_of X T.nolimit
  f_one_value := 156
  F_one_value := fn_one_value X T.nolimit
  f_two_value := 184
  F_two_value := fn_two_value X T.nolimit
  f_law_draw := 1060
  F_law_draw := fn_law_draw X T.nolimit
  f_law_turns := 1067
  F_law_turns := fn_law_turns X T.nolimit
  f_law_turn := 1074
  F_law_turn := fn_law_turn X T.nolimit
  f_law_values := 1079
  F_law_values := fn_law_values X T.nolimit
  f_law_joined := 1084
  F_law_joined := fn_law_joined X T.nolimit
  f_law_truths := 1089
  F_law_truths := fn_law_truths X T.nolimit
  f_law := 1094
  cls_cTB := ⟨by kernel_rfl, by kernel_rfl, by kernel_rfl⟩
  sto_cTB := ⟨by kernel_rfl, by kernel_rfl, by kernel_rfl⟩
  cls_cBR := ⟨by kernel_rfl, by kernel_rfl, by kernel_rfl⟩
  sto_cBR := ⟨by kernel_rfl, by kernel_rfl, by kernel_rfl⟩
  top := ⟨p, loose, mg, mb, T⟩
  sup := supOf
  mak_cTB := ⟨by kernel_rfl, by kernel_rfl, by kernel_rfl⟩
  mak_cBR := ⟨by kernel_rfl, by kernel_rfl, by kernel_rfl⟩
  M_Bank_declare_fun := ⟨by kernel_rfl, by kernel_rfl⟩
  M_Bank_fresh_const := ⟨by kernel_rfl, by kernel_rfl⟩
  M_Bank_op := ⟨by kernel_rfl, by kernel_rfl⟩
  M_Bank_args := ⟨by kernel_rfl, by kernel_rfl⟩
  M_Bank_data := ⟨by kernel_rfl, by kernel_rfl⟩
  M_Bank_width := ⟨by kernel_rfl, by kernel_rfl⟩
  M_Bank_make := ⟨by kernel_rfl, by kernel_rfl⟩
  M_Bank_want := ⟨by kernel_rfl, by kernel_rfl⟩
  M_Bank_false_term := ⟨by kernel_rfl, by kernel_rfl⟩
  M_Bank_true_term := ⟨by kernel_rfl, by kernel_rfl⟩
  M_TermBank_bv_sort := ⟨by kernel_rfl, by kernel_rfl⟩
  M_TermBank_bv_num := ⟨by kernel_rfl, by kernel_rfl⟩
  M_BoolBank_eq := ⟨by kernel_rfl, by kernel_rfl⟩
  M_BitsRewriter_is_bits := ⟨by kernel_rfl, by kernel_rfl⟩
  M_BitsRewriter_number := ⟨by kernel_rfl, by kernel_rfl⟩
  M_BitsRewriter_equal_number := ⟨by kernel_rfl, by kernel_rfl⟩
  A_sort_names := ⟨by kernel_rfl⟩
  T_sort_names := ⟨by kernel_rfl⟩
  A_sort_widths := ⟨by kernel_rfl⟩
  T_sort_widths := ⟨by kernel_rfl⟩
  A_fun_names := ⟨by kernel_rfl⟩
  T_fun_names := ⟨by kernel_rfl⟩
  A_fun_args := ⟨by kernel_rfl⟩
  T_fun_args := ⟨by kernel_rfl⟩
  A_fun_results := ⟨by kernel_rfl⟩
  T_fun_results := ⟨by kernel_rfl⟩
  A_fresh_count := ⟨by kernel_rfl⟩
  T_fresh_count := ⟨by kernel_rfl⟩
  A_term_ops := ⟨by kernel_rfl⟩
  T_term_ops := ⟨by kernel_rfl⟩
  A_term_args := ⟨by kernel_rfl⟩
  T_term_args := ⟨by kernel_rfl⟩
  A_term_sorts := ⟨by kernel_rfl⟩
  T_term_sorts := ⟨by kernel_rfl⟩
  A_term_datas := ⟨by kernel_rfl⟩
  T_term_datas := ⟨by kernel_rfl⟩
  A_numbers := ⟨by kernel_rfl⟩
  T_numbers := ⟨by kernel_rfl⟩
  A_true_number := ⟨by kernel_rfl⟩
  T_true_number := ⟨by kernel_rfl⟩
  A_false_number := ⟨by kernel_rfl⟩
  T_false_number := ⟨by kernel_rfl⟩
  A_bv_numbers := ⟨by kernel_rfl⟩
  T_bv_numbers := ⟨by kernel_rfl⟩
  A_bank := ⟨by kernel_rfl⟩
  T_bank := ⟨by kernel_rfl⟩
  A_yes := ⟨by kernel_rfl⟩
  T_yes := ⟨by kernel_rfl⟩
  A_no := ⟨by kernel_rfl⟩
  T_no := ⟨by kernel_rfl⟩
  A_known := ⟨by kernel_rfl⟩
  T_known := ⟨by kernel_rfl⟩
  G_TermBank := globIs_of X T (by kernel_rfl)
  G_BitsRewriter := globIs_of X T (by kernel_rfl)
  G_BOOL := ⟨418, globIs_of X T (by kernel_rfl)⟩
  G_WIDEST := ⟨424, globIs_of X T (by kernel_rfl)⟩
  G_DEEPEST := ⟨1125, globIs_of X T (by kernel_rfl)⟩
  G_mask_of := globIs_of X T (by kernel_rfl)
  G_one_value := globIs_of X T (by kernel_rfl)
  G_two_value := globIs_of X T (by kernel_rfl)
  G_law_draw := globIs_of X T (by kernel_rfl)
  G_law_turns := globIs_of X T (by kernel_rfl)
  G_law_turn := globIs_of X T (by kernel_rfl)
  G_law_values := globIs_of X T (by kernel_rfl)
  G_law_joined := globIs_of X T (by kernel_rfl)
  G_law_truths := globIs_of X T (by kernel_rfl)
  U_len := builtIs_of X T (by kernel_rfl) (by boot_by_name) (by decide)
  U_range := builtIs_of X T (by kernel_rfl) (by boot_by_name) (by decide)
  U_tuple := builtIs_of X T (by kernel_rfl) (by boot_by_name) (by decide)
  U_list := builtIs_of X T (by kernel_rfl) (by boot_by_name) (by decide)
  U_min := builtIs_of X T (by kernel_rfl) (by boot_by_name) (by decide)
  U_max := builtIs_of X T (by kernel_rfl) (by boot_by_name) (by decide)
  U_zip := builtIs_of X T (by kernel_rfl) (by boot_by_name) (by decide)
  U_super := builtIs_of X T (by kernel_rfl) (by boot_by_name) (by decide)
}⟩

theorem cells_of {cm : Str → Option Value} {cs : List (Str × Addr)} {news : List (Addr × Obj)} (Y : CellsAre cm cs news) : ∀ {x : Str} {c : Addr}, cs.lookup x = some c → ∃ o, (c, o) ∈ news ∧ o.data = .cell (cm x) := by
  induction Y with
  | nil => intro x c h; cases h
  | cons hd _ ih =>
    rename_i n c' o cs' cells' _
    intro x c h
    rw [List.lookup_cons] at h
    split at h
    · rename_i e
      cases h
      have := beq_iff_eq.mp e
      subst this
      exact ⟨o, List.mem_cons_self, hd⟩
    · obtain ⟨o', h1, h2⟩ := ih h
      exact ⟨o', List.mem_cons_of_mem _ h1, h2⟩
/-- the law's own frame, as the head leaves it -/
theorem law_sr {P : Params} {B : Heap} {L : Addr} {m cm : Str → Option Value} {env : Env} {names : Names} {vals : Vals} {cs : List (Str × Addr)} {news : List (Addr × Obj)} {s : Shared} (ok : EnvOk env names) (hL : env.locals = L) (hcs : env.cells = cs) (F : Fr B L s.heap m) (N : News B L s.heap news) (Y : CellsAre cm cs news)
    (hpw : cs.Pairwise fun x y => x.2 ≠ y.2) (hcn : ∀ x, names.lookup x = some .cell → (cs.lookup x).isSome = true) (low : sysModules < B.objs.size) (hsm : ∃ o, B.get? cStatics = some o) (hlen : vals.length = names.length)
    (hv0 : ∀ (i : Nat) (x : Str) (k : NameKind) (v : V), names[i]? = some (x, k) → vals[i]? = some (some v) → k = .local ∧ ∃ a, m x = some a ∧ VR [] s.heap v a) : SR P B env names vals [] [] s := by
  have cell : ∀ (x : Str) (c : Addr), env.cells.lookup x = some c → s.heap.IsCell c (cm x) ∧ c ≠ L ∧ B.get? c = none := by
    intro x c h
    rw [hcs] at h
    obtain ⟨o, h1, h2⟩ := cells_of Y h
    exact ⟨⟨o, (N _ h1).1, h2⟩, (N _ h1).2.1, (N _ h1).2.2⟩
  obtain ⟨o3, ho3⟩ := hsm
  refine ⟨ok, ⟨⟨rfl, List.nodup_nil, fun i o a h => by simp at h⟩, F.keep, fun a h => (by simp at h), ⟨cStatics, o3, by decide, ho3⟩, fun a h => (by simp at h)⟩, ⟨hlen, ⟨m, by rw [hL]; exact F.ns, fun i x v h1 h2 => (hv0 i x _ v h1 h2).2⟩, fun i x k v h1 h2 h3 => ?_, fun i x h1 => ?_, by rw [hcs]; exact hpw, by simp, fun x c h => ⟨by simp, by rw [hL]; exact (cell x c h).2.1⟩, fun x c h => ?_, ?_⟩⟩
  · have := (hv0 i x k v h1 h3).1
    subst this
    rcases h2 with h2 | h2 <;> cases h2
  · obtain ⟨c, hc⟩ := Option.isSome_iff_exists.mp (hcn x (lookup_of_get ok.nod h1))
    rw [← hcs] at hc
    exact ⟨c, _, hc, (cell x c hc).1, (cell x c hc).2.2⟩
  · obtain ⟨o, ho, _⟩ := (cell x c h).1
    exact ⟨o, ho⟩
  · rw [hL]
    cases e : B.get? L with
    | none => rfl
    | some o => exact absurd (Heap.lt_size e) (Nat.not_lt.mpr F.above)
theorem hv0_of {h : Heap} {m : Str → Option Value} {names : Names} {x0 : Str} {v0 : V} {rest : Vals} (hr : ∀ o ∈ rest, o = none) (h0 : names[0]? = some (x0, .local)) (hm : ∃ a, m x0 = some a ∧ VR [] h v0 a) :
    ∀ (i : Nat) (x : Str) (k : NameKind) (v : V), names[i]? = some (x, k) → (some v0 :: rest)[i]? = some (some v) → k = .local ∧ ∃ a, m x = some a ∧ VR [] h v a := by
  intro i x k v h1 h2
  cases i with
  | zero =>
    rw [h0] at h1
    simp at h1 h2
    obtain ⟨rfl, rfl⟩ := h1
    subst h2
    exact ⟨rfl, hm⟩
  | succ i =>
    rw [List.getElem?_cons_succ] at h2
    cases hr _ (List.mem_of_getElem? h2)
theorem law_end_of {w : World} {names : Names} {body : List Stmt} {vals : Vals} {env : Env} {s s₁ : Shared} {A : Around} {E : Value → Shared → Prop} {prog : Program} {d : Nat} {c : ClaimW} {cl : Str → Option Addr} {mean : ExcName → Option Value} {args : List WData}
    (h : EvS prog w s₁.heap names d body vals [] (fun f _ _ => f = .ret (.bool true))) (sr : SR w.params s₁.heap env names vals [] [] s) (r : Room A d) (hg : s.gens = #[]) (hos : s.os = s₁.os) (hn : ∀ cls, c.raises args cls = false) (hp : c.post args (.bool true) args = true) :
    wpAny (model prog w) A (execs body env) (fun f s' => GoodW c cl mean args s₁ (.ok (.ret (match f with | .ret v => v | _ => .none))) s') E s := by
  refine wpAny_mono (WS.go' h env [] s sr A E r) (fun fl s' ⟨f, vals', H', ρ', b1, b2, b3, q⟩ => ?_) (fun _ _ e => e)
  subst q
  cases b1 with
  | ret hv =>
    cases hv
    exact ⟨.inl ⟨.bool true, .bool true, [], rfl, hn, .bool true, hp, unshared_nil⟩, b2.hs.base, b3.os.trans hos, b3.gens.trans hg⟩

theorem nm_law_nod : (nm_law.map (·.1)).Nodup := by decide +kernel
theorem nm_law_dbg : namesOkB nm_law = true := by decide +kernel
theorem nm_law_cells {L : Addr} : ∀ x, nm_law.lookup x = some .cell → (List.lookup x [(Str.ofString "value", L + 1 + 1 + 1), (Str.ofString "width", L + 1 + 1), (Str.ofString "bank", L + 1)]).isSome = true := by
  intro x h
  have hm : (x, NameKind.cell) ∈ nm_law := by
    clear L
    revert h
    generalize nm_law = l
    intro h
    induction l with
    | nil => cases h
    | cons p r ih =>
      obtain ⟨y, k⟩ := p
      rw [List.lookup_cons] at h
      split at h
      · rename_i e
        cases h
        rw [beq_iff_eq.mp e]
        exact List.mem_cons_self
      · exact List.mem_cons_of_mem _ (ih h)
  simp only [nm_law, List.mem_cons, Prod.mk.injEq, reduceCtorEq, and_false, false_or, or_false, and_true, List.not_mem_nil] at hm
  rcases hm with rfl | rfl | rfl <;> kernel_rfl
theorem nm_law_pw {L : Addr} : [(Str.ofString "value", L + 1 + 1 + 1), (Str.ofString "width", L + 1 + 1), (Str.ofString "bank", L + 1)].Pairwise (fun x y => x.2 ≠ y.2) := by
  simp
  show ¬ @Eq Nat _ _
  walk_at "om"
theorem law_room {env : Env} : Room (callerA.deeper env) 60 := ⟨by rw [depth_deeper, depth_caller]; decide, by rw [units_deeper, units_caller]; decide, rfl⟩

end Mine
theorem PySem.Challenge.cw_sj0105_02_holds : PySem.Challenge.rw_sj0105_02.Holds := by
  refine Mine.hd ?_
  intro w s₀ s₁ mg mb G Y fa o pm cd doc dV kV ho hd hcd hD hmg hg args vals as hpre hlay hrd hwl hlo
  have KX := kIn_of Y
  have XG := (Ground.X G).1
  have VG := (Ground.X G).2
  refine Ground.open G ?_
  intro T B D E1 E2
  try (refine guard_noD D (by decide +kernel) ?_; clear D)
  obtain ⟨_, _, M⟩ := bmod_of_top T
  try (obtain ⟨_, _, he, B0⟩ := based_of_top T rfl hmg ho hd; have he' : cd = _ := he; subst he'; clear he)
  clear hmg
  wrow_args hpre hlay hrd hwl hlo
  refine enter_call ?_
  w_top on
  try refine codeAny_mono ?_ (fun _ _ g => GoodW.toG g)
  have K0 := below_caller (Top.heap T)
  w_call any ho hd hcd hD T F
  clear hd
  k_drop
  (with_reducible rename Frag.In _ _ => KX)
  (with_reducible rename Top _ _ _ _ _ _ => T)
  (with_reducible rename Fr _ _ _ _ => F)
  (with_reducible rename News _ _ _ _ => N0)
  (with_reducible rename CellsAre _ _ _ => X0)
  (with_reducible rename IntsAre _ _ => hI)
  (with_reducible rename Heap.IsList _ _ _ => hL)
  obtain ⟨cx⟩ := Mine.cxOf KX (topRead_of T)
  have low : sysModules < _ := Ground.low (by assumption)
  have sm : ∃ o, _ = some o := (let ⟨_, ⟨o, _, _, ho, _⟩, _⟩ := T.nodigits; ⟨o, ho⟩)
  refine Mine.law_end_of (d := 60) (Mine.law_all (d := 0) cx ⟨_, hL, hI⟩ ?len) (Mine.law_sr ⟨rfl, rfl, rfl, rfl, Mine.nm_law_nod, Mine.namesOkB_is Mine.nm_law_dbg⟩ rfl rfl F N0 X0 Mine.nm_law_pw Mine.nm_law_cells low sm rfl (Mine.hv0_of (by simp) rfl ⟨_, rfl, .val _⟩)) Mine.law_room (by assumption) rfl ?n ?p
  case len => omega
  case n => exact fun cls => by kernel_rfl
  case p => kernel_rfl
